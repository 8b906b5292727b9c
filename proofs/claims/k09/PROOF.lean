import PyProof.Rows.All
import Wide.All
import OpenK.AllK
import Wide.FinOn
import KE.KStateDown
import HandS.Base
import HandS.Call
import HandS.List
import HandS.Comp
import HandS.Dict
import HandS.Iter
import HandS.Text
import HandS.Deep
import HandS.IsInst
import HandS.Style
import HandS.TupAny
import HandS.Flow
import HandS.Conv
import HandS.Ends
import HandS.Exc
import HandS.ExcOwn
import HandS.TryOnly
import HandS.More
import HandS.Words
import HandS.WordsList
import HandS.WordsExc
import HandS.Defaults
import HandS.Head0
import HandS.Head1
import HandS.Head2
import HandS.HeadEnd
import HandS.HeadHook1
import HandS.HeadHook2
import KE.DataEq
import HandS.SetBool
import HandS.TupSets
import HandS.SetKeys
import KE.SortData
import HandS.Keys
import HandS.SetFor
import HandS.ExcIs
import HandS.ClsMeth
import HandS.IterVal
import HandS.SlotsOwn
import HandS.Property
import KE.DataCmp
import OpenK.KOps
import KE.KOpsOwn
import HandS.Small
import HandS.OwnEq
import HandS.MakeKwOnly
import KE.GoesEnum
import KE.KDictPairs
import KE.LtData
import PySem.Challenge.RW_heldreads_k09_scene_parts
set_option Elab.async false
set_option linter.all false
set_option maxRecDepth 100000
set_option maxHeartbeats 4000000
set_option autoImplicit false
namespace Vl
open PySem PySem.Spec PyProof.Rows L2

/-- a value by what it holds -/
inductive D where
  | non | bl (b : Bool) | int (i : Int) | str (x : Str) | tup (xs : List D) | lst (xs : List D)
  | ro (xs : List D)
  | dct (kvs : List (Key × D)) | obj (c : Str) (fs : List (Str × D)) | ptr (v : V) | cls (c : Str)

mutual
/-- v stands for d, by what G holds -/
inductive Rep (K : PySem.W.Frag) (G : Hp) : V → D → Prop
  | non : Rep K G .non .non
  | bl (b : Bool) : Rep K G (.bl b) (.bl b)
  | int (i : Int) : Rep K G (.int i) (.int i)
  | str (x : Str) : Rep K G (.str x) (.str x)
  | ptr (v : V) : Rep K G v (.ptr v)
  | cls (c : Str) : Rep K G (.ref (He.ga K c)) (.cls c)
  | tup {p : Addr} {xs : List V} {ds : List D} (h : SqT K G p xs) (l : xs.length ≤ sizeLine) (r : Reps K G xs ds) : Rep K G (.ref p) (.tup ds)
  | lst {p : Addr} {xs : List V} {ds : List D} (h : G p = some (.lst xs)) (l : xs.length ≤ sizeLine) (r : Reps K G xs ds) : Rep K G (.ref p) (.lst ds)
  | ro {p : Addr} {xs : List V} {ds : List D} (h : SqL K G p xs) (l : xs.length ≤ sizeLine) (r : Reps K G xs ds) : Rep K G (.ref p) (.ro ds)
  | dct {p : Addr} {kvs : List (Key × V)} {ds : List (Key × D)} (h : G p = some (.dK kvs)) (l : kvs.length ≤ sizeLine) (r : RepK K G kvs ds) : Rep K G (.ref p) (.dct ds)
  | obj {p dx : Addr} {c : Str} {fs : List (Str × V)} {ds : List (Str × D)} (h : G p = some (.ins (He.ga K c) dx fs)) (r : RepF K G fs ds) : Rep K G (.ref p) (.obj c ds)
inductive Reps (K : PySem.W.Frag) (G : Hp) : List V → List D → Prop
  | nil : Reps K G [] []
  | cons {v : V} {d : D} {vs : List V} {ds : List D} (h : Rep K G v d) (t : Reps K G vs ds) : Reps K G (v :: vs) (d :: ds)
inductive RepK (K : PySem.W.Frag) (G : Hp) : List (Key × V) → List (Key × D) → Prop
  | nil : RepK K G [] []
  | cons {k : Key} {v : V} {d : D} {vs : List (Key × V)} {ds : List (Key × D)} (h : Rep K G v d) (t : RepK K G vs ds) : RepK K G ((k, v) :: vs) ((k, d) :: ds)
inductive RepF (K : PySem.W.Frag) (G : Hp) : List (Str × V) → List (Str × D) → Prop
  | nil : RepF K G [] []
  | cons {k : Str} {v : V} {d : D} {vs : List (Str × V)} {ds : List (Str × D)} (h : Rep K G v d) (t : RepF K G vs ds) : RepF K G ((k, v) :: vs) ((k, d) :: ds)
end

section
variable {K : PySem.W.Frag} {G G' : Hp}
theorem same_rd (s : Same G G') {a : Addr} {u : HO} (h : Rd G a u) : Rd G' a u := by
  rcases h with h | ⟨o, h⟩
  · exact .inl (s _ _ h)
  · exact .inr ⟨o, s _ _ h⟩
theorem same_t (s : Same G G') {a : Addr} {xs : List V} (h : SqT K G a xs) : SqT K G' a xs := by
  rcases h with h | h
  · exact .inl (same_rd s h)
  · exact .inr h
theorem same_l (s : Same G G') {a : Addr} {xs : List V} (h : SqL K G a xs) : SqL K G' a xs := s.seq h
mutual
theorem Rep.mono (s : Same G G') : ∀ {v : V} {d : D}, Rep K G v d → Rep K G' v d
  | _, _, .non => .non
  | _, _, .bl b => .bl b
  | _, _, .int i => .int i
  | _, _, .str x => .str x
  | _, _, .ptr v => .ptr v
  | _, _, .cls c => .cls c
  | _, _, .tup h l r => .tup (same_t s h) l (Reps.mono s r)
  | _, _, .lst h l r => .lst (s _ _ h) l (Reps.mono s r)
  | _, _, .ro h l r => .ro (same_l s h) l (Reps.mono s r)
  | _, _, .dct h l r => .dct (s _ _ h) l (RepK.mono s r)
  | _, _, .obj h r => .obj (s _ _ h) (RepF.mono s r)
theorem Reps.mono (s : Same G G') : ∀ {v : List V} {d : List D}, Reps K G v d → Reps K G' v d
  | _, _, .nil => .nil
  | _, _, .cons h t => .cons (Rep.mono s h) (Reps.mono s t)
theorem RepK.mono (s : Same G G') : ∀ {v : List (Key × V)} {d : List (Key × D)}, RepK K G v d → RepK K G' v d
  | _, _, .nil => .nil
  | _, _, .cons h t => .cons (Rep.mono s h) (RepK.mono s t)
theorem RepF.mono (s : Same G G') : ∀ {v : List (Str × V)} {d : List (Str × D)}, RepF K G v d → RepF K G' v d
  | _, _, .nil => .nil
  | _, _, .cons h t => .cons (Rep.mono s h) (RepF.mono s t)
end
end

/-! ### cells, slots -/
inductive Cl where
  | lst (ds : List D) | dct (kvs : List (Key × D)) | ins (c : Str) (fs : List (Str × D))
def Cl.d : Cl → D
  | .lst ds => .lst ds
  | .dct kvs => .dct kvs
  | .ins c fs => .obj c fs
def ClOk (K : PySem.W.Frag) (G : Hp) (o : HO) : Cl → Prop
  | .lst ds => ∃ xs, o = .lst xs ∧ xs.length ≤ sizeLine ∧ Reps K G xs ds
  | .dct kvs => ∃ xs, o = .dK xs ∧ xs.length ≤ sizeLine ∧ RepK K G xs kvs
  | .ins c fs => ∃ dx xs, o = .ins (He.ga K c) dx xs ∧ RepF K G xs fs
theorem ClOk.mono {K : PySem.W.Frag} {G G' : Hp} {o : HO} (s : Same G G') : ∀ {c : Cl}, ClOk K G o c → ClOk K G' o c
  | .lst _, ⟨xs, e, l, r⟩ => ⟨xs, e, l, r.mono s⟩
  | .dct _, ⟨xs, e, l, r⟩ => ⟨xs, e, l, r.mono s⟩
  | .ins _ _, ⟨dx, xs, e, r⟩ => ⟨dx, xs, e, r.mono s⟩
theorem ClOk.rep {K : PySem.W.Frag} {G : Hp} {o : HO} {p : Addr} (h : G p = some o) : ∀ {c : Cl}, ClOk K G o c → Rep K G (.ref p) c.d
  | .lst _, ⟨xs, e, l, r⟩ => .lst (by rw [h, e]) l r
  | .dct _, ⟨xs, e, l, r⟩ => .dct (by rw [h, e]) l r
  | .ins _ _, ⟨dx, xs, e, r⟩ => .obj (by rw [h, e]) r
/-! ### the world: cells that are shared -/
abbrev Wc := Cl
theorem pre_get {as as' : List Addr} {n : Nat} {a : Addr} (p : ∃ l, as' = as ++ l) (h : as[n]? = some a) : as'[n]? = some a := by
  obtain ⟨l, rfl⟩ := p
  rw [List.getElem?_append_left (List.getElem?_eq_some_iff.mp h).1]
  exact h
inductive SD where
  | un | im (d : D) | ow (c : Cl) | wp (n : Nat)
/-- what is known: the slots, the world -/
structure Gm where
  sl : List SD
  as : List Addr
  ws : List Wc
@[reducible] def Gm.set (Γ : Gm) (i : Nat) (s : SD) : Gm := ⟨Γ.sl.set i s, Γ.as, Γ.ws⟩
structure Bs where
  G : Hp
  H : Hp
  bo : Option (Nat × Addr)
  wa : List Addr
structure WdOk (K : PySem.W.Frag) (B : Bs) (G H : Hp) (σ : L2.St) (Γ : Gm) : Prop where
  wl : Γ.as.length = Γ.ws.length
  nd : Γ.as.Nodup
  pre : ∃ l, Γ.as = B.wa ++ l
  wc : ∀ (n : Nat) a c, Γ.as[n]? = some a → Γ.ws[n]? = some c → G a = none ∧ (∃ o, H a = some o ∧ ClOk K G o c) ∧ (B.H a = none ∨ a ∈ B.wa)
  wp : ∀ (i : Nat) n, Γ.sl[i]? = some (.wp n) → ∃ a, Γ.as[n]? = some a ∧ σ[i]? = some (some (.ref a))
  sp : ∀ (i : Nat) c a, Γ.sl[i]? = some (.ow c) → σ[i]? = some (some (.ref a)) → a ∉ Γ.as
structure EnvOk (K : PySem.W.Frag) (B : Bs) (G H : Hp) (σ : L2.St) (Γ : Gm) : Prop where
  len : Γ.sl.length = σ.length
  gh : Same G H
  g0 : Same B.G G
  gn : ∀ a o, G a = some o → B.G a = some o ∨ B.H a = none
  fr : ∀ a o, B.H a = some o → (∀ (i : Nat), B.bo ≠ some (i, a)) → a ∉ B.wa → H a = some o
  im : ∀ (i : Nat) d, Γ.sl[i]? = some (.im d) → ∃ v, σ[i]? = some (some v) ∧ Rep K G v d
  ow : ∀ (i : Nat) c, Γ.sl[i]? = some (.ow c) → ∃ l o, σ[i]? = some (some (.ref l)) ∧ G l = none ∧ H l = some o ∧ ClOk K G o c ∧ (B.H l = none ∨ B.bo = some (i, l))
  sep : ∀ (i j : Nat) c c' l, Γ.sl[i]? = some (.ow c) → Γ.sl[j]? = some (.ow c') → σ[i]? = some (some (.ref l)) → σ[j]? = some (some (.ref l)) → i = j
  bo : ∀ (i : Nat) l, B.bo = some (i, l) → σ[i]? = some (some (.ref l)) ∧ ∃ c, Γ.sl[i]? = some (.ow c)
  wd : WdOk K B G H σ Γ
/-- behind an expression -/
structure EvP (K : PySem.W.Frag) (B : Bs) (σ : L2.St) (G H : Hp) (Γ : Gm) (G' H' : Hp) (Γ' : Gm) : Prop where
  env : EnvOk K B G' H' σ Γ'
  gg : Same G G'
  gn : ∀ a o, G' a = some o → G a = some o ∨ H a = none
  hh : ∀ a o, H a = some o → (∀ (i : Nat) c, Γ.sl[i]? = some (.ow c) → σ[i]? ≠ some (some (.ref a))) → a ∉ Γ.as → H' a = some o
  sh : ∀ (i : Nat), (∃ c, Γ.sl[i]? = some (.ow c)) ↔ (∃ c, Γ'.sl[i]? = some (.ow c))
  as : ∃ l, Γ'.as = Γ.as ++ l ∧ ∀ a ∈ l, H a = none
section
variable {K : PySem.W.Frag} {B : Bs} {σ : L2.St} {G H G1 H1 G2 H2 : Hp} {Γ Γ1 Γ2 : Gm}
theorem get_of_mem {as : List Addr} {ws : List Wc} (e : as.length = ws.length) {a : Addr} (h : a ∈ as) : ∃ (n : Nat) (c : Wc), as[n]? = some a ∧ ws[n]? = some c := by
  obtain ⟨n, hn, rfl⟩ := List.mem_iff_getElem.mp h
  exact ⟨n, ws[n]'(by omega), List.getElem?_eq_getElem hn, List.getElem?_eq_getElem (by omega)⟩
theorem WdOk.at (w : WdOk K B G H σ Γ) {a : Addr} (h : a ∈ Γ.as) : G a = none ∧ (∃ o, H a = some o) ∧ (B.H a = none ∨ a ∈ B.wa) := by
  obtain ⟨n, c, h1, h2⟩ := get_of_mem w.wl h
  obtain ⟨g, ⟨o, ho, _⟩, b⟩ := w.wc n a c h1 h2
  exact ⟨g, ⟨o, ho⟩, b⟩
theorem WdOk.out (w : WdOk K B G H σ Γ) {a : Addr} (h : H a = none) : a ∉ Γ.as := fun z => by
  obtain ⟨_, ⟨o, ho⟩, _⟩ := w.at z
  rw [h] at ho
  cases ho
theorem WdOk.step {B' : Bs} {σ' : L2.St} {G' H' : Hp} {Γ' : Gm} (w : WdOk K B G H σ Γ) (gg : Same G G') (gn : ∀ a ∈ Γ.as, G a = none → G' a = none) (hh : ∀ a ∈ Γ.as, ∀ o, H a = some o → H' a = some o) (ea : Γ'.as = Γ.as) (ew : Γ'.ws = Γ.ws)
    (wp : ∀ (i : Nat) n, Γ'.sl[i]? = some (.wp n) → Γ.sl[i]? = some (.wp n) ∧ ∀ x, σ[i]? = some (some x) → σ'[i]? = some (some x))
    (sp : ∀ (i : Nat) c a, Γ'.sl[i]? = some (.ow c) → σ'[i]? = some (some (.ref a)) → a ∉ Γ.as) (hb : B'.wa = B.wa) (hB : ∀ a ∈ Γ.as, B.H a = none → B'.H a = none ∨ a ∈ B'.wa) : WdOk K B' G' H' σ' Γ' := by
  refine ⟨by rw [ea, ew]; exact w.wl, by rw [ea]; exact w.nd, by rw [ea, hb]; exact w.pre, fun n a c h1 h2 => ?_, fun i n h => ?_, fun i c a h1 h2 => by rw [ea]; exact sp i c a h1 h2⟩
  · rw [ea] at h1
    rw [ew] at h2
    obtain ⟨g, ⟨o, ho, hc⟩, b⟩ := w.wc n a c h1 h2
    have m := List.mem_of_getElem? h1
    refine ⟨gn a m g, ⟨o, hh a m o ho, hc.mono gg⟩, ?_⟩
    rcases b with b | b
    · exact hB a m b
    · exact .inr (by rw [hb]; exact b)
  · obtain ⟨h1, h2⟩ := wp i n h
    obtain ⟨a, h3, h4⟩ := w.wp i n h1
    exact ⟨a, by rw [ea]; exact h3, h2 _ h4⟩
theorem EvP.refl (e : EnvOk K B G H σ Γ) : EvP K B σ G H Γ G H Γ := ⟨e, Same.refl _, fun _ _ h => .inl h, fun _ _ h _ _ => h, fun _ => Iff.rfl, [], by simp, fun _ h => by cases h⟩
theorem EvP.asm (p : EvP K B σ G H Γ G1 H1 Γ1) {a : Addr} (h : a ∈ Γ.as) : a ∈ Γ1.as := by
  obtain ⟨l, e, _⟩ := p.as
  rw [e]
  exact List.mem_append_left _ h
theorem EvP.nas (p : EvP K B σ G H Γ G1 H1 Γ1) {a : Addr} {o : HO} (h : H a = some o) (n : a ∉ Γ.as) : a ∉ Γ1.as := fun z => by
  obtain ⟨l, e, f⟩ := p.as
  rw [e] at z
  rcases List.mem_append.mp z with z | z
  · exact n z
  · rw [f a z] at h; cases h
theorem EvP.dom (p : EvP K B σ G H Γ G1 H1 Γ1) {a : Addr} {o : HO} (h : H a = some o) : ∃ o', H1 a = some o' := by
  by_cases q : ∃ (i : Nat) (c : Cl), Γ.sl[i]? = some (.ow c) ∧ σ[i]? = some (some (.ref a))
  · obtain ⟨i, c, q1, q2⟩ := q
    obtain ⟨c', q3⟩ := (p.sh i).mp ⟨c, q1⟩
    obtain ⟨l, o', e1, _, e2, _⟩ := p.env.ow i c' q3
    rw [q2] at e1
    cases e1
    exact ⟨o', e2⟩
  · by_cases m : a ∈ Γ.as
    · exact (p.env.wd.at (p.asm m)).2.1
    · exact ⟨o, p.hh a o h (fun i c q1 q2 => q ⟨i, c, q1, q2⟩) m⟩
theorem EvP.back (p : EvP K B σ G H Γ G1 H1 Γ1) {a : Addr} (h : H1 a = none) : H a = none := by
  cases e : H a with
  | none => rfl
  | some o =>
    obtain ⟨o', e'⟩ := p.dom e
    rw [h] at e'
    cases e'
theorem EvP.trans (p : EvP K B σ G H Γ G1 H1 Γ1) (q : EvP K B σ G1 H1 Γ1 G2 H2 Γ2) : EvP K B σ G H Γ G2 H2 Γ2 :=
  ⟨q.env, p.gg.trans q.gg, fun a o h => by
    rcases q.gn a o h with h | h
    · exact p.gn a o h
    · exact .inr (p.back h), fun a o h n m => q.hh a o (p.hh a o h n m) (fun i c e1 => by
      obtain ⟨c', e2⟩ := (p.sh i).mpr ⟨c, e1⟩
      exact n i c' e2) (p.nas h m), fun i => (p.sh i).trans (q.sh i), by
    obtain ⟨l, e, f⟩ := p.as
    obtain ⟨l2, e2, f2⟩ := q.as
    refine ⟨l ++ l2, by rw [e2, e, List.append_assoc], fun a h => ?_⟩
    rcases List.mem_append.mp h with h | h
    · exact f a h
    · exact p.back (f2 a h)⟩
theorem EnvOk.bhNone (e : EnvOk K B G H σ Γ) {p : Addr} (h : H p = none) : B.H p = none := by
  cases q : B.H p with
  | none => rfl
  | some u =>
    by_cases z : ∃ i, B.bo = some (i, p)
    · obtain ⟨i, z⟩ := z
      obtain ⟨z1, c, z2⟩ := e.bo i p z
      obtain ⟨l, o', e1, _, e2, _⟩ := e.ow i c z2
      rw [z1] at e1
      cases e1
      rw [h] at e2
      cases e2
    · by_cases y : p ∈ B.wa
      · obtain ⟨l, y2⟩ := e.wd.pre
        exact (e.wd.out h (by rw [y2]; exact List.mem_append_left _ y)).elim
      · have z2 := e.fr p u q (fun i w => z ⟨i, w⟩) y
        rw [h] at z2
        cases z2
/-- a new object of our own, frozen at once -/
theorem EnvOk.new (e : EnvOk K B G H σ Γ) {p : Addr} {o : HO} (h : H p = none) : EvP K B σ G H Γ (upd G p o) (upd H p o) Γ := by
  have gp : G p = none := e.gh.free h
  have s1 : Same G (upd G p o) := fun a u q => by rw [upd_ne (ne_of_none q gp)]; exact q
  have bh : B.H p = none := e.bhNone h
  have nm := e.wd.out h
  refine ⟨⟨e.len, fun a u q => ?_, e.g0.trans s1, fun a u q => ?_, fun a u q n m => ?_, fun i d q => ?_, fun i c q => ?_, e.sep, e.bo, e.wd.step s1 (fun a m g => ?_) (fun a m u q => ?_) rfl rfl (fun _ _ h => ⟨h, fun _ h => h⟩) e.wd.sp rfl fun _ _ h => .inl h⟩, s1, fun a u q => ?_, fun a u q _ _ => by rw [upd_ne (ne_of_none q h)]; exact q, fun _ => Iff.rfl, [], by simp, fun _ h => by cases h⟩
  · by_cases z : a = p
    · subst z; rw [upd_same] at q ⊢; exact q
    · rw [upd_ne z] at q ⊢; exact e.gh a u q
  · by_cases z : a = p
    · subst z; exact .inr bh
    · rw [upd_ne z] at q; exact e.gn a u q
  · have z := e.fr a u q n m
    rw [upd_ne (ne_of_none z h)]; exact z
  · obtain ⟨v, q1, q2⟩ := e.im i d q
    exact ⟨v, q1, q2.mono s1⟩
  · obtain ⟨l, o', q1, q2, q3, q4, q5⟩ := e.ow i c q
    have ne : l ≠ p := ne_of_none q3 h
    exact ⟨l, o', q1, by rw [upd_ne ne]; exact q2, by rw [upd_ne ne]; exact q3, q4.mono s1, q5⟩
  · rw [upd_ne fun z => nm (by rw [← z]; exact m)]; exact g
  · rw [upd_ne (ne_of_none q h)]; exact q
  · by_cases z : a = p
    · subst z; exact .inr h
    · rw [upd_ne z] at q; exact .inl q
/-- a new cell, not frozen -/
theorem EnvOk.cell (e : EnvOk K B G H σ Γ) {p : Addr} {o : HO} (h : H p = none) : EvP K B σ G H Γ G (upd H p o) Γ := by
  refine ⟨⟨e.len, fun a u q => ?_, e.g0, e.gn, fun a u q n m => ?_, e.im, fun i c q => ?_, e.sep, e.bo, e.wd.step (Same.refl _) (fun a m g => g) (fun a m u q => by rw [upd_ne (ne_of_none q h)]; exact q) rfl rfl (fun _ _ h => ⟨h, fun _ h => h⟩) e.wd.sp rfl fun _ _ h => .inl h⟩, Same.refl _, fun a u q => .inl q, fun a u q _ _ => by rw [upd_ne (ne_of_none q h)]; exact q, fun _ => Iff.rfl, [], by simp, fun _ h => by cases h⟩
  · rw [upd_ne (ne_of_none (e.gh a u q) h)]; exact e.gh a u q
  · have z := e.fr a u q n m
    rw [upd_ne (ne_of_none z h)]; exact z
  · obtain ⟨l, o', q1, q2, q3, q4, q5⟩ := e.ow i c q
    have ne : l ≠ p := ne_of_none q3 h
    exact ⟨l, o', q1, q2, by rw [upd_ne ne]; exact q3, q4, q5⟩
/-- a cell that no slot holds, frozen -/
theorem EnvOk.freeze (e : EnvOk K B G H σ Γ) {p : Addr} {o : HO} (h : H p = some o) (g : G p = none) (bh : B.H p = none) (n : ∀ (i : Nat) c, Γ.sl[i]? = some (.ow c) → σ[i]? ≠ some (some (.ref p))) (nm : p ∉ Γ.as) : EnvOk K B (upd G p o) H σ Γ := by
  have s1 : Same G (upd G p o) := fun a u q => by rw [upd_ne (ne_of_none q g)]; exact q
  refine ⟨e.len, fun a u q => ?_, e.g0.trans s1, fun a u q => ?_, e.fr, fun i d q => ?_, fun i c q => ?_, e.sep, e.bo, e.wd.step s1 (fun a m g => by rw [upd_ne fun z => nm (by rw [← z]; exact m)]; exact g) (fun a m u q => q) rfl rfl (fun _ _ h => ⟨h, fun _ h => h⟩) e.wd.sp rfl fun _ _ h => .inl h⟩
  · by_cases z : a = p
    · subst z; rw [upd_same] at q; cases q; exact h
    · rw [upd_ne z] at q; exact e.gh a u q
  · by_cases z : a = p
    · subst z; exact .inr bh
    · rw [upd_ne z] at q; exact e.gn a u q
  · obtain ⟨v, q1, q2⟩ := e.im i d q
    exact ⟨v, q1, q2.mono s1⟩
  · obtain ⟨l, o', q1, q2, q3, q4, q5⟩ := e.ow i c q
    have ne : l ≠ p := fun z => n i c q (by rw [q1, z])
    exact ⟨l, o', q1, by rw [upd_ne ne]; exact q2, q3, q4.mono s1, q5⟩
theorem EnvOk.noOw (e : EnvOk K B G H σ Γ) {p : Addr} (h : H p = none) : ∀ (i : Nat) c, Γ.sl[i]? = some (.ow c) → σ[i]? ≠ some (some (.ref p)) := fun i c q z => by
  obtain ⟨l, o', q1, _, q3, _⟩ := e.ow i c q
  rw [q1] at z
  cases z
  rw [h] at q3
  cases q3
end
end Vl

namespace Vl
open PySem PySem.Spec PyProof.Rows L2

/-! ### wishes -/
abbrev ExD := Str → Option (List (Str × D)) → Gm → Prop
abbrev TF := ExD → Gm → (D → Gm → Prop) → Prop
abbrev TTD := ExD → Gm → (Bool → Gm → Prop) → Prop
abbrev TAD := ExD → Gm → (List D → Gm → Prop) → Prop
abbrev TOD := ExD → Gm → (Cl → Gm → Prop) → Prop
def nvr : ExD := fun _ _ _ => False
def PlOk (K : PySem.W.Frag) (G H : Hp) : Option Addr → Option (List (Str × D)) → Prop
  | none, none => True
  | some dd, some fs => ∃ xs, H dd = some (.xd xs) ∧ RepF K G xs fs
  | _, _ => False
def ExOk (K : PySem.W.Frag) (B : Bs) (R : ExD) : WX := fun cls d σ H => ∃ c pl G Γ, cls = .ref (He.ga K c) ∧ EnvOk K B G H σ Γ ∧ PlOk K G H d pl ∧ R c pl Γ
abbrev Tk := Bs → ExD → Prop
abbrev TkD (X : Cx) : Tk := fun B R => Takes X (ExOk X.K B R)
abbrev Tk0 : Tk := fun _ R => R = nvr
theorem tk0_ok {X : Cx} {B : Bs} {R : ExD} (h : Tk0 B R) : TkD X B R := fun u s' ⟨_, _, _, _, _, _, _, _, _, _, _, _, _, _, _, _, c, pl, G, Γ, _, _, _, z⟩ => by
  rw [show R = nvr from h] at z
  exact z.elim

/-! ### judgements -/
def lE (K : PySem.W.Frag) (tk : Tk) (T : TF) : TE := fun σ H Q => ∃ (B : Bs) (R : ExD) (Γ : Gm) (G : Hp) (Φ : D → Gm → Prop), tk B R ∧ EnvOk K B G H σ Γ ∧ T R Γ Φ ∧
  ∀ v G' H' Γ' d, EvP K B σ G H Γ G' H' Γ' → Rep K G' v d → Φ d Γ' → Q v H'
def lT (K : PySem.W.Frag) (tk : Tk) (T : TTD) : TT := fun σ H Q => ∃ (B : Bs) (R : ExD) (Γ : Gm) (G : Hp) (Φ : Bool → Gm → Prop), tk B R ∧ EnvOk K B G H σ Γ ∧ T R Γ Φ ∧
  ∀ b G' H' Γ', EvP K B σ G H Γ G' H' Γ' → Φ b Γ' → Q b H'
def lA (K : PySem.W.Frag) (tk : Tk) (T : TAD) : TA := fun σ H Q => ∃ (B : Bs) (R : ExD) (Γ : Gm) (G : Hp) (Φ : List D → Gm → Prop), tk B R ∧ EnvOk K B G H σ Γ ∧ T R Γ Φ ∧
  ∀ vs G' H' Γ' ds, EvP K B σ G H Γ G' H' Γ' → Reps K G' vs ds → Φ ds Γ' → Q vs H'
/-- a fresh cell -/
def FrOk (K : PySem.W.Frag) (H G' H' : Hp) (as : List Addr) (v : V) (c : Cl) : Prop := ∃ l o, v = .ref l ∧ G' l = none ∧ H' l = some o ∧ ClOk K G' o c ∧ H l = none ∧ l ∉ as
def lO (K : PySem.W.Frag) (tk : Tk) (T : TOD) : TE := fun σ H Q => ∃ (B : Bs) (R : ExD) (Γ : Gm) (G : Hp) (Φ : Cl → Gm → Prop), tk B R ∧ EnvOk K B G H σ Γ ∧ T R Γ Φ ∧
  ∀ v G' H' Γ' c, EvP K B σ G H Γ G' H' Γ' → FrOk K H G' H' Γ'.as v c → Φ c Γ' → Q v H'
def PF (X : Cx) (tk : Tk) (e : Expr) (T : TF) : Prop := PE X e (lE X.K tk T)
def PFT (X : Cx) (tk : Tk) (e : Expr) (T : TTD) : Prop := PT X e (lT X.K tk T)
def PFW (X : Cx) (tk : Tk) (e : Expr) (T : TTD) : Prop := PW X e (lT X.K tk T)
def PFA (X : Cx) (tk : Tk) (es : List Expr) (T : TAD) : Prop := PA X es (lA X.K tk T)
def PFO (X : Cx) (tk : Tk) (e : Expr) (T : TOD) : Prop := PE X e (lO X.K tk T)

section
variable {X : Cx}
theorem pe_imp {e : Expr} {t t' : TE} (h : PE X e t) (i : ∀ σ H Q, t' σ H Q → t σ H Q) : PE X e t' := ⟨fun pins s σ H Q I w => h.run pins s σ H Q I (i σ H Q w)⟩
theorem pt_imp {e : Expr} {t t' : TT} (h : PT X e t) (i : ∀ σ H Q, t' σ H Q → t σ H Q) : PT X e t' := ⟨fun pins s σ H Q I w => h.run pins s σ H Q I (i σ H Q w)⟩
theorem pw_imp {e : Expr} {t t' : TT} (h : PW X e t) (i : ∀ σ H Q, t' σ H Q → t σ H Q) : PW X e t' := ⟨fun wh pins s σ H Q I w => h.run wh pins s σ H Q I (i σ H Q w)⟩
theorem pa_imp {e : List Expr} {t t' : TA} (h : PA X e t) (i : ∀ σ H Q, t' σ H Q → t σ H Q) : PA X e t' := ⟨fun pos pins s σ H Q I w => h.run pos pins s σ H Q I (i σ H Q w)⟩
theorem ps_imp {e : Stmt} {t t' : TS} (h : PS X e t) (i : ∀ D σ H, t' D σ H → t D σ H) : PS X e t' := ⟨fun pins s σ H D I w => h.run pins s σ H D I (i D σ H w)⟩
theorem pss_imp {e : List Stmt} {t t' : TS} (h : PSs X e t) (i : ∀ D σ H, t' D σ H → t D σ H) : PSs X e t' := ⟨fun pins s σ H D I w => h.run pins s σ H D I (i D σ H w)⟩
end

/-! ### an extension by frozen objects -/
structure Ext (G H G' H' : Hp) : Prop where
  gg : Same G G'
  hh : Same H H'
  gh : Same G' H'
  gn : ∀ a o, G' a = some o → G a = some o ∨ H a = none
theorem Ext.refl {G H : Hp} (s : Same G H) : Ext G H G H := ⟨Same.refl _, Same.refl _, s, fun _ _ h => .inl h⟩
theorem Ext.new {G H : Hp} (s : Same G H) {p : Addr} {o : HO} (h : H p = none) : Ext G H (upd G p o) (upd H p o) := by
  have gp : G p = none := s.free h
  refine ⟨fun a u q => by rw [upd_ne (ne_of_none q gp)]; exact q, fun a u q => by rw [upd_ne (ne_of_none q h)]; exact q, fun a u q => ?_, fun a u q => ?_⟩
  · by_cases z : a = p
    · subst z; rw [upd_same] at q ⊢; exact q
    · rw [upd_ne z] at q ⊢; exact s a u q
  · by_cases z : a = p
    · subst z; exact .inr h
    · rw [upd_ne z] at q; exact .inl q
theorem Ext.trans {G H G1 H1 G2 H2 : Hp} (p : Ext G H G1 H1) (q : Ext G1 H1 G2 H2) : Ext G H G2 H2 :=
  ⟨p.gg.trans q.gg, p.hh.trans q.hh, q.gh, fun a o h => by
    rcases q.gn a o h with h | h
    · exact p.gn a o h
    · exact .inr (p.hh.free h)⟩
section
variable {K : PySem.W.Frag} {B : Bs} {σ : L2.St} {G H G1 H1 G2 H2 : Hp} {Γ Γ1 Γ2 : Gm}
theorem EnvOk.ext (e : EnvOk K B G H σ Γ) (x : Ext G H G1 H1) : EvP K B σ G H Γ G1 H1 Γ := by
  refine ⟨⟨e.len, x.gh, e.g0.trans x.gg, fun a u q => ?_, fun a u q n m => x.hh a u (e.fr a u q n m), fun i d q => ?_, fun i c q => ?_, e.sep, e.bo, e.wd.step x.gg (fun a m g => ?_) (fun a m u q => x.hh a u q) rfl rfl (fun _ _ h => ⟨h, fun _ h => h⟩) e.wd.sp rfl fun _ _ h => .inl h⟩, x.gg, x.gn, fun a u q _ _ => x.hh a u q, fun _ => Iff.rfl, [], by simp, fun _ h => by cases h⟩
  · rcases x.gn a u q with q | q
    · exact e.gn a u q
    · exact .inr (e.bhNone q)
  · obtain ⟨v, q1, q2⟩ := e.im i d q
    exact ⟨v, q1, q2.mono x.gg⟩
  · obtain ⟨l, o', q1, q2, q3, q4, q5⟩ := e.ow i c q
    refine ⟨l, o', q1, ?_, x.hh _ _ q3, q4.mono x.gg, q5⟩
    cases z : G1 l with
    | none => rfl
    | some u =>
      rcases x.gn l u z with z | z
      · rw [q2] at z; cases z
      · rw [q3] at z; cases z
  · obtain ⟨_, ⟨o, ho⟩, _⟩ := e.wd.at m
    cases z : G1 a with
    | none => rfl
    | some u =>
      rcases x.gn a u z with z | z
      · rw [g] at z; cases z
      · rw [ho] at z; cases z
end
/-- what a pure operation leaves -/
def Out (K : PySem.W.Frag) (G H : Hp) (k : D → Prop) (Q : VK) : Prop := ∀ v d G' H', Ext G H G' H' → Rep K G' v d → k d → Q v H'

/-! ### names, constants -/
def tVarD (i : Nat) : TF := fun _ Γ Φ => match Γ.sl[i]? with
  | some (.im d) => Φ d Γ
  | _ => False
def tCD (d : D) : TF := fun _ Γ Φ => Φ d Γ
section
variable {X : Cx} {tk : Tk}
theorem pf_var (i : Nat) {x : Str} {pos : Pos} (hN : X.N[i]? = some x := by rfl) (hv : Vis X.env.scope x := by first | exact Or.inl rfl | exact Or.inr (Or.inl rfl) | exact Or.inr (Or.inr rfl)) (hd : (x == ("__debug__" : Str)) = false := by decide)
    (hcd : (x == ("__classdict__" : Str)) = false := by decide) : PF X tk (.Name x pos) (tVarD i) := pe_imp (pe_var hN hv hd hcd) fun σ H Q ⟨B, R, Γ, G, Φ, t, e, h, k⟩ => by
  unfold tVarD at h
  split at h
  · rename_i d q
    obtain ⟨v, q1, q2⟩ := e.im i d q
    exact ⟨v, q1, k v G H Γ d (EvP.refl e) q2 h⟩
  · exact h.elim
theorem pf_c {e : Expr} {v : V} {d : D} (h : PE X e (tC v)) (r : ∀ G, Rep X.K G v d) : PF X tk e (tCD d) := pe_imp h fun σ H Q ⟨B, R, Γ, G, Φ, t, e, h, k⟩ => k v G H Γ d (EvP.refl e) (r G) h
theorem pf_int {i : Int} {j pos} : PF X tk (.Constant (.int i) j pos) (tCD (.int i)) := pf_c pe_int fun _ => .int i
theorem pf_bl {b : Bool} {j pos} : PF X tk (.Constant (.bool b) j pos) (tCD (.bl b)) := pf_c pe_bl fun _ => .bl b
theorem pf_non {j pos} : PF X tk (.Constant .none j pos) (tCD .non) := pf_c pe_non fun _ => .non
theorem pf_str {x : Str} {j pos} : PF X tk (.Constant (.str x) j pos) (tCD (.str x)) := pf_c pe_str fun _ => .str x
theorem pf_gint {x : Str} {i : Int} {pos : Pos} (hm : ∃ t, X.mg x = some (.int i t)) (hg : Gl X x := by rfl) (hd : (x == ("__debug__" : Str)) = false := by decide) : PF X tk (.Name x pos) (tCD (.int i)) := by
  obtain ⟨t, hm⟩ := hm
  exact pf_c (v := V.int i) (pe_glob hg hm ⟨t, rfl⟩ hd) fun _ => .int i
theorem pf_gstr {x z : Str} {pos : Pos} (hm : ∃ t, X.mg x = some (.str z t)) (hg : Gl X x := by rfl) (hd : (x == ("__debug__" : Str)) = false := by decide) : PF X tk (.Name x pos) (tCD (.str z)) := by
  obtain ⟨t, hm⟩ := hm
  exact pf_c (v := V.str z) (pe_glob hg hm ⟨t, rfl⟩ hd) fun _ => .str z
end

/-! ### operators -/
def OpD (K : PySem.W.Frag) (r : R2) (f : D → D → (D → Prop) → Prop) : Prop := ∀ (G H : Hp) (x y : V) (a b : D) (k : D → Prop) (Q : VK), Same G H → Rep K G x a → Rep K G y b → f a b k → Out K G H k Q → r x y H Q
def tBin (f : D → D → (D → Prop) → Prop) (Ta Tb : TF) : TF := fun R Γ Φ => Ta R Γ fun a Γ1 => Tb R Γ1 fun b Γ2 => f a b fun d => Φ d Γ2
section
variable {X : Cx} {tk : Tk} {a b : Expr} {Ta Tb : TF} {pos : Pos}
theorem bin_core {r : R2} {f : D → D → (D → Prop) → Prop} (hf : OpD X.K r f) {σ : L2.St} {H : Hp} {Q : VK} (h : lE X.K tk (tBin f Ta Tb) σ H Q) : tOp r (lE X.K tk Ta) (lE X.K tk Tb) σ H Q := by
  obtain ⟨B, R, Γ, G, Φ, t, e, h, k⟩ := h
  refine ⟨B, R, Γ, G, _, t, e, h, fun v1 G1 H1 Γ1 d1 p1 r1 h1 => ?_⟩
  refine ⟨B, R, Γ1, G1, _, t, p1.env, h1, fun v2 G2 H2 Γ2 d2 p2 r2 h2 => ?_⟩
  exact hf G2 H2 v1 v2 d1 d2 _ Q p2.env.gh (r1.mono p2.gg) r2 h2 fun v d G' H' x rd kd => k v G' H' Γ2 d ((p1.trans p2).trans (p2.env.ext x)) rd kd
theorem pf_op {op : Operator} {r : R2} {f : D → D → (D → Prop) → Prop} (ho : OpR X (binaryOp op) r) (hf : OpD X.K r f) (ha : PF X tk a Ta) (hb : PF X tk b Tb) : PF X tk (.BinOp a op b pos) (tBin f Ta Tb) :=
  pe_imp (pe_op ho ha hb) fun σ H Q h => bin_core hf h
theorem pf_cmp {op : CmpOp} {r : R2} {f : D → D → (D → Prop) → Prop} (ho : OpR X (compareOp op) r) (hf : OpD X.K r f) (ha : PF X tk a Ta) (hb : PF X tk b Tb) (hm : behindInMarks op b = false) : PF X tk (.Compare a [op] [b] pos) (tBin f Ta Tb) :=
  pe_imp (pe_cmpR ho ha hb hm) fun σ H Q h => bin_core hf h
/-- a comparison as a test -/
def tBinT (f : D → D → (D → Prop) → Prop) (Ta Tb : TF) : TTD := fun R Γ Φ => Ta R Γ fun a Γ1 => Tb R Γ1 fun b Γ2 => f a b fun d => match d with
  | .bl c => Φ c Γ2
  | _ => False
theorem pft_cmp {op : CmpOp} {r : R2} {f : D → D → (D → Prop) → Prop} (ho : OpR X (compareOp op) r) (hf : OpD X.K r f) (ha : PF X tk a Ta) (hb : PF X tk b Tb) (hm : behindInMarks op b = false) : PFT X tk (.Compare a [op] [b] pos) (tBinT f Ta Tb) :=
  pt_imp (pt_cmpR ho ha hb hm) fun σ H Q ⟨B, R, Γ, G, Φ, t, e, h, k⟩ => bin_core (Q := fun x H' => ∃ c, x = .bl c ∧ Q c H') hf ⟨B, R, Γ, G, fun d Γ' => (match d with
  | .bl c => Φ c Γ'
  | _ => False), t, e, h, fun v G' H' Γ' d p rd hd => by
    cases rd with
    | bl c => exact ⟨c, rfl, k c G' H' Γ' p hd⟩
    | _ => exact hd.elim⟩

def dI (g : Int → Int → Int) : D → D → (D → Prop) → Prop
  | .int i, .int j, k => k (.int (g i j))
  | _, _, _ => False
def dIC (C : Int → Int → Prop) (g : Int → Int → Int) : D → D → (D → Prop) → Prop
  | .int i, .int j, k => C i j ∧ k (.int (g i j))
  | _, _, _ => False
def dB (g : Int → Int → Bool) : D → D → (D → Prop) → Prop
  | .int i, .int j, k => k (.bl (g i j))
  | _, _, _ => False
theorem opd_I {K : PySem.W.Frag} {g : Int → Int → Int} {C : Int → Int → Prop} : OpD K (rI C fun i j => .int (g i j)) (dIC C g) := by
  intro G H x y a b k Q s ra rb h o
  cases ra with
  | int i => cases rb with
    | int j => exact ⟨i, j, rfl, rfl, h.1, o _ _ _ _ (Ext.refl s) (.int _) h.2⟩
    | _ => exact h.elim
  | _ => exact h.elim
theorem opd_I0 {K : PySem.W.Frag} {g : Int → Int → Int} : OpD K (rI0 fun i j => .int (g i j)) (dI g) := by
  intro G H x y a b k Q s ra rb h o
  cases ra with
  | int i => cases rb with
    | int j => exact ⟨i, j, rfl, rfl, o _ _ _ _ (Ext.refl s) (.int _) h⟩
    | _ => exact h.elim
  | _ => exact h.elim
theorem opd_B0 {K : PySem.W.Frag} {g : Int → Int → Bool} : OpD K (rI0 fun i j => .bl (g i j)) (dB g) := by
  intro G H x y a b k Q s ra rb h o
  cases ra with
  | int i => cases rb with
    | int j => exact ⟨i, j, rfl, rfl, o _ _ _ _ (Ext.refl s) (.bl _) h⟩
    | _ => exact h.elim
  | _ => exact h.elim
end

/-! ### + of everything -/
def dAdd : D → D → (D → Prop) → Prop
  | .int i, .int j, k => k (.int (i + j))
  | .str x, .str y, k => x.length + y.length ≤ sizeLine ∧ k (.str (x ++ y))
  | .tup xs, .tup ys, k => xs.length + ys.length ≤ sizeLine ∧ k (.tup (xs ++ ys))
  | .lst xs, .lst ys, k => xs.length + ys.length ≤ sizeLine ∧ k (.lst (xs ++ ys))
  | _, _, _ => False
theorem Reps.length {K : PySem.W.Frag} {G : Hp} : ∀ {xs : List V} {ds : List D}, Reps K G xs ds → xs.length = ds.length
  | _, _, .nil => rfl
  | _, _, .cons _ t => congrArg (· + 1) t.length
theorem Reps.append {K : PySem.W.Frag} {G : Hp} : ∀ {xs ys : List V} {ds es : List D}, Reps K G xs ds → Reps K G ys es → Reps K G (xs ++ ys) (ds ++ es)
  | _, _, _, _, .nil, s => s
  | _, _, _, _, .cons h t, s => .cons h (t.append s)
theorem Reps.get {K : PySem.W.Frag} {G : Hp} : ∀ {xs : List V} {ds : List D} {i : Nat} {d : D}, Reps K G xs ds → ds[i]? = some d → ∃ v, xs[i]? = some v ∧ Rep K G v d
  | _, _, _, _, .nil, e => by simp at e
  | _, _, 0, d, .cons h t, e => ⟨_, rfl, by simp at e; subst e; exact h⟩
  | _, _, i + 1, d, .cons h t, e => by
    obtain ⟨v, q, r⟩ := t.get (i := i) (d := d) (by simpa using e)
    exact ⟨v, by simpa using q, r⟩
theorem Reps.getV {K : PySem.W.Frag} {G : Hp} : ∀ {xs : List V} {ds : List D} {i : Nat} {v : V}, Reps K G xs ds → xs[i]? = some v → ∃ d, ds[i]? = some d ∧ Rep K G v d
  | _, _, _, _, .nil, e => by simp at e
  | _, _, 0, d, .cons h t, e => ⟨_, rfl, by simp at e; subst e; exact h⟩
  | _, _, i + 1, d, .cons h t, e => by
    obtain ⟨v, q, r⟩ := t.getV (i := i) (v := d) (by simpa using e)
    exact ⟨v, by simpa using q, r⟩
theorem Reps.take {K : PySem.W.Frag} {G : Hp} : ∀ {xs : List V} {ds : List D} (n : Nat), Reps K G xs ds → Reps K G (xs.take n) (ds.take n)
  | _, _, 0, _ => .nil
  | _, _, _ + 1, .nil => .nil
  | _, _, n + 1, .cons h t => .cons h (t.take n)
theorem Reps.drop {K : PySem.W.Frag} {G : Hp} : ∀ {xs : List V} {ds : List D} (n : Nat), Reps K G xs ds → Reps K G (xs.drop n) (ds.drop n)
  | _, _, 0, r => r
  | _, _, _ + 1, .nil => .nil
  | _, _, n + 1, .cons _ t => t.drop n
theorem Reps.set {K : PySem.W.Frag} {G : Hp} {v : V} {d : D} (r : Rep K G v d) : ∀ {xs : List V} {ds : List D} (i : Nat), Reps K G xs ds → Reps K G (xs.set i v) (ds.set i d)
  | _, _, _, .nil => .nil
  | _, _, 0, .cons _ t => .cons r t
  | _, _, i + 1, .cons q t => .cons q (Reps.set r i t)
theorem Reps.eraseIdx {K : PySem.W.Frag} {G : Hp} : ∀ {xs : List V} {ds : List D} (i : Nat), Reps K G xs ds → Reps K G (xs.eraseIdx i) (ds.eraseIdx i)
  | _, _, _, .nil => .nil
  | _, _, 0, .cons _ t => t
  | _, _, i + 1, .cons q t => .cons q (t.eraseIdx i)
theorem Reps.inv {K : PySem.W.Frag} {G : Hp} {xs ys : List V} {ds : List D} (a : Reps K G xs ds) (h : xs = ys) : Reps K G ys ds := h ▸ a
end Vl

namespace Vl
open PySem PySem.Spec PyProof.Rows L2

/-! ### operators' rules -/
section
variable {K : PySem.W.Frag}
theorem opd_or {r r' : R2} {f : D → D → (D → Prop) → Prop} (h : ∀ (G H : Hp) (x y : V) (a b : D) (k : D → Prop) (Q : VK), Same G H → Rep K G x a → Rep K G y b → f a b k → Out K G H k Q → r x y H Q ∨ r' x y H Q) : OpD K (fun x y H Q => r x y H Q ∨ r' x y H Q) f := h
theorem Out.here {G H : Hp} {k : D → Prop} {Q : VK} (o : Out K G H k Q) (s : Same G H) {v : V} {d : D} (r : Rep K G v d) (h : k d) : Q v H := o v d G H (Ext.refl s) r h
theorem Out.new {G H : Hp} {k : D → Prop} {Q : VK} (o : Out K G H k Q) (s : Same G H) {p : Addr} {u : HO} (hp : H p = none) {v : V} {d : D} (r : Rep K (upd G p u) v d) (h : k d) : Q v (upd H p u) := o v d _ _ (Ext.new s hp) r h
theorem Reps.new {G H : Hp} (s : Same G H) {p : Addr} {u : HO} (hp : H p = none) {xs : List V} {ds : List D} (r : Reps K G xs ds) : Reps K (upd G p u) xs ds := r.mono (Ext.new s hp).gg
def rAddAll (K : PySem.W.Frag) : R2 := fun x y H Q => (rI0 (fun i j => .int (i + j)) x y H Q ∨ (∃ i j, x = .str i ∧ y = .str j ∧ i.length + j.length ≤ sizeLine ∧ Q (.str (i ++ j)) H)) ∨ (rCatA K x y H Q ∨ rCat x y H Q)
theorem op_addAll {X : Cx} : OpR X (binaryOp .Add) (rAddAll X.K) := (op_add.or op_add_str).or (op_catA.or op_cat)
theorem opd_add : OpD K (rAddAll K) dAdd := by
  intro G H x y a b k Q s ra rb h o
  cases ra with
  | int i => cases rb with
    | int j => exact .inl (.inl ⟨i, j, rfl, rfl, o.here s (.int _) h⟩)
    | _ => exact h.elim
  | str i => cases rb with
    | str j => exact .inl (.inr ⟨i, j, rfl, rfl, h.1, o.here s (.str _) h.2⟩)
    | _ => exact h.elim
  | @tup p xs ds hp l r => cases rb with
    | @tup q ys es hq l2 r2 =>
      obtain ⟨h1, h2⟩ : ds.length + es.length ≤ sizeLine ∧ k (.tup (ds ++ es)) := h
      have hz : xs.length + ys.length ≤ sizeLine := by rw [r.length, r2.length]; exact h1
      refine .inr (.inl ⟨p, q, xs, ys, rfl, rfl, same_t s hp, same_t s hq, hz, fun z => ?_, fun _ z => ?_, fun _ _ t ht => ?_⟩)
      · subst z
        cases r
        exact o.here s (.tup hq l2 r2) h2
      · subst z
        cases r2
        rw [List.append_nil] at h2
        exact o.here s (.tup hp l r) h2
      · exact o.new s ht (.tup (SqT.of upd_same) (by rw [List.length_append]; exact hz) ((r.append r2).new s ht)) h2
    | _ => exact h.elim
  | @lst p xs ds hp l r => cases rb with
    | @lst q ys es hq l2 r2 =>
      obtain ⟨h1, h2⟩ : ds.length + es.length ≤ sizeLine ∧ k (.lst (ds ++ es)) := h
      have hz : xs.length + ys.length ≤ sizeLine := by rw [r.length, r2.length]; exact h1
      refine .inr (.inr ⟨p, q, xs, ys, rfl, rfl, s _ _ hp, s _ _ hq, hz, fun t ht => ?_⟩)
      exact o.new s ht (.lst upd_same (by rw [List.length_append]; exact hz) ((r.append r2).new s ht)) h2
    | _ => exact h.elim
  | _ => exact h.elim
/-- c in s, one sign -/
def dInS (neg : Bool) : D → D → (D → Prop) → Prop
  | .str i, .str z, k => ∃ c, i = ⟨#[c]⟩ ∧ k (.bl (if neg then !decide (c ∈ z.cps.toList) else decide (c ∈ z.cps.toList)))
  | _, _, _ => False
theorem opd_inS : OpD K (fun x y H Q => ∃ (c : Nat) (z : Str), x = .str ⟨#[c]⟩ ∧ y = .str z ∧ Q (.bl (decide (c ∈ z.cps.toList))) H) (dInS false) := by
  intro G H x y a b k Q s ra rb h o
  cases ra with
  | str i => cases rb with
    | str j =>
      obtain ⟨c, e, h⟩ := h
      subst e
      exact ⟨c, j, rfl, rfl, o.here s (.bl _) h⟩
    | _ => exact h.elim
  | _ => exact h.elim
theorem opd_notInS : OpD K (fun x y H Q => ∃ (c : Nat) (z : Str), x = .str ⟨#[c]⟩ ∧ y = .str z ∧ Q (.bl (!decide (c ∈ z.cps.toList))) H) (dInS true) := by
  intro G H x y a b k Q s ra rb h o
  cases ra with
  | str i => cases rb with
    | str j =>
      obtain ⟨c, e, h⟩ := h
      subst e
      exact ⟨c, j, rfl, rfl, o.here s (.bl _) h⟩
    | _ => exact h.elim
  | _ => exact h.elim
end

/-! ### data of any depth: ==, in -/
mutual
def D.pd : D → Option PyData
  | .non => some .none
  | .bl b => some (.bool b)
  | .int i => some (.int i)
  | .str x => some (.str x)
  | .tup xs => (Ds.pd xs).map .tuple
  | .lst xs => (Ds.pd xs).map .list
  | .ro xs => (Ds.pd xs).map .list
  | .dct _ => none
  | .obj _ _ => none
  | .ptr _ => none
  | .cls _ => none
def Ds.pd : List D → Option (List PyData)
  | [] => some []
  | x :: xs => (D.pd x).bind fun a => (Ds.pd xs).map (a :: ·)
end
section
variable {K : PySem.W.Frag} {G H : Hp}
mutual
theorem Rep.dp (s : Same G H) : ∀ {v : V} {d : D} {p : PyData}, Rep K G v d → d.pd = some p → Dp K H v p
  | _, _, p, .non, e => by simp only [D.pd, Option.some.injEq] at e; subst e; exact .non
  | _, _, p, .bl b, e => by simp only [D.pd, Option.some.injEq] at e; subst e; exact .bl b
  | _, _, p, .int i, e => by simp only [D.pd, Option.some.injEq] at e; subst e; exact .int i
  | _, _, p, .str x, e => by simp only [D.pd, Option.some.injEq] at e; subst e; exact .str x
  | _, _, p, .ptr v, e => by simp only [D.pd] at e; cases e
  | _, _, p, .cls v, e => by simp only [D.pd] at e; cases e
  | _, _, p, .dct _ _ _, e => by simp only [D.pd] at e; cases e
  | _, _, p, .obj _ _, e => by simp only [D.pd] at e; cases e
  | _, _, p, .tup h l r, e => by
    simp only [D.pd] at e
    obtain ⟨ps, e1, e2⟩ := Option.map_eq_some_iff.mp e
    subst e2
    exact .tup (same_t s h) (Reps.dp s r e1)
  | _, _, p, .lst h l r, e => by
    simp only [D.pd] at e
    obtain ⟨ps, e1, e2⟩ := Option.map_eq_some_iff.mp e
    subst e2
    exact .lst (SqL.of (s _ _ h)) (Reps.dp s r e1)
  | _, _, p, .ro h l r, e => by
    simp only [D.pd] at e
    obtain ⟨ps, e1, e2⟩ := Option.map_eq_some_iff.mp e
    subst e2
    exact .lst (same_l s h) (Reps.dp s r e1)
theorem Reps.dp (s : Same G H) : ∀ {v : List V} {d : List D} {p : List PyData}, Reps K G v d → Ds.pd d = some p → DpAll K H v p
  | _, _, p, .nil, e => by simp only [Ds.pd, Option.some.injEq] at e; subst e; exact .nil
  | _, _, p, .cons h t, e => by
    simp only [Ds.pd] at e
    obtain ⟨a, e1, e2⟩ := Option.bind_eq_some_iff.mp e
    obtain ⟨b, e3, e4⟩ := Option.map_eq_some_iff.mp e2
    subst e4
    exact .cons (Rep.dp s h e1) (Reps.dp s t e3)
end
end

mutual
def D.eqv : D → D → Bool
  | .non, .non => true
  | .bl a, .bl b => a == b
  | .bl a, .int j => (if a then 1 else 0) == j
  | .int i, .bl b => i == (if b then 1 else 0)
  | .int i, .int j => i == j
  | .str x, .str y => x == y
  | .tup xs, .tup ys => Ds.eqv xs ys
  | .lst xs, .lst ys => Ds.eqv xs ys
  | .lst xs, .ro ys => Ds.eqv xs ys
  | .ro xs, .lst ys => Ds.eqv xs ys
  | .ro xs, .ro ys => Ds.eqv xs ys
  | _, _ => false
def Ds.eqv : List D → List D → Bool
  | [], [] => true
  | x :: xs, y :: ys => D.eqv x y && Ds.eqv xs ys
  | _, _ => false
end

mutual
def D.dt : Nat → D → Bool
  | _, .non => true
  | _, .bl _ => true
  | _, .int _ => true
  | _, .str _ => true
  | n + 1, .tup xs => Ds.dt n xs
  | n + 1, .lst xs => Ds.dt n xs
  | n + 1, .ro xs => Ds.dt n xs
  | _, _ => false
def Ds.dt : Nat → List D → Bool
  | _, [] => true
  | n, x :: xs => D.dt n x && Ds.dt n xs
end
mutual
theorem D.dt_pd : ∀ {n : Nat} {d : D}, d.dt n = true → ∃ p, d.pd = some p ∧ p.plain = true ∧ p.depth ≤ n + 1
  | _, .non, _ => ⟨_, rfl, by simp [PyData.plain], by simp [PyData.depth]⟩
  | _, .bl _, _ => ⟨_, rfl, by simp [PyData.plain], by simp [PyData.depth]⟩
  | _, .int _, _ => ⟨_, rfl, by simp [PyData.plain], by simp [PyData.depth]⟩
  | _, .str _, _ => ⟨_, rfl, by simp [PyData.plain], by simp [PyData.depth]⟩
  | n + 1, .tup xs, h => by
    obtain ⟨ps, h1, h2, h3⟩ := Ds.dt_pd (n := n) (d := xs) (by simpa [D.dt] using h)
    exact ⟨.tuple ps, by simp [D.pd, h1], by simpa [PyData.plain] using h2, by simp only [PyData.depth]; omega⟩
  | n + 1, .lst xs, h => by
    obtain ⟨ps, h1, h2, h3⟩ := Ds.dt_pd (n := n) (d := xs) (by simpa [D.dt] using h)
    exact ⟨.list ps, by simp [D.pd, h1], by simpa [PyData.plain] using h2, by simp only [PyData.depth]; omega⟩
  | n + 1, .ro xs, h => by
    obtain ⟨ps, h1, h2, h3⟩ := Ds.dt_pd (n := n) (d := xs) (by simpa [D.dt] using h)
    exact ⟨.list ps, by simp [D.pd, h1], by simpa [PyData.plain] using h2, by simp only [PyData.depth]; omega⟩
  | 0, .tup xs, h => by simp [D.dt] at h
  | 0, .lst xs, h => by simp [D.dt] at h
  | 0, .ro xs, h => by simp [D.dt] at h
  | _, .dct _, h => by simp [D.dt] at h
  | _, .obj _ _, h => by simp [D.dt] at h
  | _, .ptr _, h => by simp [D.dt] at h
  | _, .cls _, h => by simp [D.dt] at h
theorem Ds.dt_pd : ∀ {n : Nat} {d : List D}, Ds.dt n d = true → ∃ p, Ds.pd d = some p ∧ PyData.plainAll p = true ∧ PyData.depthAll p ≤ n + 1
  | _, [], _ => ⟨[], rfl, by simp [PyData.plainAll], by simp [PyData.depthAll]⟩
  | n, x :: xs, h => by
    have h2 : x.dt n = true ∧ Ds.dt n xs = true := by simpa [Ds.dt] using h
    obtain ⟨p, a1, a2, a3⟩ := D.dt_pd h2.1
    obtain ⟨ps, b1, b2, b3⟩ := Ds.dt_pd h2.2
    exact ⟨p :: ps, by simp [Ds.pd, a1, b1], by simp [PyData.plainAll, a2, b2], by simp only [PyData.depthAll]; omega⟩
end
mutual
theorem D.eqv_pd : ∀ {a b : D} {p q : PyData}, a.pd = some p → b.pd = some q → PyData.eqv p q = a.eqv b := by
  intro a b p q h1 h2
  cases a <;> cases b <;> simp only [D.pd, Option.some.injEq, Option.map_eq_some_iff, reduceCtorEq] at h1 h2 <;>
    first
    | (subst h1; subst h2; first | rfl | simp [PyData.eqv, D.eqv])
    | (obtain ⟨ps, h3, rfl⟩ := h1; obtain ⟨qs, h4, rfl⟩ := h2; first | (simp only [PyData.eqv, D.eqv]; exact Ds.eqv_pd h3 h4) | simp [PyData.eqv, D.eqv])
    | (obtain ⟨ps, h3, rfl⟩ := h1; subst h2; simp [PyData.eqv, D.eqv])
    | (obtain ⟨ps, h3, rfl⟩ := h2; subst h1; simp [PyData.eqv, D.eqv])
    | skip
theorem Ds.eqv_pd : ∀ {a b : List D} {p q : List PyData}, Ds.pd a = some p → Ds.pd b = some q → PyData.eqvAll p q = Ds.eqv a b
  | [], [], p, q, h1, h2 => by
    simp only [Ds.pd, Option.some.injEq] at h1 h2
    subst h1; subst h2; simp [PyData.eqvAll, Ds.eqv]
  | [], y :: ys, p, q, h1, h2 => by
    simp only [Ds.pd, Option.some.injEq] at h1 h2
    subst h1
    obtain ⟨a, e1, e2⟩ := Option.bind_eq_some_iff.mp h2
    obtain ⟨b, e3, e4⟩ := Option.map_eq_some_iff.mp e2
    subst e4
    simp [PyData.eqvAll, Ds.eqv]
  | x :: xs, [], p, q, h1, h2 => by
    simp only [Ds.pd, Option.some.injEq] at h1 h2
    subst h2
    obtain ⟨a, e1, e2⟩ := Option.bind_eq_some_iff.mp h1
    obtain ⟨b, e3, e4⟩ := Option.map_eq_some_iff.mp e2
    subst e4
    simp [PyData.eqvAll, Ds.eqv]
  | x :: xs, y :: ys, p, q, h1, h2 => by
    simp only [Ds.pd] at h1 h2
    obtain ⟨a, e1, e2⟩ := Option.bind_eq_some_iff.mp h1
    obtain ⟨b, e3, e4⟩ := Option.map_eq_some_iff.mp e2
    subst e4
    obtain ⟨a2, f1, f2⟩ := Option.bind_eq_some_iff.mp h2
    obtain ⟨b2, f3, f4⟩ := Option.map_eq_some_iff.mp f2
    subst f4
    simp only [PyData.eqvAll, Ds.eqv]
    rw [D.eqv_pd e1 f1, Ds.eqv_pd e3 f3]
end
/-- a == b, a != b -/
def dEq (neg : Bool) (a b : D) (k : D → Prop) : Prop := (a.dt 60 && b.dt 60) = true ∧ k (.bl (if neg then !a.eqv b else a.eqv b))
def rEqP (K : PySem.W.Frag) (neg : Bool) : R2 := fun x y H Q => ∃ p q, Dp K H x p ∧ Dp K H y q ∧ p.plain = true ∧ q.plain = true ∧ p.depth ≤ 61 ∧ Q (.bl (if neg then !PyData.eqv p q else PyData.eqv p q)) H
theorem op_eqP {X : Cx} (hu : X.A.units + 65 < cLine) : OpR X (compareOp .Eq) (rEqP X.K false) := by
  intro pins s σ H x y v u Q I rx ry ⟨p, q, hp, hq, pp, qq, dp, h⟩
  obtain ⟨as, r1⟩ := Dp.reads I p x v hp rx
  obtain ⟨bs, r2⟩ := Dp.reads I q y u hq ry
  have := Nat.min_le_left p.depth q.depth
  exact SeqAt.eq_plain r1 r2 pp qq (by omega) ⟨.bl _, H, I, rfl, h⟩
theorem op_neP {X : Cx} (hu : X.A.units + 65 < cLine) : OpR X (compareOp .NotEq) (rEqP X.K true) := by
  intro pins s σ H x y v u Q I rx ry ⟨p, q, hp, hq, pp, qq, dp, h⟩
  obtain ⟨as, r1⟩ := Dp.reads I p x v hp rx
  obtain ⟨bs, r2⟩ := Dp.reads I q y u hq ry
  have := Nat.min_le_left p.depth q.depth
  exact SeqAt.ne_plain r1 r2 pp qq (by omega) ⟨.bl _, H, I, rfl, h⟩
section
variable {K : PySem.W.Frag}
theorem opd_eqP {neg : Bool} : OpD K (rEqP K neg) (dEq neg) := fun G H x y a b k Q s ra rb ⟨h, hk⟩ o => by
  have h2 : a.dt 60 = true ∧ b.dt 60 = true := by simpa using h
  obtain ⟨p, a1, a2, a3⟩ := D.dt_pd h2.1
  obtain ⟨q, b1, b2, b3⟩ := D.dt_pd h2.2
  refine ⟨p, q, ra.dp s a1, rb.dp s b1, a2, b2, a3, ?_⟩
  rw [D.eqv_pd a1 b1]
  exact o.here s (.bl _) hk
end
/-- x in a list, a tuple of data of any depth -/
def rInAll (K : PySem.W.Frag) (neg : Bool) : R2 := fun x y H Q => ∃ d ds, Dp K H x d ∧ (Dp K H y (.list ds) ∨ Dp K H y (.tuple ds)) ∧ d.plain = true ∧ PyData.plainAll ds = true ∧ d.depth ≤ 61 ∧ Q (.bl (if neg then !(ds.any fun z => PyData.eqv z d) else ds.any fun z => PyData.eqv z d)) H
theorem op_inAll {X : Cx} (hu : X.A.units + 65 < cLine) : OpR X (compareOp .In) (rInAll X.K false) := by
  intro pins s σ H x y v u Q I rx ry ⟨d, ds, hd, he, pd, pds, hdd, q⟩
  obtain ⟨as, r1⟩ := Dp.reads I d x v hd rx
  have hm := Nat.min_le_right (PyData.depthAll ds) d.depth
  rcases he with he | he
  · obtain ⟨bs, r2⟩ := Dp.reads I (.list ds) y u he ry
    exact SeqAt.in_list_data r2 r1 pds pd (by omega) ⟨.bl _, H, I, rfl, q⟩
  · obtain ⟨bs, r2⟩ := Dp.reads I (.tuple ds) y u he ry
    exact SeqAt.in_tuple_data r2 r1 pds pd (by omega) ⟨.bl _, H, I, rfl, q⟩
theorem op_notInAll {X : Cx} (hu : X.A.units + 65 < cLine) : OpR X (compareOp .NotIn) (rInAll X.K true) := by
  intro pins s σ H x y v u Q I rx ry ⟨d, ds, hd, he, pd, pds, hdd, q⟩
  obtain ⟨as, r1⟩ := Dp.reads I d x v hd rx
  have hm := Nat.min_le_right (PyData.depthAll ds) d.depth
  rcases he with he | he
  · obtain ⟨bs, r2⟩ := Dp.reads I (.list ds) y u he ry
    exact SeqAt.notIn_list_data r2 r1 pds pd (by omega) ⟨.bl _, H, I, rfl, q⟩
  · obtain ⟨bs, r2⟩ := Dp.reads I (.tuple ds) y u he ry
    exact SeqAt.notIn_tuple_data r2 r1 pds pd (by omega) ⟨.bl _, H, I, rfl, q⟩
theorem Ds.any_pd {d : D} {p : PyData} (hd : d.pd = some p) : ∀ {xs : List D} {ps : List PyData}, Ds.pd xs = some ps → (ps.any fun z => PyData.eqv z p) = xs.any fun z => z.eqv d
  | [], ps, h => by
    simp only [Ds.pd, Option.some.injEq] at h
    subst h; rfl
  | x :: xs, ps, h => by
    simp only [Ds.pd] at h
    obtain ⟨a, e1, e2⟩ := Option.bind_eq_some_iff.mp h
    obtain ⟨b, e3, e4⟩ := Option.map_eq_some_iff.mp e2
    subst e4
    simp only [List.any_cons, D.eqv_pd e1 hd, Ds.any_pd hd e3]
end Vl

namespace Vl
open PySem PySem.Spec PyProof.Rows L2

def dIn (neg : Bool) (a b : D) (k : D → Prop) : Prop := match b with
  | .str z => dInS neg a (.str z) k
  | .tup xs => (a.dt 60 && Ds.dt 60 xs) = true ∧ k (.bl (if neg then !(xs.any fun z => z.eqv a) else xs.any fun z => z.eqv a))
  | .lst xs => (a.dt 60 && Ds.dt 60 xs) = true ∧ k (.bl (if neg then !(xs.any fun z => z.eqv a) else xs.any fun z => z.eqv a))
  | .ro xs => (a.dt 60 && Ds.dt 60 xs) = true ∧ k (.bl (if neg then !(xs.any fun z => z.eqv a) else xs.any fun z => z.eqv a))
  | _ => False
section
variable {K : PySem.W.Frag} {X : Cx}
theorem opd_in : OpD K (fun x y H Q => (∃ (c : Nat) (z : Str), x = .str ⟨#[c]⟩ ∧ y = .str z ∧ Q (.bl (decide (c ∈ z.cps.toList))) H) ∨ rInAll K false x y H Q) (dIn false) := by
  intro G H x y a b k Q s ra rb h o
  have key : ∀ xs : List D, (a.dt 60 && Ds.dt 60 xs) = true → ∃ p ps, a.pd = some p ∧ Ds.pd xs = some ps ∧ p.plain = true ∧ PyData.plainAll ps = true ∧ p.depth ≤ 61 ∧ (ps.any fun z => PyData.eqv z p) = xs.any fun z => z.eqv a := fun xs h => by
    have h2 : a.dt 60 = true ∧ Ds.dt 60 xs = true := by simpa using h
    obtain ⟨p, a1, a2, a3⟩ := D.dt_pd h2.1
    obtain ⟨ps, b1, b2, b3⟩ := Ds.dt_pd h2.2
    exact ⟨p, ps, a1, b1, a2, b2, a3, Ds.any_pd a1 b1⟩
  cases rb with
  | str z => exact .inl (opd_inS G H x _ a _ k Q s ra (.str z) h o)
  | tup hp l r =>
    obtain ⟨h, hk⟩ := h
    obtain ⟨p, ps, h1, h2, h3, h4, h5, h6⟩ := key _ h
    rw [← h6] at hk
    exact .inr ⟨p, ps, ra.dp s h1, .inr (.tup (same_t s hp) (r.dp s h2)), h3, h4, h5, o.here s (.bl _) hk⟩
  | lst hp l r =>
    obtain ⟨h, hk⟩ := h
    obtain ⟨p, ps, h1, h2, h3, h4, h5, h6⟩ := key _ h
    rw [← h6] at hk
    exact .inr ⟨p, ps, ra.dp s h1, .inl (.lst (SqL.of (s _ _ hp)) (r.dp s h2)), h3, h4, h5, o.here s (.bl _) hk⟩
  | ro hp l r =>
    obtain ⟨h, hk⟩ := h
    obtain ⟨p, ps, h1, h2, h3, h4, h5, h6⟩ := key _ h
    rw [← h6] at hk
    exact .inr ⟨p, ps, ra.dp s h1, .inl (.lst (same_l s hp) (r.dp s h2)), h3, h4, h5, o.here s (.bl _) hk⟩
  | _ => exact h.elim
theorem opd_notIn : OpD K (fun x y H Q => (∃ (c : Nat) (z : Str), x = .str ⟨#[c]⟩ ∧ y = .str z ∧ Q (.bl (!decide (c ∈ z.cps.toList))) H) ∨ rInAll K true x y H Q) (dIn true) := by
  intro G H x y a b k Q s ra rb h o
  have key : ∀ xs : List D, (a.dt 60 && Ds.dt 60 xs) = true → ∃ p ps, a.pd = some p ∧ Ds.pd xs = some ps ∧ p.plain = true ∧ PyData.plainAll ps = true ∧ p.depth ≤ 61 ∧ (ps.any fun z => PyData.eqv z p) = xs.any fun z => z.eqv a := fun xs h => by
    have h2 : a.dt 60 = true ∧ Ds.dt 60 xs = true := by simpa using h
    obtain ⟨p, a1, a2, a3⟩ := D.dt_pd h2.1
    obtain ⟨ps, b1, b2, b3⟩ := Ds.dt_pd h2.2
    exact ⟨p, ps, a1, b1, a2, b2, a3, Ds.any_pd a1 b1⟩
  cases rb with
  | str z => exact .inl (opd_notInS G H x _ a _ k Q s ra (.str z) h o)
  | tup hp l r =>
    obtain ⟨h, hk⟩ := h
    obtain ⟨p, ps, h1, h2, h3, h4, h5, h6⟩ := key _ h
    rw [← h6] at hk
    exact .inr ⟨p, ps, ra.dp s h1, .inr (.tup (same_t s hp) (r.dp s h2)), h3, h4, h5, o.here s (.bl _) hk⟩
  | lst hp l r =>
    obtain ⟨h, hk⟩ := h
    obtain ⟨p, ps, h1, h2, h3, h4, h5, h6⟩ := key _ h
    rw [← h6] at hk
    exact .inr ⟨p, ps, ra.dp s h1, .inl (.lst (SqL.of (s _ _ hp)) (r.dp s h2)), h3, h4, h5, o.here s (.bl _) hk⟩
  | ro hp l r =>
    obtain ⟨h, hk⟩ := h
    obtain ⟨p, ps, h1, h2, h3, h4, h5, h6⟩ := key _ h
    rw [← h6] at hk
    exact .inr ⟨p, ps, ra.dp s h1, .inl (.lst (same_l s hp) (r.dp s h2)), h3, h4, h5, o.here s (.bl _) hk⟩
  | _ => exact h.elim
theorem op_in1 (hu : X.A.units + 65 < cLine) : OpR X (compareOp .In) (fun x y H Q => (∃ (c : Nat) (z : Str), x = .str ⟨#[c]⟩ ∧ y = .str z ∧ Q (.bl (decide (c ∈ z.cps.toList))) H) ∨ rInAll X.K false x y H Q) := op_in_sign.or (op_inAll hu)
theorem op_notIn1 (hu : X.A.units + 65 < cLine) : OpR X (compareOp .NotIn) (fun x y H Q => (∃ (c : Nat) (z : Str), x = .str ⟨#[c]⟩ ∧ y = .str z ∧ Q (.bl (!decide (c ∈ z.cps.toList))) H) ∨ rInAll X.K true x y H Q) := op_notIn_sign.or (op_notInAll hu)
theorem hu65 {A : Around} {k : Nat} (hr : Room k A) : A.units + 65 < cLine := by have := hr.un; omega
theorem hu64 {A : Around} {k : Nat} (hr : Room k A) : A.units + 64 < cLine := by have := hr.un; omega

/-! ### the operators as one uses them -/
variable {tk : Tk} {a b : Expr} {Ta Tb : TF} {pos : Pos} {k : Nat}
theorem pf_add (ha : PF X tk a Ta) (hb : PF X tk b Tb) : PF X tk (.BinOp a .Add b pos) (tBin dAdd Ta Tb) := pf_op op_addAll opd_add ha hb
theorem pf_sub (ha : PF X tk a Ta) (hb : PF X tk b Tb) : PF X tk (.BinOp a .Sub b pos) (tBin (dI fun i j => i - j) Ta Tb) := pf_op op_sub opd_I0 ha hb
theorem pf_mul (ha : PF X tk a Ta) (hb : PF X tk b Tb) : PF X tk (.BinOp a .Mult b pos) (tBin (dIC CMul fun i j => i * j) Ta Tb) := pf_op op_mul opd_I ha hb
theorem pf_mod (ha : PF X tk a Ta) (hb : PF X tk b Tb) : PF X tk (.BinOp a .Mod b pos) (tBin (dIC (fun _ j => 0 < j) fun i j => i % j) Ta Tb) := pf_op op_mod opd_I ha hb
theorem pf_fdiv (ha : PF X tk a Ta) (hb : PF X tk b Tb) : PF X tk (.BinOp a .FloorDiv b pos) (tBin (dIC CDiv fun i j => i / j) Ta Tb) := pf_op op_fdiv opd_I ha hb
theorem pf_pow (ha : PF X tk a Ta) (hb : PF X tk b Tb) : PF X tk (.BinOp a .Pow b pos) (tBin (dIC CPow fun i j => i ^ j.toNat) Ta Tb) := pf_op op_pow opd_I ha hb
theorem pf_shr (ha : PF X tk a Ta) (hb : PF X tk b Tb) : PF X tk (.BinOp a .RShift b pos) (tBin (dIC (fun _ j => 0 ≤ j) fun i j => i / 2 ^ j.toNat) Ta Tb) := pf_op op_shr opd_I ha hb
theorem pf_eq (hr : Room k X.A) (ha : PF X tk a Ta) (hb : PF X tk b Tb) : PF X tk (.Compare a [.Eq] [b] pos) (tBin (dEq false) Ta Tb) := pf_cmp (op_eqP (hu65 hr)) opd_eqP ha hb (nomark _)
theorem pf_ne (hr : Room k X.A) (ha : PF X tk a Ta) (hb : PF X tk b Tb) : PF X tk (.Compare a [.NotEq] [b] pos) (tBin (dEq true) Ta Tb) := pf_cmp (op_neP (hu65 hr)) opd_eqP ha hb (nomark _)
theorem pf_lt (ha : PF X tk a Ta) (hb : PF X tk b Tb) : PF X tk (.Compare a [.Lt] [b] pos) (tBin (dB fun i j => decide (i < j)) Ta Tb) := pf_cmp op_lt opd_B0 ha hb (nomark _)
theorem pf_le (ha : PF X tk a Ta) (hb : PF X tk b Tb) : PF X tk (.Compare a [.LtE] [b] pos) (tBin (dB fun i j => decide (i ≤ j)) Ta Tb) := pf_cmp op_le opd_B0 ha hb (nomark _)
theorem pf_gt (ha : PF X tk a Ta) (hb : PF X tk b Tb) : PF X tk (.Compare a [.Gt] [b] pos) (tBin (dB fun i j => decide (j < i)) Ta Tb) := pf_cmp op_gt opd_B0 ha hb (nomark _)
theorem pf_ge (ha : PF X tk a Ta) (hb : PF X tk b Tb) : PF X tk (.Compare a [.GtE] [b] pos) (tBin (dB fun i j => decide (j ≤ i)) Ta Tb) := pf_cmp op_ge opd_B0 ha hb (nomark _)
theorem pf_in (hr : Room k X.A) (ha : PF X tk a Ta) (hb : PF X tk b Tb) (hm : behindInMarks .In b = false := by rfl) : PF X tk (.Compare a [.In] [b] pos) (tBin (dIn false) Ta Tb) := pf_cmp (op_in1 (hu65 hr)) opd_in ha hb hm
theorem pf_notIn (hr : Room k X.A) (ha : PF X tk a Ta) (hb : PF X tk b Tb) (hm : behindInMarks .NotIn b = false := by rfl) : PF X tk (.Compare a [.NotIn] [b] pos) (tBin (dIn true) Ta Tb) := pf_cmp (op_notIn1 (hu65 hr)) opd_notIn ha hb hm
theorem pft_eq (hr : Room k X.A) (ha : PF X tk a Ta) (hb : PF X tk b Tb) : PFT X tk (.Compare a [.Eq] [b] pos) (tBinT (dEq false) Ta Tb) := pft_cmp (op_eqP (hu65 hr)) opd_eqP ha hb (nomark _)
theorem pft_ne (hr : Room k X.A) (ha : PF X tk a Ta) (hb : PF X tk b Tb) : PFT X tk (.Compare a [.NotEq] [b] pos) (tBinT (dEq true) Ta Tb) := pft_cmp (op_neP (hu65 hr)) opd_eqP ha hb (nomark _)
theorem pft_lt (ha : PF X tk a Ta) (hb : PF X tk b Tb) : PFT X tk (.Compare a [.Lt] [b] pos) (tBinT (dB fun i j => decide (i < j)) Ta Tb) := pft_cmp op_lt opd_B0 ha hb (nomark _)
theorem pft_le (ha : PF X tk a Ta) (hb : PF X tk b Tb) : PFT X tk (.Compare a [.LtE] [b] pos) (tBinT (dB fun i j => decide (i ≤ j)) Ta Tb) := pft_cmp op_le opd_B0 ha hb (nomark _)
theorem pft_gt (ha : PF X tk a Ta) (hb : PF X tk b Tb) : PFT X tk (.Compare a [.Gt] [b] pos) (tBinT (dB fun i j => decide (j < i)) Ta Tb) := pft_cmp op_gt opd_B0 ha hb (nomark _)
theorem pft_ge (ha : PF X tk a Ta) (hb : PF X tk b Tb) : PFT X tk (.Compare a [.GtE] [b] pos) (tBinT (dB fun i j => decide (j ≤ i)) Ta Tb) := pft_cmp op_ge opd_B0 ha hb (nomark _)
theorem pft_in (hr : Room k X.A) (ha : PF X tk a Ta) (hb : PF X tk b Tb) (hm : behindInMarks .In b = false := by rfl) : PFT X tk (.Compare a [.In] [b] pos) (tBinT (dIn false) Ta Tb) := pft_cmp (op_in1 (hu65 hr)) opd_in ha hb hm
theorem pft_notIn (hr : Room k X.A) (ha : PF X tk a Ta) (hb : PF X tk b Tb) (hm : behindInMarks .NotIn b = false := by rfl) : PFT X tk (.Compare a [.NotIn] [b] pos) (tBinT (dIn true) Ta Tb) := pft_cmp (op_notIn1 (hu65 hr)) opd_notIn ha hb hm
end

/-! ### truth -/
def D.truth : D → (Bool → Prop) → Prop
  | .non, k => k false
  | .bl b, k => k b
  | .int i, k => k (i != 0)
  | .str y, k => y.length ≤ sizeLine ∧ k ((y.length : Int) != 0)
  | .tup xs, k => k (!xs.isEmpty)
  | .lst xs, k => k (!xs.isEmpty)
  | .ro xs, k => k (!xs.isEmpty)
  | .dct xs, k => k (!xs.isEmpty)
  | _, _ => False
def tTru (T : TF) : TTD := fun R Γ Φ => T R Γ fun d Γ' => d.truth fun b => Φ b Γ'
theorem Reps.isEmpty {K : PySem.W.Frag} {G : Hp} {xs : List V} {ds : List D} (r : Reps K G xs ds) : xs.isEmpty = ds.isEmpty := by cases r <;> rfl
theorem RepK.isEmpty {K : PySem.W.Frag} {G : Hp} {xs : List (Key × V)} {ds : List (Key × D)} (r : RepK K G xs ds) : xs.isEmpty = ds.isEmpty := by cases r <;> rfl
theorem Rep.tru {K : PySem.W.Frag} {G H : Hp} (s : Same G H) {v : V} {d : D} {k : Bool → Prop} (r : Rep K G v d) (h : d.truth k) : ∃ b, TruV K v H b ∧ k b := by
  cases r with
  | non => exact ⟨false, rfl, h⟩
  | bl b => exact ⟨b, rfl, h⟩
  | int i => exact ⟨_, rfl, h⟩
  | str x => exact ⟨_, ⟨h.1, rfl⟩, h.2⟩
  | tup hp l r => exact ⟨_, .inr (.inl ⟨_, same_t s hp, rfl⟩), by rw [r.isEmpty]; exact h⟩
  | lst hp l r => exact ⟨_, .inl ⟨_, SqL.of (s _ _ hp), rfl⟩, by rw [r.isEmpty]; exact h⟩
  | ro hp l r => exact ⟨_, .inl ⟨_, same_l s hp, rfl⟩, by rw [r.isEmpty]; exact h⟩
  | dct hp l r => exact ⟨_, .inr (.inr ⟨_, s _ _ hp, rfl⟩), by rw [r.isEmpty]; exact h⟩
  | _ => exact h.elim
section
variable {X : Cx} {tk : Tk} {a b e : Expr} {T Ta Tb : TF} {Tt Tu : TTD} {rest : List Expr} {pos : Pos}
theorem pft_tru (h : PF X tk e T) (he : ∀ whole, isTrue e X.env whole = (do let v ← whole; standAt e.pos; holding [v] (truthy v)) := by intro _; rfl) : PFT X tk e (tTru T) :=
  pt_imp (pt_truth h he) fun σ H Q ⟨B, R, Γ, G, Φ, t, en, h, k⟩ => ⟨B, R, Γ, G, _, t, en, h, fun v G' H' Γ' d p r hd => by
    obtain ⟨b, h1, h2⟩ := r.tru p.env.gh hd
    exact ⟨b, h1, k b G' H' Γ' p h2⟩⟩
theorem pft_w (h : PFW X tk e Tt) : PFT X tk e Tt := PW.pt h
def tAndD (T U : TTD) : TTD := fun R Γ Φ => T R Γ fun c Γ' => if c = true then U R Γ' Φ else Φ false Γ'
def tOrD (T U : TTD) : TTD := fun R Γ Φ => T R Γ fun c Γ' => if c = true then Φ true Γ' else U R Γ' Φ
def tNotD (T : TTD) : TTD := fun R Γ Φ => T R Γ fun c Γ' => Φ (!c) Γ'
theorem pfw_and1 (h : PFT X tk a Tt) : PFW X tk (.BoolOp .And [a] pos) Tt := pw_and1 h
theorem pfw_or1 (h : PFT X tk a Tt) : PFW X tk (.BoolOp .Or [a] pos) Tt := pw_or1 h
theorem pfw_and (ha : PFT X tk a Tt) (hb : PFW X tk (.BoolOp .And (b :: rest) pos) Tu) : PFW X tk (.BoolOp .And (a :: b :: rest) pos) (tAndD Tt Tu) :=
  pw_imp (pw_and ha hb) fun σ H Q ⟨B, R, Γ, G, Φ, t, en, h, k⟩ => ⟨B, R, Γ, G, _, t, en, h, fun c G' H' Γ' p hc => by
    cases c with
    | true => exact iteT ⟨B, R, Γ', G', Φ, t, p.env, hc, fun b G2 H2 Γ2 p2 h2 => k b G2 H2 Γ2 (p.trans p2) h2⟩
    | false => exact iteF (k false G' H' Γ' p hc)⟩
theorem pfw_or (ha : PFT X tk a Tt) (hb : PFW X tk (.BoolOp .Or (b :: rest) pos) Tu) : PFW X tk (.BoolOp .Or (a :: b :: rest) pos) (tOrD Tt Tu) :=
  pw_imp (pw_or ha hb) fun σ H Q ⟨B, R, Γ, G, Φ, t, en, h, k⟩ => ⟨B, R, Γ, G, _, t, en, h, fun c G' H' Γ' p hc => by
    cases c with
    | false => exact iteF ⟨B, R, Γ', G', Φ, t, p.env, hc, fun b G2 H2 Γ2 p2 h2 => k b G2 H2 Γ2 (p.trans p2) h2⟩
    | true => exact iteT (k true G' H' Γ' p hc)⟩
theorem pft_not (h : PFT X tk a Tt) : PFT X tk (.UnaryOp .Not a pos) (tNotD Tt) :=
  pt_imp (L2.pt_not h) fun σ H Q ⟨B, R, Γ, G, Φ, t, en, h, k⟩ => ⟨B, R, Γ, G, _, t, en, h, fun c G' H' Γ' p hc => k _ G' H' Γ' p hc⟩
/-- as values, of bools -/
def D.asBl : D → (Bool → Prop) → Prop
  | .bl b, k => k b
  | _, _ => False
theorem Rep.asBl {K : PySem.W.Frag} {G : Hp} {v : V} {d : D} {k : Bool → Prop} (r : Rep K G v d) (h : d.asBl k) : ∃ b, v = .bl b ∧ d = .bl b ∧ k b := by
  cases r with
  | bl b => exact ⟨b, rfl, rfl, h⟩
  | _ => exact h.elim
def tAndV' (T U : TF) : TF := fun R Γ Φ => T R Γ fun d Γ' => d.asBl fun c => if c = true then U R Γ' Φ else Φ (.bl false) Γ'
def tOrV' (T U : TF) : TF := fun R Γ Φ => T R Γ fun d Γ' => d.asBl fun c => if c = true then Φ (.bl true) Γ' else U R Γ' Φ
def tNotV' (T : TF) : TF := fun R Γ Φ => T R Γ fun d Γ' => d.asBl fun c => Φ (.bl (!c)) Γ'
theorem pf_one {op} (h : PF X tk a T) : PF X tk (.BoolOp op [a] pos) T := pe_one h
theorem pf_and (ha : PF X tk a Ta) (hb : PF X tk (.BoolOp .And (b :: rest) pos) Tb) : PF X tk (.BoolOp .And (a :: b :: rest) pos) (tAndV' Ta Tb) :=
  pe_imp (L2.pe_and ha hb) fun σ H Q ⟨B, R, Γ, G, Φ, t, en, h, k⟩ => ⟨B, R, Γ, G, _, t, en, h, fun v G' H' Γ' d p r hd => by
    obtain ⟨c, e1, e2, hc⟩ := r.asBl hd
    refine ⟨c, e1, ?_⟩
    cases c with
    | true => exact iteT ⟨B, R, Γ', G', Φ, t, p.env, hc, fun v G2 H2 Γ2 d p2 r2 h2 => k v G2 H2 Γ2 d (p.trans p2) r2 h2⟩
    | false => exact iteF (k (.bl false) G' H' Γ' (.bl false) p (.bl false) hc)⟩
theorem pf_or (ha : PF X tk a Ta) (hb : PF X tk (.BoolOp .Or (b :: rest) pos) Tb) : PF X tk (.BoolOp .Or (a :: b :: rest) pos) (tOrV' Ta Tb) :=
  pe_imp (L2.pe_or ha hb) fun σ H Q ⟨B, R, Γ, G, Φ, t, en, h, k⟩ => ⟨B, R, Γ, G, _, t, en, h, fun v G' H' Γ' d p r hd => by
    obtain ⟨c, e1, e2, hc⟩ := r.asBl hd
    refine ⟨c, e1, ?_⟩
    cases c with
    | false => exact iteF ⟨B, R, Γ', G', Φ, t, p.env, hc, fun v G2 H2 Γ2 d p2 r2 h2 => k v G2 H2 Γ2 d (p.trans p2) r2 h2⟩
    | true => exact iteT (k (.bl true) G' H' Γ' (.bl true) p (.bl true) hc)⟩
theorem pf_not (h : PF X tk a T) : PF X tk (.UnaryOp .Not a pos) (tNotV' T) :=
  pe_imp (L2.pe_not h) fun σ H Q ⟨B, R, Γ, G, Φ, t, en, h, k⟩ => ⟨B, R, Γ, G, _, t, en, h, fun v G' H' Γ' d p r hd => by
    obtain ⟨c, e1, e2, hc⟩ := r.asBl hd
    exact ⟨c, e1, k _ G' H' Γ' _ p (.bl _) hc⟩⟩
/-- a if t else b -/
def tIfD (T : TTD) (U W : TF) : TF := fun R Γ Φ => T R Γ fun c Γ' => if c = true then U R Γ' Φ else W R Γ' Φ
theorem pf_ifExp {c : Expr} (hc : PFT X tk c Tt) (ha : PF X tk a Ta) (hb : PF X tk b Tb) : PF X tk (.IfExp c a b pos) (tIfD Tt Ta Tb) :=
  pe_imp (pe_ifExp hc ha hb) fun σ H Q ⟨B, R, Γ, G, Φ, t, en, h, k⟩ => ⟨B, R, Γ, G, _, t, en, h, fun c G' H' Γ' p hc => by
    cases c with
    | true => exact iteT ⟨B, R, Γ', G', Φ, t, p.env, hc, fun v G2 H2 Γ2 d p2 r2 h2 => k v G2 H2 Γ2 d (p.trans p2) r2 h2⟩
    | false => exact iteF ⟨B, R, Γ', G', Φ, t, p.env, hc, fun v G2 H2 Γ2 d p2 r2 h2 => k v G2 H2 Γ2 d (p.trans p2) r2 h2⟩⟩
end

/-! ### arguments, displays, built-ins -/
def tNilD : TAD := fun _ Γ Φ => Φ [] Γ
def tConsD (T : TF) (U : TAD) : TAD := fun R Γ Φ => T R Γ fun d Γ1 => U R Γ1 fun ds Γ2 => Φ (d :: ds) Γ2
section
variable {X : Cx} {tk : Tk} {e : Expr} {es : List Expr} {T : TF} {U : TAD} {pos : Pos}
theorem pfa_nil : PFA X tk [] tNilD := pa_imp pa_nil fun σ H Q ⟨B, R, Γ, G, Φ, t, en, h, k⟩ => k [] G H Γ [] (EvP.refl en) .nil h
theorem pfa_cons (ha : PF X tk e T) (hr : PFA X tk es U) (hs : starEach (e :: es) X.env = (false, eval e X.env) :: starEach es X.env := by rfl) : PFA X tk (e :: es) (tConsD T U) :=
  pa_imp (pa_cons ha hr hs) fun σ H Q ⟨B, R, Γ, G, Φ, t, en, h, k⟩ => ⟨B, R, Γ, G, _, t, en, h, fun v G1 H1 Γ1 d p1 r1 h1 => ⟨B, R, Γ1, G1, _, t, p1.env, h1, fun vs G2 H2 Γ2 ds p2 r2 h2 =>
    k (v :: vs) G2 H2 Γ2 (d :: ds) (p1.trans p2) (.cons (r1.mono p2.gg) r2) h2⟩⟩
def tTupD (U : TAD) : TF := fun R Γ Φ => U R Γ fun ds Γ' => ds.length ≤ sizeLine ∧ Φ (.tup ds) Γ'
theorem pf_tup {x1} (h : PFA X tk es U) : PF X tk (.Tuple es x1 pos) (tTupD U) :=
  pe_imp (pe_tup h) fun σ H Q ⟨B, R, Γ, G, Φ, t, en, h, k⟩ => ⟨B, R, Γ, G, _, t, en, h, fun vs G1 H1 Γ1 ds p1 r1 ⟨h1, h2⟩ => by
    have hl : vs.length ≤ sizeLine := by rw [r1.length]; exact h1
    exact ⟨hl, fun p hp => k (.ref p) _ _ Γ1 (.tup ds) (p1.trans (p1.env.new hp)) (.tup (SqT.of upd_same) hl (r1.new p1.env.gh hp)) h2⟩⟩
def tLstO (U : TAD) : TOD := fun R Γ Φ => U R Γ fun ds Γ' => ds.length ≤ sizeLine ∧ Φ (.lst ds) Γ'
theorem po_lst (h : PFA X tk es U) : PFO X tk (.List es pos) (tLstO U) :=
  pe_imp (pe_lst h) fun σ H Q ⟨B, R, Γ, G, Φ, t, en, h, k⟩ => ⟨B, R, Γ, G, _, t, en, h, fun vs G1 H1 Γ1 ds p1 r1 ⟨h1, h2⟩ => by
    have hl : vs.length ≤ sizeLine := by rw [r1.length]; exact h1
    exact ⟨hl, fun p hp => k (.ref p) G1 _ Γ1 (.lst ds) (p1.trans (p1.env.cell hp)) ⟨p, _, rfl, p1.env.gh.free hp, upd_same, ⟨vs, rfl, hl, r1⟩, p1.back hp, p1.env.wd.out hp⟩ h2⟩⟩
/-- frozen -/
def tFz (T : TOD) : TF := fun R Γ Φ => T R Γ fun c Γ' => Φ c.d Γ'
theorem pf_fz {T : TOD} (h : PFO X tk e T) : PF X tk e (tFz T) :=
  pe_imp h fun σ H Q ⟨B, R, Γ, G, Φ, t, en, h, k⟩ => ⟨B, R, Γ, G, _, t, en, h, fun v G1 H1 Γ1 c p1 ⟨l, o, e1, g1, h1, c1, f1, na⟩ h2 => by
    subst e1
    have n1 := en.noOw f1
    have n2 : ∀ (i : Nat) c, Γ1.sl[i]? = some (.ow c) → σ[i]? ≠ some (some (.ref l)) := fun i c q => by
      obtain ⟨c', q'⟩ := (p1.sh i).mpr ⟨c, q⟩
      exact n1 i c' q'
    have en2 := p1.env.freeze h1 g1 (en.bhNone f1) n2 na
    have s1 : Same G1 (upd G1 l o) := fun a u q => by rw [upd_ne (ne_of_none q g1)]; exact q
    refine k (.ref l) (upd G1 l o) H1 Γ1 c.d ⟨en2, p1.gg.trans s1, fun a u q => ?_, p1.hh, p1.sh, p1.as⟩ ((c1.mono s1).rep upd_same) h2
    by_cases z : a = l
    · subst z; exact .inr f1
    · rw [upd_ne z] at q; exact p1.gn a u q⟩
/-- a built-in called with frozen values -/
def CallD (K : PySem.W.Frag) (r : List V → Hp → VK → Prop) (f : List D → (D → Prop) → Prop) : Prop := ∀ (G H : Hp) (xs : List V) (as : List D) (k : D → Prop) (Q : VK), Same G H → Reps K G xs as → f as k → Out K G H k Q → r xs H Q
def tCBD (f : List D → (D → Prop) → Prop) (U : TAD) : TF := fun R Γ Φ => U R Γ fun ds Γ' => f ds fun d => Φ d Γ'
theorem cb_core {r : List V → Hp → VK → Prop} {f : List D → (D → Prop) → Prop} (hf : CallD X.K r f) {σ : L2.St} {H : Hp} {Q : VK} (h : lE X.K tk (tCBD f U) σ H Q) : tCB r (lA X.K tk U) σ H Q := by
  obtain ⟨B, R, Γ, G, Φ, t, en, h, k⟩ := h
  refine ⟨B, R, Γ, G, _, t, en, h, fun vs G1 H1 Γ1 ds p1 r1 h1 => ?_⟩
  exact hf G1 H1 vs ds _ Q p1.env.gh r1 h1 fun v d G' H' x rd kd => k v G' H' Γ1 d (p1.trans (p1.env.ext x)) rd kd
theorem pf_callB {x : Str} {id : String} {p : Pos} {r : List V → Hp → VK → Prop} {f : List D → (D → Prop) → Prop} (hc : CallR X (.builtin id) r) (hf : CallD X.K r f) (hm : X.mg x = none) (ha : PFA X tk (e :: es) U) (hg : Gl X x := by rfl) (hv : bootBuiltins x = some (.builtin id) := by decide +kernel) (hn : x ≠ "__name__" := by decide) (hdb : (x == ("__debug__" : Str)) = false := by decide)
    (he : starEach (e :: es) X.env = (false, eval e X.env) :: starEach es X.env := by rfl) (hpl : (backTo pos (starEach es X.env)).any (·.1) = false := by rfl) : PF X tk (.Call (.Name x p) (e :: es) [] pos) (tCBD f U) :=
  pe_imp (pe_callB hc hg hm hv ha hn hdb he hpl) fun σ H Q h => cb_core hf h
theorem pf_callTy {x : Str} {T : String} {p : Pos} {r : List V → Hp → VK → Prop} {f : List D → (D → Prop) → Prop} (hc : CallR X (.type T) r) (hf : CallD X.K r f) (hm : X.mg x = none) (ha : PFA X tk (e :: es) U) (hg : Gl X x := by rfl) (hv : bootBuiltins x = some (.type T) := by decide +kernel) (hn : x ≠ "__name__" := by decide) (hdb : (x == ("__debug__" : Str)) = false := by decide)
    (he : starEach (e :: es) X.env = (false, eval e X.env) :: starEach es X.env := by rfl) (hpl : (backTo pos (starEach es X.env)).any (·.1) = false := by rfl) : PF X tk (.Call (.Name x p) (e :: es) [] pos) (tCBD f U) :=
  pe_imp (pe_callTy hc hg hm hv ha hn hdb he hpl) fun σ H Q h => cb_core hf h
end
end Vl

namespace Vl
open PySem PySem.Spec PyProof.Rows L2

/-! ### subscripts, slices -/
def cutD (xs : List D) (lo hi : Option Int) : List D := (xs.drop (HT.sIx xs.length 0 lo)).take (HT.sIx xs.length xs.length hi - HT.sIx xs.length 0 lo)
def dIx : D → D → (D → Prop) → Prop
  | .tup xs, .int i, k => ∃ d, atI xs i = some d ∧ k d
  | .lst xs, .int i, k => ∃ d, atI xs i = some d ∧ k d
  | .ro xs, .int i, k => ∃ d, atI xs i = some d ∧ k d
  | .str z, .int i, k => z.length ≤ sizeLine ∧ ∃ c, atI z.cps.toList i = some c ∧ k (.str ⟨#[c]⟩)
  | _, _, _ => False
def dSl : D → Option Int → Option Int → (D → Prop) → Prop
  | .tup xs, lo, hi, k => k (.tup (cutD xs lo hi))
  | .lst xs, lo, hi, k => k (.lst (cutD xs lo hi))
  | .str z, lo, hi, k => z.length ≤ sizeLine ∧ k (.str (cutS z lo hi))
  | _, _, _, _ => False
section
variable {K : PySem.W.Frag} {G H : Hp}
theorem Reps.atI {xs : List V} {ds : List D} {i : Int} {d : D} (r : Reps K G xs ds) (h : L2.atI ds i = some d) : ∃ v, L2.atI xs i = some v ∧ Rep K G v d := by
  unfold L2.atI at h ⊢
  rw [r.length]
  cases e : ixN ds.length i with
  | none => rw [e] at h; cases h
  | some j =>
    rw [e] at h
    exact r.get (i := j) (d := d) h
theorem Reps.cut {xs : List V} {ds : List D} (r : Reps K G xs ds) (lo hi : Option Int) : Reps K G (cutV xs lo hi) (cutD ds lo hi) := by
  unfold cutV cutD
  rw [r.length]
  exact (r.drop _).take _
theorem opd_ix : OpD K (rIx K) dIx := by
  intro G H x y a b k Q s ra rb h o
  cases ra with
  | tup hp l r => cases rb with
    | int i =>
      obtain ⟨d, h1, h2⟩ := h
      obtain ⟨v, h3, h4⟩ := r.atI h1
      exact .inr (.inl ⟨_, _, i, v, rfl, rfl, same_t s hp, h3, o.here s h4 h2⟩)
    | _ => exact h.elim
  | lst hp l r => cases rb with
    | int i =>
      obtain ⟨d, h1, h2⟩ := h
      obtain ⟨v, h3, h4⟩ := r.atI h1
      exact .inl ⟨_, _, i, v, rfl, rfl, SqL.of (s _ _ hp), h3, o.here s h4 h2⟩
    | _ => exact h.elim
  | ro hp l r => cases rb with
    | int i =>
      obtain ⟨d, h1, h2⟩ := h
      obtain ⟨v, h3, h4⟩ := r.atI h1
      exact .inl ⟨_, _, i, v, rfl, rfl, same_l s hp, h3, o.here s h4 h2⟩
    | _ => exact h.elim
  | str z => cases rb with
    | int i =>
      obtain ⟨h0, c, h1, h2⟩ := h
      exact .inr (.inr ⟨z, i, c, rfl, rfl, h0, h1, o.here s (.str _) h2⟩)
    | _ => exact h.elim
  | _ => exact h.elim
end
section
variable {X : Cx} {tk : Tk} {a b e : Expr} {Ta Tb T : TF} {pos p2 : Pos} {lo hi : Option Expr}
theorem pf_ix (ha : PF X tk a Ta) (hb : PF X tk b Tb) (hs : PlainIx b := by exact fun _ _ => rfl) : PF X tk (.Subscript a b pos) (tBin dIx Ta Tb) := pe_imp (pe_ix ix_seq ha hb hs) fun σ H Q h => bin_core opd_ix h
/-- a part of a slice -/
abbrev TPD := ExD → Gm → (Option Int → Gm → Prop) → Prop
def lP (K : PySem.W.Frag) (tk : Tk) (T : TPD) : TO := fun σ H Q => ∃ (B : Bs) (R : ExD) (Γ : Gm) (G : Hp) (Φ : Option Int → Gm → Prop), tk B R ∧ EnvOk K B G H σ Γ ∧ T R Γ Φ ∧
  ∀ o G' H' Γ', EvP K B σ G H Γ G' H' Γ' → Φ o Γ' → Q o H'
def PFP (X : Cx) (tk : Tk) (e : Option Expr) (T : TPD) : Prop := L2.PO X e (lP X.K tk T)
def tNoPartD : TPD := fun _ Γ Φ => Φ none Γ
def D.asInt : D → (Int → Prop) → Prop
  | .int i, k => k i
  | _, _ => False
theorem Rep.asInt {K : PySem.W.Frag} {G : Hp} {v : V} {d : D} {k : Int → Prop} (r : Rep K G v d) (h : d.asInt k) : ∃ i, v = .int i ∧ d = .int i ∧ k i := by
  cases r with
  | int i => exact ⟨i, rfl, rfl, h⟩
  | _ => exact h.elim
def tPartD (T : TF) : TPD := fun R Γ Φ => T R Γ fun d Γ' => d.asInt fun i => Φ (some i) Γ'
theorem po_imp {e : Option Expr} {t t' : TO} (h : L2.PO X e t) (i : ∀ σ H Q, t' σ H Q → t σ H Q) : L2.PO X e t' := ⟨fun pins s σ H Q I w => h.run pins s σ H Q I (i σ H Q w)⟩
theorem pfp_none : PFP X tk none tNoPartD := po_imp L2.po_none fun σ H Q ⟨B, R, Γ, G, Φ, t, en, h, k⟩ => k none G H Γ (EvP.refl en) h
theorem pfp_some (h : PF X tk e T) : PFP X tk (some e) (tPartD T) := po_imp (L2.po_some h) fun σ H Q ⟨B, R, Γ, G, Φ, t, en, h, k⟩ => ⟨B, R, Γ, G, _, t, en, h, fun v G1 H1 Γ1 d p1 r1 h1 => by
  obtain ⟨i, e1, _, h2⟩ := r1.asInt h1
  exact ⟨i, e1, k (some i) G1 H1 Γ1 p1 h2⟩⟩
def rSlAll (K : PySem.W.Frag) : V → Option Int → Option Int → Hp → VK → Prop := fun x lo hi H Q => rSlL K x lo hi H Q ∨ (rSlA K x lo hi H Q ∨ rSlS x lo hi H Q)
theorem sl_all : SlR X (rSlAll X.K) := sl_list.or (sl_tupA.or sl_str)
def tSlD (T : TF) (Tl Th : TPD) : TF := fun R Γ Φ => T R Γ fun d Γ1 => Tl R Γ1 fun lo Γ2 => Th R Γ2 fun hi Γ3 => dSl d lo hi fun r => Φ r Γ3
theorem sl_d {K : PySem.W.Frag} {G H : Hp} {x : V} {d : D} {lo hi : Option Int} {k : D → Prop} {Q : VK} (s : Same G H) (r : Rep K G x d) (h : dSl d lo hi k) (o : Out K G H k Q) : rSlAll K x lo hi H Q := by
  cases r with
  | @tup p xs ds hp l r =>
    have hk : k (.tup (cutD ds lo hi)) := h
    refine .inr (.inl ⟨p, xs, rfl, same_t s hp, fun ⟨h1, h2⟩ => ?_, fun _ q hq => ?_⟩)
    · have e : cutD ds lo hi = ds := by
        unfold cutD
        rw [← r.length, h1, h2]
        simp [r.length]
      rw [e] at hk
      exact o.here s (.tup hp l r) hk
    · exact o.new s hq (.tup (SqT.of upd_same) (Nat.le_trans (cutV_length _ _ _) l) ((r.cut lo hi).new s hq)) hk
  | @lst p xs ds hp l r =>
    have hk : k (.lst (cutD ds lo hi)) := h
    exact .inl ⟨p, xs, rfl, SqL.of (s _ _ hp), fun q hq => o.new s hq (.lst upd_same (Nat.le_trans (cutV_length _ _ _) l) ((r.cut lo hi).new s hq)) hk⟩
  | str z => exact .inr (.inr ⟨z, rfl, h.1, o.here s (.str _) h.2⟩)
  | _ => exact h.elim
theorem pf_slice {Tl Th : TPD} (he : PF X tk e T) (hl : PFP X tk lo Tl) (hh : PFP X tk hi Th) : PF X tk (.Subscript e (.Slice lo hi none p2) pos) (tSlD T Tl Th) :=
  pe_imp (pe_slice sl_all he hl hh) fun σ H Q ⟨B, R, Γ, G, Φ, t, en, h, k⟩ => ⟨B, R, Γ, G, _, t, en, h, fun v G1 H1 Γ1 d p1 r1 h1 => ⟨B, R, Γ1, G1, _, t, p1.env, h1, fun o1 G2 H2 Γ2 p2 h2 =>
    ⟨B, R, Γ2, G2, _, t, p2.env, h2, fun o2 G3 H3 Γ3 p3 h3 => sl_d p3.env.gh ((r1.mono p2.gg).mono p3.gg) h3 fun v d G' H' x rd kd => k v G' H' Γ3 d (((p1.trans p2).trans p3).trans (p3.env.ext x)) rd kd⟩⟩⟩
end

/-! ### built-in functions -/
section
variable {K : PySem.W.Frag}
def dLen : List D → (D → Prop) → Prop
  | [.str z], k => z.length ≤ sizeLine ∧ k (.int z.length)
  | [.tup xs], k => k (.int xs.length)
  | [.lst xs], k => k (.int xs.length)
  | [.ro xs], k => k (.int xs.length)
  | _, _ => False
theorem reps1 {G : Hp} {xs : List V} {d : D} (r : Reps K G xs [d]) : ∃ v, xs = [v] ∧ Rep K G v d := by
  cases r with
  | cons h t => cases t; exact ⟨_, rfl, h⟩
theorem reps2 {G : Hp} {xs : List V} {d e : D} (r : Reps K G xs [d, e]) : ∃ v w, xs = [v, w] ∧ Rep K G v d ∧ Rep K G w e := by
  cases r with
  | cons h t => cases t with
    | cons h2 t2 => cases t2; exact ⟨_, _, rfl, h, h2⟩
def rLenA (K : PySem.W.Frag) : List V → Hp → VK → Prop := fun xs H Q => ∃ x n, xs = [x] ∧ LenV K x H n ∧ Q (.int n) H
theorem cd_len : CallD K (rLenA K) dLen := by
  intro G H xs as k Q s r h o
  unfold dLen at h
  split at h
  · obtain ⟨v, rfl, r1⟩ := reps1 r
    cases r1
    exact ⟨_, _, rfl, ⟨h.1, rfl⟩, o.here s (.int _) h.2⟩
  · obtain ⟨v, rfl, r1⟩ := reps1 r
    cases r1 with
    | tup hp l r => exact ⟨_, _, rfl, .inr ⟨_, same_t s hp, rfl⟩, by rw [r.length]; exact o.here s (.int _) h⟩
  · obtain ⟨v, rfl, r1⟩ := reps1 r
    cases r1 with
    | lst hp l r => exact ⟨_, _, rfl, .inl ⟨_, SqL.of (s _ _ hp), rfl⟩, by rw [r.length]; exact o.here s (.int _) h⟩
  · obtain ⟨v, rfl, r1⟩ := reps1 r
    cases r1 with
    | ro hp l r => exact ⟨_, _, rfl, .inl ⟨_, same_l s hp, rfl⟩, by rw [r.length]; exact o.here s (.int _) h⟩
  · exact h.elim
def dAbs : List D → (D → Prop) → Prop
  | [.int i], k => k (.int (if i < 0 then -i else i))
  | _, _ => False
theorem cd_abs : CallD K (fun xs H Q => ∃ i, xs = [.int i] ∧ Q (.int (if i < 0 then -i else i)) H) dAbs := by
  intro G H xs as k Q s r h o
  unfold dAbs at h
  split at h
  · obtain ⟨v, rfl, r1⟩ := reps1 r
    cases r1
    exact ⟨_, rfl, o.here s (.int _) h⟩
  · exact h.elim
def dInt : List D → (D → Prop) → Prop
  | [.int i], k => k (.int i)
  | [.bl b], k => k (.int (if b then 1 else 0))
  | _, _ => False
theorem cd_int : CallD K (fun xs H Q => (∃ i, xs = [.int i] ∧ Q (.int i) H) ∨ ∃ k, xs = [.bl k] ∧ Q (.int (if k then 1 else 0)) H) dInt := by
  intro G H xs as k Q s r h o
  unfold dInt at h
  split at h
  · obtain ⟨v, rfl, r1⟩ := reps1 r
    cases r1
    exact .inl ⟨_, rfl, o.here s (.int _) h⟩
  · obtain ⟨v, rfl, r1⟩ := reps1 r
    cases r1
    exact .inr ⟨_, rfl, o.here s (.int _) h⟩
  · exact h.elim
def dMax2 : List D → (D → Prop) → Prop
  | [.int i, .int j], k => k (.int (if j > i then j else i))
  | _, _ => False
def dMin2 : List D → (D → Prop) → Prop
  | [.int i, .int j], k => k (.int (if j < i then j else i))
  | _, _ => False
theorem cd_max2 : CallD K (fun xs H Q => ∃ i j, xs = [.int i, .int j] ∧ Q (.int (if j > i then j else i)) H) dMax2 := by
  intro G H xs as k Q s r h o
  unfold dMax2 at h
  split at h
  · obtain ⟨v, w, rfl, r1, r2⟩ := reps2 r
    cases r1
    cases r2
    exact ⟨_, _, rfl, o.here s (.int _) h⟩
  · exact h.elim
theorem cd_min2 : CallD K (fun xs H Q => ∃ i j, xs = [.int i, .int j] ∧ Q (.int (if j < i then j else i)) H) dMin2 := by
  intro G H xs as k Q s r h o
  unfold dMin2 at h
  split at h
  · obtain ⟨v, w, rfl, r1, r2⟩ := reps2 r
    cases r1
    cases r2
    exact ⟨_, _, rfl, o.here s (.int _) h⟩
  · exact h.elim
/-- list(xs), tuple(xs) -/
def dListOf : List D → (D → Prop) → Prop
  | [.tup xs], k => k (.lst xs)
  | [.lst xs], k => k (.lst xs)
  | _, _ => False
def dTupleOf : List D → (D → Prop) → Prop
  | [.tup xs], k => k (.tup xs)
  | [.lst xs], k => k (.tup xs)
  | _, _ => False
theorem cd_tupleOf : CallD K (fun xs H Q => ∃ p ys, xs = [.ref p] ∧ ((SqL K H p ys ∧ ∀ l, H l = none → Q (.ref l) (upd H l (.tup ys))) ∨ (SqT K H p ys ∧ Q (.ref p) H))) dTupleOf := by
  intro G H xs as k Q s r h o
  unfold dTupleOf at h
  split at h
  · obtain ⟨v, rfl, r1⟩ := reps1 r
    cases r1 with
    | tup hp l r => exact ⟨_, _, rfl, .inr ⟨same_t s hp, o.here s (.tup hp l r) h⟩⟩
  · obtain ⟨v, rfl, r1⟩ := reps1 r
    cases r1 with
    | lst hp l r => exact ⟨_, _, rfl, .inl ⟨SqL.of (s _ _ hp), fun q hq => o.new s hq (.tup (SqT.of upd_same) l (r.new s hq)) h⟩⟩
  · exact h.elim
/-! isinstance of a built-in class -/
def D.tyn : D → Option String
  | .non => some "NoneType" | .bl _ => some "bool" | .int _ => some "int" | .str _ => some "str" | .tup _ => some "tuple" | .lst _ => some "list" | .dct _ => some "dict" | _ => none
def dIsi (T : String) (d : D) (k : D → Prop) : Prop := match d.tyn with
  | some n => k (.bl (n == T || (n == "bool" && T == "int")))
  | none => False
theorem Rep.tyx {G H : Hp} (s : Same G H) {v : V} {d : D} {n : String} (r : Rep K G v d) (h : d.tyn = some n) : TyX K H v (.type n) := by
  cases r with
  | non => cases h; exact .base .non
  | bl b => cases h; exact .base (.bl b)
  | int i => cases h; exact .base (.int i)
  | str x => cases h; exact .base (.str x)
  | tup hp l r =>
    cases h
    rcases same_t s hp with (h1 | ⟨o, h1⟩) | ⟨o, its, n, h1, h2, _⟩
    · exact .base (.tup h1)
    · exact .fTuple h1
    · exact .kTuple h1 h2
  | lst hp l r => cases h; exact .base (.lst (s _ _ hp))
  | dct hp l r => cases h; exact .base (.dK (s _ _ hp))
  | _ => cases h
theorem kit_tab : ∀ n ∈ ["NoneType", "bool", "int", "str", "tuple", "list", "dict"], ∀ T ∈ ["str", "int", "bool", "tuple", "list"], kitB n T = some (n == T || (n == "bool" && T == "int")) := by decide +kernel
theorem tyn_mem {d : D} {n : String} (h : d.tyn = some n) : n ∈ ["NoneType", "bool", "int", "str", "tuple", "list", "dict"] := by
  cases d <;> cases h <;> decide
end
section
variable {X : Cx} {tk : Tk} {e : Expr} {T : TF} {pos : Pos}
def tIsi (C : String) (T : TF) : TF := fun R Γ Φ => T R Γ fun d Γ' => dIsi C d fun r => Φ r Γ'
theorem pf_isi {x : Str} {C : String} {p p2 : Pos} (hm : X.mg "isinstance" = none) (hm2 : X.mg x = none) (hb : PF X tk e T) (hC : C ∈ ["str", "int", "bool", "tuple", "list"] := by decide) (hg : Gl X "isinstance" := by rfl) (hg2 : Gl X x := by rfl) (hv : bootBuiltins x = some (.type C) := by decide +kernel) (hn : x ≠ "__name__" := by decide) (hdb : (x == ("__debug__" : Str)) = false := by decide)
    (hs : starEach [e, .Name x p2] X.env = (false, eval e X.env) :: starEach [.Name x p2] X.env := by rfl) (hpl : (backTo pos (starEach [.Name x p2] X.env)).any (·.1) = false := by rfl) : PF X tk (.Call (.Name "isinstance" p) [e, .Name x p2] [] pos) (tIsi C T) :=
  pe_imp (pe_callB call_isi hg hm (by decide +kernel) (pa_cons hb (pa_cons (pe_bltn (v := .ty C) hg2 hm2 hv rfl hn hdb) pa_nil) hs) (by decide) (by decide) hs hpl) fun σ H Q ⟨B, R, Γ, G, Φ, t, en, h, k⟩ => ⟨B, R, Γ, G, _, t, en, h, fun v G1 H1 Γ1 d p1 r1 h1 => by
    unfold dIsi at h1
    split at h1
    · rename_i n hn
      exact ⟨v, .ty C, .type n, .type C, _, rfl, .ty C, r1.tyx p1.env.gh hn, kit_ty (kit_tab n (tyn_mem hn) C hC), k _ G1 H1 Γ1 _ p1 (.bl _) h1⟩
    · exact h1.elim⟩
variable {es : List Expr} {U : TAD} {k : Nat}
theorem pf_len {p : Pos} (hm : X.mg "len" = none) (ha : PFA X tk [e] U) (hg : Gl X "len" := by rfl) (he : starEach [e] X.env = (false, eval e X.env) :: starEach [] X.env := by rfl) : PF X tk (.Call (.Name "len" p) [e] [] pos) (tCBD dLen U) :=
  pf_callB call_len cd_len hm ha hg (by decide +kernel) (by decide) (by decide) he
theorem pf_abs {p : Pos} (hm : X.mg "abs" = none) (ha : PFA X tk [e] U) (hg : Gl X "abs" := by rfl) (he : starEach [e] X.env = (false, eval e X.env) :: starEach [] X.env := by rfl) : PF X tk (.Call (.Name "abs" p) [e] [] pos) (tCBD dAbs U) :=
  pf_callB call_abs cd_abs hm ha hg (by decide +kernel) (by decide) (by decide) he
theorem pf_callInt {p : Pos} (hm : X.mg "int" = none) (ha : PFA X tk [e] U) (hg : Gl X "int" := by rfl) (he : starEach [e] X.env = (false, eval e X.env) :: starEach [] X.env := by rfl) : PF X tk (.Call (.Name "int" p) [e] [] pos) (tCBD dInt U) :=
  pf_callTy call_int1 cd_int hm ha hg (by decide +kernel) (by decide) (by decide) he
theorem pf_max2 {a b : Expr} {p : Pos} (hc : X.calm = true) (hm : X.mg "max" = none) (ha : PFA X tk [a, b] U) (hg : Gl X "max" := by rfl) (he : starEach [a, b] X.env = (false, eval a X.env) :: starEach [b] X.env := by rfl) (hpl : (backTo pos (starEach [b] X.env)).any (·.1) = false := by rfl) : PF X tk (.Call (.Name "max" p) [a, b] [] pos) (tCBD dMax2 U) :=
  pf_callB (call_max2 hc) cd_max2 hm ha hg (by decide +kernel) (by decide) (by decide) he hpl
theorem pf_min2 {a b : Expr} {p : Pos} (hc : X.calm = true) (hm : X.mg "min" = none) (ha : PFA X tk [a, b] U) (hg : Gl X "min" := by rfl) (he : starEach [a, b] X.env = (false, eval a X.env) :: starEach [b] X.env := by rfl) (hpl : (backTo pos (starEach [b] X.env)).any (·.1) = false := by rfl) : PF X tk (.Call (.Name "min" p) [a, b] [] pos) (tCBD dMin2 U) :=
  pf_callB (call_min2 hc) cd_min2 hm ha hg (by decide +kernel) (by decide) (by decide) he hpl
theorem pf_tupleOf {p : Pos} (hm : X.mg "tuple" = none) (ha : PFA X tk [e] U) (hg : Gl X "tuple" := by rfl) (he : starEach [e] X.env = (false, eval e X.env) :: starEach [] X.env := by rfl) : PF X tk (.Call (.Name "tuple" p) [e] [] pos) (tCBD dTupleOf U) :=
  pf_callTy call_tuple_of cd_tupleOf hm ha hg (by decide +kernel) (by decide) (by decide) he
end
end Vl

namespace Vl
open PySem PySem.Spec PyProof.Rows L2

/-! ### slots written, cells written -/
section
variable {K : PySem.W.Frag} {B : Bs} {σ : L2.St} {G H : Hp} {Γ : Gm}
theorem set_at {α : Type} {l : List α} {i j : Nat} {a b : α} (h : (l.set i a)[j]? = some b) : (i = j ∧ i < l.length ∧ b = a) ∨ (i ≠ j ∧ l[j]? = some b) := by
  rw [List.getElem?_set] at h
  by_cases e : i = j
  · rw [if_pos e] at h
    by_cases e2 : i < l.length
    · rw [if_pos e2] at h
      exact .inl ⟨e, e2, (Option.some.inj h).symm⟩
    · rw [if_neg e2] at h
      cases h
  · rw [if_neg e] at h
    exact .inr ⟨e, h⟩
theorem gset_at {Γ : Gm} {i j : Nat} {a b : SD} (h : (Γ.set i a).sl[j]? = some b) : (i = j ∧ i < Γ.sl.length ∧ b = a) ∨ (i ≠ j ∧ Γ.sl[j]? = some b) := set_at h
theorem EnvOk.write (e : EnvOk K B G H σ Γ) {i : Nat} {l : Addr} {c c' : Cl} {o' : HO} (hΓ : Γ.sl[i]? = some (.ow c)) (hσ : σ[i]? = some (some (.ref l))) (h' : ClOk K G o' c') : EvP K B σ G H Γ G (upd H l o') (Γ.set i (.ow c')) := by
  have hi : i < Γ.sl.length := (List.getElem?_eq_some_iff.mp hΓ).1
  obtain ⟨l1, o1, a1, a2, a3, a4, a5⟩ := e.ow i c hΓ
  rw [hσ] at a1
  cases a1
  have nl : l ∉ Γ.as := e.wd.sp i c l hΓ hσ
  have f : ∀ (m : Nat) (d : Cl), (Γ.set i (.ow c')).sl[m]? = some (.ow d) → ∃ d0, Γ.sl[m]? = some (.ow d0) := fun m d q => by
    rcases gset_at q with ⟨z, _, _⟩ | ⟨_, z⟩
    · subst z; exact ⟨c, hΓ⟩
    · exact ⟨d, z⟩
  have bw : ∀ (j : Nat), ∃ d, (Γ.sl.set i (.ow c'))[j]? = some (.ow d) ∨ Γ.sl[j]? ≠ some (.ow d) := fun j => ⟨c', by
    rw [List.getElem?_set]
    by_cases w : i = j
    · rw [if_pos w, if_pos hi]; exact .inl rfl
    · rw [if_neg w]
      by_cases z : Γ.sl[j]? = some (.ow c')
      · exact .inl z
      · exact .inr z⟩
  refine ⟨⟨by show (Γ.sl.set _ _).length = _; rw [List.length_set]; exact e.len, fun a u q => ?_, e.g0, e.gn, fun a u q n m => ?_, fun j d q => ?_, fun j d q => ?_, fun j k d d' x q1 q2 z1 z2 => ?_, fun j x q => ?_,
    e.wd.step (Same.refl _) (fun a m g => g) (fun a m u q => by rw [upd_ne fun z => nl (by rw [← z]; exact m)]; exact q) rfl rfl (fun j n h => ?_) (fun j d a q1 q2 => ?_) rfl fun _ _ h => .inl h⟩, Same.refl _, fun a u q => .inl q, fun a u q n m => ?_, fun j => ⟨fun ⟨d, q⟩ => ?_, fun ⟨d, q⟩ => f j d q⟩, [], by simp, fun _ h => by cases h⟩
  · rw [upd_ne (ne_of_none q a2)]; exact e.gh a u q
  · have ne : a ≠ l := fun z => by
      subst z
      rcases a5 with z | z
      · rw [q] at z; cases z
      · exact n i z
    rw [upd_ne ne]; exact e.fr a u q n m
  · rcases gset_at q with ⟨_, _, z⟩ | ⟨_, z⟩
    · cases z
    · exact e.im j d z
  · rcases gset_at q with ⟨z, _, z2⟩ | ⟨z, z2⟩
    · subst z
      cases z2
      exact ⟨l, o', hσ, a2, upd_same, h', a5⟩
    · obtain ⟨x, o2, b1, b2, b3, b4, b5⟩ := e.ow j d z2
      have ne : x ≠ l := fun w => z (e.sep i j c d l hΓ z2 hσ (by rw [b1, w]))
      exact ⟨x, o2, b1, b2, by rw [upd_ne ne]; exact b3, b4, b5⟩
  · obtain ⟨d1, y1⟩ := f j d q1
    obtain ⟨d2, y2⟩ := f k d' q2
    exact e.sep j k d1 d2 x y1 y2 z1 z2
  · obtain ⟨z1, d, z2⟩ := e.bo j x q
    refine ⟨z1, ?_⟩
    show ∃ c_1, (Γ.sl.set i (.ow c'))[j]? = some (.ow c_1)
    rw [List.getElem?_set]
    by_cases w : i = j
    · rw [if_pos w, if_pos hi]; exact ⟨c', rfl⟩
    · rw [if_neg w]; exact ⟨d, z2⟩
  · rcases gset_at h with ⟨_, _, z⟩ | ⟨_, z⟩
    · cases z
    · exact ⟨z, fun _ y => y⟩
  · obtain ⟨d0, z⟩ := f j d q1
    exact e.wd.sp j d0 a z q2
  · have ne : a ≠ l := fun z => n i c hΓ (by rw [hσ, z])
    rw [upd_ne ne]; exact q
  · show ∃ c_1, (Γ.sl.set i (.ow c'))[j]? = some (.ow c_1)
    rw [List.getElem?_set]
    by_cases w : i = j
    · rw [if_pos w, if_pos hi]; exact ⟨c', rfl⟩
    · rw [if_neg w]; exact ⟨d, q⟩
theorem EnvOk.setIm (e : EnvOk K B G H σ Γ) {i : Nat} {v : V} {d : D} (nb : ∀ l, B.bo ≠ some (i, l)) (r : Rep K G v d) : EnvOk K B G H (σ.set i (some v)) (Γ.set i (.im d)) := by
  have fo : ∀ (j : Nat) (c : Cl), (Γ.set i (.im d)).sl[j]? = some (.ow c) → i ≠ j ∧ Γ.sl[j]? = some (.ow c) := fun j c q => by
    rcases gset_at q with ⟨_, _, z⟩ | z
    · cases z
    · exact z
  refine ⟨by show (Γ.sl.set _ _).length = _; rw [List.length_set, List.length_set]; exact e.len, e.gh, e.g0, e.gn, e.fr, fun j x q => ?_, fun j c q => ?_, fun j k c c' l q1 q2 z1 z2 => ?_, fun j l q => ?_,
    e.wd.step (Same.refl _) (fun a m g => g) (fun a m u q => q) rfl rfl (fun j n h => ?_) (fun j d a q1 q2 => ?_) rfl fun _ _ h => .inl h⟩
  · rcases gset_at q with ⟨z, z1, z2⟩ | ⟨z, z2⟩
    · subst z
      cases z2
      exact ⟨v, by rw [List.getElem?_set_self (by rw [← e.len]; exact z1)], r⟩
    · obtain ⟨y, y1, y2⟩ := e.im j x z2
      exact ⟨y, by rw [List.getElem?_set_ne z]; exact y1, y2⟩
  · obtain ⟨z, z2⟩ := fo j c q
    obtain ⟨l, o, y1, y2⟩ := e.ow j c z2
    exact ⟨l, o, by rw [List.getElem?_set_ne z]; exact y1, y2⟩
  · obtain ⟨w1, w2⟩ := fo j c q1
    obtain ⟨w3, w4⟩ := fo k c' q2
    rw [List.getElem?_set_ne w1] at z1
    rw [List.getElem?_set_ne w3] at z2
    exact e.sep j k c c' l w2 w4 z1 z2
  · have ne : i ≠ j := fun z => nb l (by rw [q, z])
    show _ ∧ ∃ c, (Γ.sl.set i (.im d))[j]? = some (.ow c)
    rw [List.getElem?_set_ne ne, List.getElem?_set_ne ne]
    exact e.bo j l q
  · rcases gset_at h with ⟨_, _, z⟩ | ⟨z0, z⟩
    · cases z
    · exact ⟨z, fun x y => by rw [List.getElem?_set_ne z0]; exact y⟩
  · obtain ⟨z, z2⟩ := fo j d q1
    rw [List.getElem?_set_ne z] at q2
    exact e.wd.sp j d a z2 q2
theorem EnvOk.setWp (e : EnvOk K B G H σ Γ) {i n : Nat} {a : Addr} (nb : ∀ l, B.bo ≠ some (i, l)) (r : Γ.as[n]? = some a) : EnvOk K B G H (σ.set i (some (.ref a))) (Γ.set i (.wp n)) := by
  have fo : ∀ (j : Nat) (c : Cl), (Γ.set i (.wp n)).sl[j]? = some (.ow c) → i ≠ j ∧ Γ.sl[j]? = some (.ow c) := fun j c q => by
    rcases gset_at q with ⟨_, _, z⟩ | z
    · cases z
    · exact z
  refine ⟨by show (Γ.sl.set _ _).length = _; rw [List.length_set, List.length_set]; exact e.len, e.gh, e.g0, e.gn, e.fr, fun j x q => ?_, fun j c q => ?_, fun j k c c' l q1 q2 z1 z2 => ?_, fun j l q => ?_,
    ⟨e.wd.wl, e.wd.nd, e.wd.pre, e.wd.wc, fun j m h => ?_, fun j d a q1 q2 => ?_⟩⟩
  · rcases gset_at q with ⟨z, z1, z2⟩ | ⟨z, z2⟩
    · cases z2
    · obtain ⟨y, y1, y2⟩ := e.im j x z2
      exact ⟨y, by rw [List.getElem?_set_ne z]; exact y1, y2⟩
  · obtain ⟨z, z2⟩ := fo j c q
    obtain ⟨l, o, y1, y2⟩ := e.ow j c z2
    exact ⟨l, o, by rw [List.getElem?_set_ne z]; exact y1, y2⟩
  · obtain ⟨w1, w2⟩ := fo j c q1
    obtain ⟨w3, w4⟩ := fo k c' q2
    rw [List.getElem?_set_ne w1] at z1
    rw [List.getElem?_set_ne w3] at z2
    exact e.sep j k c c' l w2 w4 z1 z2
  · have ne : i ≠ j := fun z => nb l (by rw [q, z])
    show _ ∧ ∃ c, (Γ.sl.set i (.wp n))[j]? = some (.ow c)
    rw [List.getElem?_set_ne ne, List.getElem?_set_ne ne]
    exact e.bo j l q
  · rcases gset_at h with ⟨z0, z1, z⟩ | ⟨z0, z⟩
    · cases z
      subst z0
      exact ⟨a, r, by rw [List.getElem?_set_self (by rw [← e.len]; exact z1)]⟩
    · obtain ⟨b, h1, h2⟩ := e.wd.wp j m z
      exact ⟨b, h1, by rw [List.getElem?_set_ne z0]; exact h2⟩
  · obtain ⟨z, z2⟩ := fo j d q1
    rw [List.getElem?_set_ne z] at q2
    exact e.wd.sp j d a z2 q2
theorem EnvOk.setOw (e : EnvOk K B G H σ Γ) {i : Nat} {l : Addr} {o : HO} {c : Cl} (nb : ∀ l, B.bo ≠ some (i, l)) (g : G l = none) (h : H l = some o) (r : ClOk K G o c) (b : B.H l = none) (n : ∀ (j : Nat) c, Γ.sl[j]? = some (.ow c) → σ[j]? ≠ some (some (.ref l))) (na : l ∉ Γ.as) :
    EnvOk K B G H (σ.set i (some (.ref l))) (Γ.set i (.ow c)) := by
  refine ⟨by show (Γ.sl.set _ _).length = _; rw [List.length_set, List.length_set]; exact e.len, e.gh, e.g0, e.gn, e.fr, fun j x q => ?_, fun j d q => ?_, fun j k d d' x q1 q2 z1 z2 => ?_, fun j x q => ?_,
    e.wd.step (Same.refl _) (fun a m g => g) (fun a m u q => q) rfl rfl (fun j n h => ?_) (fun j d a q1 q2 => ?_) rfl fun _ _ h => .inl h⟩
  · rcases gset_at q with ⟨_, _, z⟩ | ⟨z, z2⟩
    · cases z
    · obtain ⟨y, y1, y2⟩ := e.im j x z2
      exact ⟨y, by rw [List.getElem?_set_ne z]; exact y1, y2⟩
  · rcases gset_at q with ⟨z, z1, z2⟩ | ⟨z, z2⟩
    · subst z
      cases z2
      exact ⟨l, o, by rw [List.getElem?_set_self (by rw [← e.len]; exact z1)], g, h, r, .inl b⟩
    · obtain ⟨x, o2, y1, y2⟩ := e.ow j d z2
      exact ⟨x, o2, by rw [List.getElem?_set_ne z]; exact y1, y2⟩
  · rcases gset_at q1 with ⟨w1, w2, w3⟩ | ⟨w1, w2⟩
    · rcases gset_at q2 with ⟨w4, _, _⟩ | ⟨w4, w5⟩
      · rw [← w1, ← w4]
      · subst w1
        rw [List.getElem?_set_self (by rw [← e.len]; exact w2)] at z1
        rw [List.getElem?_set_ne w4] at z2
        cases z1
        exact (n k d' w5 z2).elim
    · rcases gset_at q2 with ⟨w4, w6, _⟩ | ⟨w4, w5⟩
      · subst w4
        rw [List.getElem?_set_self (by rw [← e.len]; exact w6)] at z2
        rw [List.getElem?_set_ne w1] at z1
        cases z2
        exact (n j d w2 z1).elim
      · rw [List.getElem?_set_ne w1] at z1
        rw [List.getElem?_set_ne w4] at z2
        exact e.sep j k d d' x w2 w5 z1 z2
  · have ne : i ≠ j := fun z => nb x (by rw [q, z])
    show _ ∧ ∃ c_1, (Γ.sl.set i (.ow c))[j]? = some (.ow c_1)
    rw [List.getElem?_set_ne ne, List.getElem?_set_ne ne]
    exact e.bo j x q
  · rcases gset_at h with ⟨_, _, z⟩ | ⟨z0, z⟩
    · cases z
    · exact ⟨z, fun x y => by rw [List.getElem?_set_ne z0]; exact y⟩
  · rcases gset_at q1 with ⟨w1, w2, w3⟩ | ⟨w1, w2⟩
    · subst w1
      rw [List.getElem?_set_self (by rw [← e.len]; exact w2)] at q2
      cases q2
      exact na
    · rw [List.getElem?_set_ne w1] at q2
      exact e.wd.sp j d a w2 q2
/-- slots forgotten -/
theorem EnvOk.un (e : EnvOk K B G H σ Γ) {i : Nat} (nb : ∀ l, B.bo ≠ some (i, l)) (x : Option V) : EnvOk K B G H (σ.set i x) (Γ.set i .un) := by
  refine ⟨by show (Γ.sl.set _ _).length = _; rw [List.length_set, List.length_set]; exact e.len, e.gh, e.g0, e.gn, e.fr, fun j x q => ?_, fun j d q => ?_, fun j k d d' x q1 q2 z1 z2 => ?_, fun j x q => ?_,
    e.wd.step (Same.refl _) (fun a m g => g) (fun a m u q => q) rfl rfl (fun j n h => ?_) (fun j d a q1 q2 => ?_) rfl fun _ _ h => .inl h⟩
  · rcases gset_at q with ⟨_, _, z⟩ | ⟨z, z2⟩
    · cases z
    · obtain ⟨y, y1, y2⟩ := e.im j x z2
      exact ⟨y, by rw [List.getElem?_set_ne z]; exact y1, y2⟩
  · rcases gset_at q with ⟨_, _, z⟩ | ⟨z, z2⟩
    · cases z
    · obtain ⟨x, o2, y1, y2⟩ := e.ow j d z2
      exact ⟨x, o2, by rw [List.getElem?_set_ne z]; exact y1, y2⟩
  · rcases gset_at q1 with ⟨_, _, z⟩ | ⟨w1, w2⟩
    · cases z
    · rcases gset_at q2 with ⟨_, _, z⟩ | ⟨w4, w5⟩
      · cases z
      · rw [List.getElem?_set_ne w1] at z1
        rw [List.getElem?_set_ne w4] at z2
        exact e.sep j k d d' x w2 w5 z1 z2
  · have ne : i ≠ j := fun z => nb x (by rw [q, z])
    show _ ∧ ∃ c_1, (Γ.sl.set i .un)[j]? = some (.ow c_1)
    rw [List.getElem?_set_ne ne, List.getElem?_set_ne ne]
    exact e.bo j x q
  · rcases gset_at h with ⟨_, _, z⟩ | ⟨z0, z⟩
    · cases z
    · exact ⟨z, fun x y => by rw [List.getElem?_set_ne z0]; exact y⟩
  · rcases gset_at q1 with ⟨_, _, z⟩ | ⟨w1, w2⟩
    · cases z
    · rw [List.getElem?_set_ne w1] at q2
      exact e.wd.sp j d a w2 q2
/-- fewer things known of the slots -/
inductive SLe : SD → SD → Prop
  | refl (s : SD) : SLe s s
  | un (s : SD) : SLe .un s
def GLe (Γ Γ' : Gm) : Prop := (Γ.sl.length = Γ'.sl.length ∧ Γ.as = Γ'.as ∧ Γ.ws = Γ'.ws) ∧ ∀ (i : Nat) s, Γ.sl[i]? = some s → s = .un ∨ Γ'.sl[i]? = some s
theorem EnvOk.le (e : EnvOk K B G H σ Γ) {Γ0 : Gm} (h : GLe Γ0 Γ) (hb : ∀ i l, B.bo = some (i, l) → Γ0.sl[i]? ≠ some .un) : EnvOk K B G H σ Γ0 := by
  have f : ∀ (i : Nat) s, Γ0.sl[i]? = some s → s ≠ .un → Γ.sl[i]? = some s := fun i s q n => by
    rcases h.2 i s q with z | z
    · exact (n z).elim
    · exact z
  refine ⟨h.1.1.trans e.len, e.gh, e.g0, e.gn, e.fr, fun i d q => e.im i d (f i _ q (fun z => nomatch z)), fun i c q => e.ow i c (f i _ q (fun z => nomatch z)), fun i j c c' l q1 q2 => e.sep i j c c' l (f i _ q1 (fun z => nomatch z)) (f j _ q2 (fun z => nomatch z)), fun i l q => ?_, e.wd.step (Same.refl _) (fun a m g => g) (fun a m u q => q) h.1.2.1 h.1.2.2 (fun j n h => ⟨f j _ h (fun z => nomatch z), fun _ y => y⟩) (fun j d a q1 q2 => e.wd.sp j d a (f j _ q1 (fun z => nomatch z)) q2) rfl fun _ _ h => .inl h⟩
  obtain ⟨z1, c, z2⟩ := e.bo i l q
  refine ⟨z1, c, ?_⟩
  have hi : i < Γ0.sl.length := by rw [h.1.1]; exact (List.getElem?_eq_some_iff.mp z2).1
  have q2 : Γ0.sl[i]? = some Γ0.sl[i] := List.getElem?_eq_getElem hi
  rcases h.2 i _ q2 with z | z
  · exact (hb i l q (by rw [q2, z])).elim
  · rw [z2] at z
    rw [q2]
    exact z.symm
end

/-! ### slots wiped -/
def wipeL (Γ : List SD) : List Nat → List SD
  | [] => Γ
  | v :: vs => (wipeL Γ vs).set v .un
def wipeD (Γ : Gm) (vs : List Nat) : Gm := ⟨wipeL Γ.sl vs, Γ.as, Γ.ws⟩
theorem wipeL_len (Γ : List SD) : ∀ vs, (wipeL Γ vs).length = Γ.length
  | [] => rfl
  | v :: vs => by unfold wipeL; rw [List.length_set, wipeL_len Γ vs]
theorem wipeD_len (Γ : Gm) (vs : List Nat) : (wipeD Γ vs).sl.length = Γ.sl.length := wipeL_len Γ.sl vs
theorem wipeL_out {Γ : List SD} {i : Nat} : ∀ {vs : List Nat}, i ∉ vs → (wipeL Γ vs)[i]? = Γ[i]?
  | [], _ => rfl
  | v :: vs, h => by
    unfold wipeL
    rw [List.getElem?_set_ne (fun e => h (by rw [e]; exact List.mem_cons_self)), wipeL_out fun z => h (List.mem_cons_of_mem _ z)]
theorem wipeD_out {Γ : Gm} {i : Nat} {vs : List Nat} (h : i ∉ vs) : (wipeD Γ vs).sl[i]? = Γ.sl[i]? := wipeL_out h
def Cln (vs : List Nat) (Γ : Gm) : Prop := ∀ v ∈ vs, ∀ s, Γ.sl[v]? = some s → s = .un
theorem wipeL_cln (Γ : List SD) : ∀ vs : List Nat, ∀ v ∈ vs, ∀ s, (wipeL Γ vs)[v]? = some s → s = .un
  | [] => fun v h => by cases h
  | v :: vs => fun u hu s e => by
    unfold wipeL at e
    rcases set_at e with ⟨_, _, z⟩ | ⟨z, z2⟩
    · exact z
    · rcases List.mem_cons.mp hu with w | w
      · exact absurd w.symm z
      · exact wipeL_cln Γ vs u w s z2
theorem wipeD_cln (Γ : Gm) (vs : List Nat) : Cln vs (wipeD Γ vs) := wipeL_cln Γ.sl vs
/-- no slot of vs holds a cell -/
def nOw (vs : List Nat) (Γ : Gm) : Bool := vs.all fun v => match Γ.sl[v]? with
  | some (.ow _) => false
  | _ => true
theorem nOw_ok {vs : List Nat} {Γ : Gm} (h : nOw vs Γ = true) {v : Nat} (hv : v ∈ vs) {c : Cl} (e : Γ.sl[v]? = some (.ow c)) : False := by
  have z := List.all_eq_true.mp h v hv
  rw [e] at z
  cases z
theorem wipeD_ow {Γ : Gm} {vs : List Nat} {i : Nat} {c : Cl} (h : (wipeD Γ vs).sl[i]? = some (.ow c)) : i ∉ vs ∧ Γ.sl[i]? = some (.ow c) := by
  have n : i ∉ vs := fun z => by
    have e := wipeD_cln Γ vs i z _ h
    cases e
  exact ⟨n, by rw [← wipeD_out n]; exact h⟩
theorem wipeD_wp {Γ : Gm} {vs : List Nat} {i n : Nat} (h : (wipeD Γ vs).sl[i]? = some (.wp n)) : i ∉ vs ∧ Γ.sl[i]? = some (.wp n) := by
  have n : i ∉ vs := fun z => by
    have e := wipeD_cln Γ vs i z _ h
    cases e
  exact ⟨n, by rw [← wipeD_out n]; exact h⟩
section
variable {K : PySem.W.Frag} {B : Bs} {σ : L2.St} {G H : Hp} {Γ : Gm} {vs : List Nat}
theorem EnvOk.dull (e : EnvOk K B G H σ Γ) (nb : ∀ v ∈ vs, ∀ l, B.bo ≠ some (v, l)) : EnvOk K B G H σ (wipeD Γ vs) := by
  have im : ∀ (i : Nat) d, (wipeD Γ vs).sl[i]? = some (.im d) → Γ.sl[i]? = some (.im d) := fun i d q => by
    rw [← wipeD_out (vs := vs) fun z => by have z2 := wipeD_cln Γ vs i z _ q; cases z2]
    exact q
  refine ⟨by rw [wipeD_len]; exact e.len, e.gh, e.g0, e.gn, e.fr, fun i d q => e.im i d (im i d q), fun i c q => e.ow i c (wipeD_ow q).2, fun i j c c' l q1 q2 z1 z2 => e.sep i j c c' l (wipeD_ow q1).2 (wipeD_ow q2).2 z1 z2, fun i l q => ?_, e.wd.step (Same.refl _) (fun a m g => g) (fun a m u q => q) rfl rfl (fun i _ h => ⟨(wipeD_wp h).2, fun x y => y⟩) (fun i c a q1 q2 => e.wd.sp i c a (wipeD_ow q1).2 q2) rfl fun _ _ h => .inl h⟩
  obtain ⟨h1, c, h2⟩ := e.bo i l q
  exact ⟨h1, c, by rw [wipeD_out fun z => nb i z l q]; exact h2⟩
end
/-! ### own cells read and written -/
section
variable {X : Cx} {tk : Tk} {e : Expr} {es : List Expr} {T : TF} {U : TAD} {pos p cpos apos : Pos}
/-- a built-in of one list, the list a cell of a slot -/
def tOwn (f : List D → (D → Prop) → Prop) (i : Nat) : TF := fun _ Γ Φ => match Γ.sl[i]? with
  | some (.ow (.lst ds)) => f ds fun d => Φ d Γ
  | _ => False
def SqD (K : PySem.W.Frag) (r : List V → Hp → VK → Prop) (f : List D → (D → Prop) → Prop) : Prop := ∀ (G H : Hp) (p : Addr) (xs : List V) (ds : List D) (k : D → Prop) (Q : VK), Same G H → H p = some (.lst xs) → xs.length ≤ sizeLine → Reps K G xs ds → f ds k → Out K G H k Q → r [.ref p] H Q
theorem own_core {r : List V → Hp → VK → Prop} {f : List D → (D → Prop) → Prop} (hf : SqD X.K r f) {i : Nat} {σ : L2.St} {H : Hp} {Q : VK} (h : lE X.K tk (tOwn f i) σ H Q) : tCB r (tCons (tVar i) tNil) σ H Q := by
  obtain ⟨B, R, Γ, G, Φ, t, en, h, k⟩ := h
  unfold tOwn at h
  split at h
  · rename_i ds q
    obtain ⟨l, o, a1, a2, a3, ⟨xs, a4, a5, a6⟩, _⟩ := en.ow i _ q
    subst a4
    exact ⟨.ref l, a1, hf G H l xs ds _ Q en.gh a3 a5 a6 h fun v d G' H' x rd kd => k v G' H' Γ d (en.ext x) rd kd⟩
  · exact h.elim
def dLenL (ds : List D) (k : D → Prop) : Prop := k (.int ds.length)
theorem sq_len {K : PySem.W.Frag} : SqD K (fun xs H Q => ∃ p ys, xs = [.ref p] ∧ (SqL K H p ys ∨ SqT K H p ys) ∧ Q (.int ys.length) H) dLenL :=
  fun G H p xs ds k Q s hp l r h o => ⟨p, xs, rfl, .inl (SqL.of hp), by rw [r.length]; exact o.here s (.int _) h⟩
def dTupL (ds : List D) (k : D → Prop) : Prop := k (.tup ds)
theorem sq_tuple {K : PySem.W.Frag} : SqD K (fun xs H Q => ∃ p ys, xs = [.ref p] ∧ ((SqL K H p ys ∧ ∀ l, H l = none → Q (.ref l) (upd H l (.tup ys))) ∨ (SqT K H p ys ∧ Q (.ref p) H))) dTupL :=
  fun G H p xs ds k Q s hp l r h o => ⟨p, xs, rfl, .inl ⟨SqL.of hp, fun q hq => o.new s hq (.tup (SqT.of upd_same) l (r.new s hq)) h⟩⟩
theorem pf_lenO (i : Nat) {x : Str} {px : Pos} (hm : X.mg "len" = none) (hN : X.N[i]? = some x := by rfl) (hx : Vis X.env.scope x := by first | exact Or.inl rfl | exact Or.inr (Or.inl rfl) | exact Or.inr (Or.inr rfl)) (hd : (x == ("__debug__" : Str)) = false := by decide) (hcd : (x == ("__classdict__" : Str)) = false := by decide)
    (hg : Gl X "len" := by rfl) (hs : starEach [.Name x px] X.env = (false, eval (.Name x px) X.env) :: starEach [] X.env := by rfl) : PF X tk (.Call (.Name "len" p) [.Name x px] [] pos) (tOwn dLenL i) :=
  pe_imp (pe_callB call_len_seq hg hm PySem.boot_len (pa_cons (pe_var hN hx hd hcd) pa_nil hs) (by decide) (by decide) hs rfl) fun σ H Q h => own_core sq_len h
theorem pf_tupleO (i : Nat) {x : Str} {px : Pos} (hm : X.mg "tuple" = none) (hN : X.N[i]? = some x := by rfl) (hx : Vis X.env.scope x := by first | exact Or.inl rfl | exact Or.inr (Or.inl rfl) | exact Or.inr (Or.inr rfl)) (hd : (x == ("__debug__" : Str)) = false := by decide) (hcd : (x == ("__classdict__" : Str)) = false := by decide)
    (hg : Gl X "tuple" := by rfl) (hs : starEach [.Name x px] X.env = (false, eval (.Name x px) X.env) :: starEach [] X.env := by rfl) : PF X tk (.Call (.Name "tuple" p) [.Name x px] [] pos) (tOwn dTupL i) :=
  pe_imp (pe_callTy call_tuple_of hg hm (by decide +kernel) (pa_cons (pe_var hN hx hd hcd) pa_nil hs) (by decide) (by decide) hs rfl) fun σ H Q h => own_core sq_tuple h
/-- own[i] -/
def tIxO (i : Nat) (T : TF) : TF := fun R Γ Φ => match Γ.sl[i]? with
  | some (.ow (.lst _)) => T R Γ fun d Γ' => d.asInt fun j => match Γ'.sl[i]? with
    | some (.ow (.lst ds)) => ∃ d, atI ds j = some d ∧ Φ d Γ'
    | _ => False
  | _ => False
theorem pf_ixO (i : Nat) {x : Str} {px : Pos} (hb : PF X tk e T) (hN : X.N[i]? = some x := by rfl) (hx : Vis X.env.scope x := by first | exact Or.inl rfl | exact Or.inr (Or.inl rfl) | exact Or.inr (Or.inr rfl)) (hd : (x == ("__debug__" : Str)) = false := by decide) (hcd : (x == ("__classdict__" : Str)) = false := by decide)
    (hs : PlainIx e := by exact fun _ _ => rfl) : PF X tk (.Subscript (.Name x px) e pos) (tIxO i T) :=
  pe_imp (pe_ix ix_list (pe_var hN hx hd hcd) hb hs) fun σ H Q ⟨B, R, Γ, G, Φ, t, en, h, k⟩ => by
    unfold tIxO at h
    split at h
    · rename_i ds0 q
      obtain ⟨l, o, a1, _⟩ := en.ow i _ q
      refine ⟨.ref l, a1, B, R, Γ, G, _, t, en, h, fun v G1 H1 Γ1 d p1 r1 h1 => ?_⟩
      obtain ⟨j, e1, _, h2⟩ := r1.asInt h1
      split at h2
      · rename_i ds q2
        obtain ⟨l2, o2, b1, b2, b3, ⟨xs, b4, b5, b6⟩, _⟩ := p1.env.ow i _ q2
        rw [a1] at b1
        cases b1
        subst b4
        obtain ⟨d2, h3, h4⟩ := h2
        obtain ⟨v2, h5, h6⟩ := b6.atI h3
        exact ⟨l, xs, j, v2, rfl, e1, SqL.of b3, h5, k v2 G1 H1 Γ1 d2 p1 h6 h4⟩
      · exact h2.elim
    · exact h.elim
/-- x.append(e) -/
def tAppend (i : Nat) (T : TF) : TF := fun R Γ Φ => match Γ.sl[i]? with
  | some (.ow (.lst _)) => T R Γ fun d Γ' => match Γ'.sl[i]? with
    | some (.ow (.lst ds)) => ds.length < sizeLine ∧ Φ .non (Γ'.set i (.ow (.lst (ds ++ [d]))))
    | _ => False
  | _ => False
theorem pf_append (i : Nat) {x : Str} {px : Pos} (hb : PF X tk e T) (hN : X.N[i]? = some x := by rfl) (hx : Vis X.env.scope x := by first | exact Or.inl rfl | exact Or.inr (Or.inl rfl) | exact Or.inr (Or.inr rfl)) (hd : (x == ("__debug__" : Str)) = false := by decide) (hcd : (x == ("__classdict__" : Str)) = false := by decide)
    (hbase : attributeBase (.Name x px) "append" X.env (eval (.Name x px) X.env) = eval (.Name x px) X.env := by rfl)
    (hfew : ((backTo cpos (starEach [e] X.env)).all (fun x => !x.1) && (backToKw cpos (keywordEach [] X.env)).all (fun x => x.1.isSome) && decide ([e].length + ([] : List Keyword).length + (if ([] : List Keyword).isEmpty then 0 else 1) < 30)) = true := by rfl)
    (hline : (apos.endLine == cpos.line) = true := by rfl) (hs : starEach [e] X.env = (false, eval e X.env) :: starEach [] X.env := by rfl) : PF X tk (.Call (.Attribute (.Name x px) "append" apos) [e] [] cpos) (tAppend i T) :=
  pe_imp (pe_bm PySem.F.plainAttrs_list PySem.F.slot_list_append PySem.F.type_list_append mt_append (pe_var hN hx hd hcd) (pa_cons hb pa_nil hs) hbase hfew hline hs rfl) fun σ H Q ⟨B, R, Γ, G, Φ, t, en, h, k⟩ => by
    unfold tAppend at h
    split at h
    · rename_i ds0 q
      obtain ⟨l, o, a1, a2, a3, ⟨xs0, a4, _, _⟩, _⟩ := en.ow i _ q
      subst a4
      refine ⟨.ref l, a1, .inl ⟨rfl, _, SqL.of a3⟩, B, R, Γ, G, _, t, en, h, fun v G1 H1 Γ1 d p1 r1 h1 => ?_⟩
      split at h1
      · rename_i ds q2
        obtain ⟨l2, o2, b1, b2, b3, ⟨xs, b4, b5, b6⟩, _⟩ := p1.env.ow i _ q2
        rw [a1] at b1
        cases b1
        subst b4
        have hl : xs.length < sizeLine := by rw [b6.length]; exact h1.1
        refine ⟨l, xs, v, rfl, rfl, b3, hl, k .non G1 _ _ .non (p1.trans (p1.env.write (c' := .lst (ds ++ [d])) q2 a1 ⟨xs ++ [v], rfl, ?_, b6.append (.cons r1 .nil)⟩)) .non h1.2⟩
        rw [List.length_append]
        exact hl
      · exact h1.elim
    · exact h.elim
/-- x.pop(e) -/
def tPopAt (i : Nat) (T : TF) : TF := fun R Γ Φ => match Γ.sl[i]? with
  | some (.ow (.lst _)) => T R Γ fun d Γ' => d.asInt fun j => match Γ'.sl[i]? with
    | some (.ow (.lst ds)) => ∃ (n : Nat) (d : D), -(2 ^ 63) ≤ j ∧ j < 2 ^ 63 ∧ seqIndex? j ds.length = some n ∧ ds[n]? = some d ∧ Φ d (Γ'.set i (.ow (.lst (ds.eraseIdx n))))
    | _ => False
  | _ => False
theorem pf_popAt (i : Nat) {x : Str} {px : Pos} (hb : PF X tk e T) (hN : X.N[i]? = some x := by rfl) (hx : Vis X.env.scope x := by first | exact Or.inl rfl | exact Or.inr (Or.inl rfl) | exact Or.inr (Or.inr rfl)) (hd : (x == ("__debug__" : Str)) = false := by decide) (hcd : (x == ("__classdict__" : Str)) = false := by decide)
    (hbase : attributeBase (.Name x px) "pop" X.env (eval (.Name x px) X.env) = eval (.Name x px) X.env := by rfl)
    (hfew : ((backTo cpos (starEach [e] X.env)).all (fun x => !x.1) && (backToKw cpos (keywordEach [] X.env)).all (fun x => x.1.isSome) && decide ([e].length + ([] : List Keyword).length + (if ([] : List Keyword).isEmpty then 0 else 1) < 30)) = true := by rfl)
    (hline : (apos.endLine == cpos.line) = true := by rfl) (hs : starEach [e] X.env = (false, eval e X.env) :: starEach [] X.env := by rfl) : PF X tk (.Call (.Attribute (.Name x px) "pop" apos) [e] [] cpos) (tPopAt i T) :=
  pe_imp (pe_bm PySem.F.plainAttrs_list PySem.F.slot_list_pop PySem.F.type_list_pop mt_popAt (pe_var hN hx hd hcd) (pa_cons hb pa_nil hs) hbase hfew hline hs rfl) fun σ H Q ⟨B, R, Γ, G, Φ, t, en, h, k⟩ => by
    unfold tPopAt at h
    split at h
    · rename_i ds0 q
      obtain ⟨l, o, a1, a2, a3, ⟨xs0, a4, _, _⟩, _⟩ := en.ow i _ q
      subst a4
      refine ⟨.ref l, a1, .inl ⟨rfl, _, SqL.of a3⟩, B, R, Γ, G, _, t, en, h, fun v G1 H1 Γ1 d p1 r1 h1 => ?_⟩
      obtain ⟨j, e1, _, h1⟩ := r1.asInt h1
      subst e1
      split at h1
      · rename_i ds q2
        obtain ⟨l2, o2, b1, b2, b3, ⟨xs, b4, b5, b6⟩, _⟩ := p1.env.ow i _ q2
        rw [a1] at b1
        cases b1
        subst b4
        obtain ⟨n, d2, h2, h3, h4, h5, h6⟩ := h1
        obtain ⟨v2, h7, h8⟩ := b6.get h5
        refine ⟨l, xs, j, n, v2, rfl, rfl, b3, h2, h3, by rw [b6.length]; exact h4, h7, k v2 G1 _ _ d2 (p1.trans (p1.env.write (c' := .lst (ds.eraseIdx n)) q2 a1 ⟨xs.eraseIdx n, rfl, ?_, b6.eraseIdx n⟩)) h8 h6⟩
        exact Nat.le_trans (List.length_eraseIdx_le _ _) b5
      · exact h1.elim
    · exact h.elim
end
end Vl

namespace Vl
open PySem PySem.Spec PyProof.Rows L2

/-! ### statements -/
inductive RD where
  | im (d : D) | fr (c : Cl) | fl (pre : List D) (c : Cl)
def RD.d : RD → D
  | .im d => d
  | .fr c => c.d
  | .fl pre c => .lst (pre ++ [c.d])
structure EndsD where
  nx : Gm → Prop
  rt : RD → Gm → Prop
  bk : Gm → Prop
  ct : Gm → Prop
abbrev TSD := ExD → EndsD → Gm → Prop
def RetOk (K : PySem.W.Frag) (B : Bs) (G H : Hp) (as : List Addr) (v : V) : RD → Prop
  | .im d => Rep K G v d
  | .fr c => ∃ l o, v = .ref l ∧ G l = none ∧ H l = some o ∧ ClOk K G o c ∧ B.H l = none ∧ l ∉ as
  | .fl pre c => ∃ p l o xs, v = .ref p ∧ G p = some (.lst (xs ++ [.ref l])) ∧ xs.length + 1 ≤ sizeLine ∧ Reps K G xs pre ∧ G l = none ∧ H l = some o ∧ ClOk K G o c ∧ B.H l = none ∧ l ∉ as
structure EnX (K : PySem.W.Frag) (B : Bs) (D : EndsD) (D' : Ends) : Prop where
  nx : ∀ σ G H Γ, EnvOk K B G H σ Γ → D.nx Γ → D'.nx σ H
  rt : ∀ v r σ G H Γ, EnvOk K B G H σ Γ → RetOk K B G H Γ.as v r → D.rt r Γ → D'.rt v H
  bk : ∀ σ G H Γ, EnvOk K B G H σ Γ → D.bk Γ → D'.bk σ H
  ct : ∀ σ G H Γ, EnvOk K B G H σ Γ → D.ct Γ → D'.ct σ H
def lS (K : PySem.W.Frag) (tk : Tk) (T : TSD) : TS := fun D' σ H => ∃ (B : Bs) (R : ExD) (Γ : Gm) (G : Hp) (D : EndsD), tk B R ∧ EnvOk K B G H σ Γ ∧ T R D Γ ∧ EnX K B D D'
def PFS (X : Cx) (tk : Tk) (st : Stmt) (T : TSD) : Prop := PS X st (lS X.K tk T)
def PFSs (X : Cx) (tk : Tk) (st : List Stmt) (T : TSD) : Prop := PSs X st (lS X.K tk T)
/-- the wishes of a def whose slot bs is borrowed -/
abbrev TkS (X : Cx) (bs : Option Nat) : Tk := fun B R => TkD X B R ∧ ∀ i l, B.bo = some (i, l) → bs = some i
def NbT (tk : Tk) (i : Nat) : Prop := ∀ B R, tk B R → ∀ l, B.bo ≠ some (i, l)
theorem nbT {X : Cx} {bs : Option Nat} {i : Nat} (h : bs ≠ some i) : NbT (TkS X bs) i := fun B R t l q => h (t.2 i l q)

section
variable {X : Cx} {tk : Tk} {st : Stmt} {rest a b : List Stmt} {e : Expr} {T U : TSD} {Te : TF} {To : TOD} {Tt : TTD} {pos : Pos}
def tNextD : TSD := fun _ D Γ => D.nx Γ
def tSeqD (T U : TSD) : TSD := fun R D Γ => T R { D with nx := U R D } Γ
theorem EnX.seq {K : PySem.W.Frag} {B : Bs} {R : ExD} {D : EndsD} {D' : Ends} (t : tk B R) (x : EnX K B D D') : EnX K B { D with nx := U R D } { D' with nx := lS K tk U D' } :=
  ⟨fun σ G H Γ e h => ⟨B, R, Γ, G, D, t, e, h, x⟩, x.rt, x.bk, x.ct⟩
theorem pfss_nil : PFSs X tk [] tNextD := pss_imp pss_nil fun D' σ H ⟨B, R, Γ, G, D, t, en, h, x⟩ => x.nx σ G H Γ en h
theorem pfss_cons (h1 : PFS X tk st T) (h2 : PFSs X tk rest U) : PFSs X tk (st :: rest) (tSeqD T U) :=
  pss_imp (pss_cons h1 h2) fun D' σ H ⟨B, R, Γ, G, D, t, en, h, x⟩ => ⟨B, R, Γ, G, _, t, en, h, x.seq t⟩
theorem pfss_one (h1 : PFS X tk st T) : PFSs X tk [st] T := pss_one h1
theorem pfs_pass : PFS X tk (.Pass pos) tNextD := ps_imp ps_pass fun D' σ H ⟨B, R, Γ, G, D, t, en, h, x⟩ => x.nx σ G H Γ en h
def tBreakD : TSD := fun _ D Γ => D.bk Γ
def tContD : TSD := fun _ D Γ => D.ct Γ
theorem pfs_break : PFS X tk (.Break pos) tBreakD := ps_imp ps_break fun D' σ H ⟨B, R, Γ, G, D, t, en, h, x⟩ => x.bk σ G H Γ en h
theorem pfs_continue : PFS X tk (.Continue pos) tContD := ps_imp ps_continue fun D' σ H ⟨B, R, Γ, G, D, t, en, h, x⟩ => x.ct σ G H Γ en h
def tDropD (T : TF) : TSD := fun R D Γ => T R Γ fun _ Γ' => D.nx Γ'
theorem pfs_expr (he : PF X tk e Te) (hs : swapsWith e none pos.line X.env = pure false := by rfl) : PFS X tk (.Expr e pos) (tDropD Te) :=
  ps_imp (ps_expr he hs) fun D' σ H ⟨B, R, Γ, G, D, t, en, h, x⟩ => ⟨B, R, Γ, G, _, t, en, h, fun v G1 H1 Γ1 d p r h1 => x.nx σ G1 H1 Γ1 p.env h1⟩
def tRetD (T : TF) : TSD := fun R D Γ => T R Γ fun d Γ' => D.rt (.im d) Γ'
theorem pfs_ret (he : PF X tk e Te) : PFS X tk (.Return (some e) pos) (tRetD Te) :=
  ps_imp (ps_ret he) fun D' σ H ⟨B, R, Γ, G, D, t, en, h, x⟩ => ⟨B, R, Γ, G, _, t, en, h, fun v G1 H1 Γ1 d p r h1 => x.rt v (.im d) σ G1 H1 Γ1 p.env r h1⟩
def tRetO (T : TOD) : TSD := fun R D Γ => T R Γ fun c Γ' => D.rt (.fr c) Γ'
theorem pfs_retO (he : PFO X tk e To) : PFS X tk (.Return (some e) pos) (tRetO To) :=
  ps_imp (ps_ret he) fun D' σ H ⟨B, R, Γ, G, D, t, en, h, x⟩ => ⟨B, R, Γ, G, _, t, en, h, fun v G1 H1 Γ1 c p ⟨l, o, a1, a2, a3, a4, a5, na⟩ h1 => x.rt v (.fr c) σ G1 H1 Γ1 p.env ⟨l, o, a1, a2, a3, a4, en.bhNone a5, na⟩ h1⟩
/-- return of an own cell -/
def tRetV (i : Nat) : TSD := fun _ D Γ => match Γ.sl[i]? with
  | some (.ow c) => D.rt (.fr c) Γ
  | _ => False
theorem pfs_retV (i : Nat) {x : Str} {px : Pos} (nb : NbT tk i) (hN : X.N[i]? = some x := by rfl) (hx : Vis X.env.scope x := by first | exact Or.inl rfl | exact Or.inr (Or.inl rfl) | exact Or.inr (Or.inr rfl)) (hd : (x == ("__debug__" : Str)) = false := by decide) (hcd : (x == ("__classdict__" : Str)) = false := by decide) :
    PFS X tk (.Return (some (.Name x px)) pos) (tRetV i) :=
  ps_imp (ps_ret (pe_var hN hx hd hcd)) fun D' σ H ⟨B, R, Γ, G, D, t, en, h, x⟩ => by
    unfold tRetV at h
    split at h
    · rename_i c q
      obtain ⟨l, o, a1, a2, a3, a4, a5⟩ := en.ow i _ q
      have a6 : B.H l = none := by
        rcases a5 with z | z
        · exact z
        · exact (nb B R t l z).elim
      exact ⟨.ref l, a1, x.rt (.ref l) (.fr c) σ G H Γ en ⟨l, o, rfl, a2, a3, a4, a6, en.wd.sp i c l q a1⟩ h⟩
    · exact h.elim
def tRetND : TSD := fun _ D Γ => D.rt (.im .non) Γ
theorem pfs_retN : PFS X tk (.Return none pos) tRetND := ps_imp ps_retN fun D' σ H ⟨B, R, Γ, G, D, t, en, h, x⟩ => x.rt .non (.im .non) σ G H Γ en .non h
def tIfSD (c : TTD) (T U : TSD) : TSD := fun R D Γ => c R Γ fun b Γ' => if b = true then T R D Γ' else U R D Γ'
theorem pfs_if {c : Expr} (hc : PFT X tk c Tt) (ha : PFSs X tk a T) (hb : PFSs X tk b U) : PFS X tk (.If c a b pos) (tIfSD Tt T U) :=
  ps_imp (ps_if hc ha hb) fun D' σ H ⟨B, R, Γ, G, D, t, en, h, x⟩ => ⟨B, R, Γ, G, _, t, en, h, fun c G1 H1 Γ1 p h1 => by
    cases c with
    | true => exact iteT ⟨B, R, Γ1, G1, D, t, p.env, h1, x⟩
    | false => exact iteF ⟨B, R, Γ1, G1, D, t, p.env, h1, x⟩⟩
def tNeverD : TSD := fun _ _ _ => False
theorem pfs_never : PFS X tk st tNeverD := ps_imp ps_never fun D' σ H ⟨B, R, Γ, G, D, t, en, h, x⟩ => h.elim

/-! ### assignments -/
def tSetD (i : Nat) (T : TF) : TSD := fun R D Γ => T R Γ fun d Γ' => D.nx (Γ'.set i (.im d))
def tSetO (i : Nat) (T : TOD) : TSD := fun R D Γ => T R Γ fun c Γ' => D.nx (Γ'.set i (.ow c))
theorem FrOk.own {K : PySem.W.Frag} {B : Bs} {σ : L2.St} {G H G1 H1 : Hp} {Γ Γ1 : Gm} {v : V} {c : Cl} (f : FrOk K H G1 H1 Γ1.as v c) (en : EnvOk K B G H σ Γ) (p : EvP K B σ G H Γ G1 H1 Γ1) {i : Nat} (nb : ∀ l, B.bo ≠ some (i, l)) :
    EnvOk K B G1 H1 (σ.set i (some v)) (Γ1.set i (.ow c)) := by
  obtain ⟨l, o, a1, a2, a3, a4, a5, na⟩ := f
  subst a1
  refine p.env.setOw nb a2 a3 a4 (en.bhNone a5) (fun j d q z => ?_) na
  obtain ⟨d', q'⟩ := (p.sh j).mpr ⟨d, q⟩
  exact en.noOw a5 j d' q' z
theorem asg_core {i : Nat} (nb : NbT tk i) {D' : Ends} {σ : L2.St} {H : Hp} (h : lS X.K tk (tSetD i Te) D' σ H) : tAsg (lE X.K tk Te) (gName i) D' σ H := by
  obtain ⟨B, R, Γ, G, D, t, en, h, x⟩ := h
  exact ⟨B, R, Γ, G, _, t, en, h, fun v G1 H1 Γ1 d p r h1 => x.nx _ G1 H1 _ (p.env.setIm (nb B R t) r) h1⟩
theorem asg_coreO {i : Nat} (nb : NbT tk i) {D' : Ends} {σ : L2.St} {H : Hp} (h : lS X.K tk (tSetO i To) D' σ H) : tAsg (lO X.K tk To) (gName i) D' σ H := by
  obtain ⟨B, R, Γ, G, D, t, en, h, x⟩ := h
  exact ⟨B, R, Γ, G, _, t, en, h, fun v G1 H1 Γ1 c p f h1 => x.nx _ G1 H1 _ (f.own en p (nb B R t)) h1⟩
theorem pfs_set (i : Nat) {x : Str} {pos' : Pos} (nb : NbT tk i) (hN : X.N.Nodup) (he : PF X tk e Te) (hi : X.N[i]? = some x := by rfl) (hx : Loc X.env.scope x := by first | exact Or.inl rfl | exact Or.inr rfl) (hs : swapsWith e (some (.Name x pos')) pos.line X.env = pure false := by rfl) (hf : X.fn x = true ∨ X.env.scope.names.lookup x = some .local := by first | exact .inl rfl | exact .inr rfl) :
    PFS X tk (.Assign [.Name x pos'] e pos) (tSetD i Te) := ps_imp (ps_set hN hi hx he hs hf) fun D' σ H h => asg_core nb h
theorem pfs_setO (i : Nat) {x : Str} {pos' : Pos} (nb : NbT tk i) (hN : X.N.Nodup) (he : PFO X tk e To) (hi : X.N[i]? = some x := by rfl) (hx : Loc X.env.scope x := by first | exact Or.inl rfl | exact Or.inr rfl) (hs : swapsWith e (some (.Name x pos')) pos.line X.env = pure false := by rfl) (hf : X.fn x = true ∨ X.env.scope.names.lookup x = some .local := by first | exact .inl rfl | exact .inr rfl) :
    PFS X tk (.Assign [.Name x pos'] e pos) (tSetO i To) := ps_imp (ps_set hN hi hx he hs hf) fun D' σ H h => asg_coreO nb h
/-- a slot's cell frozen for good, ahead of a block -/
def frzAt (i : Nat) (Γ : Gm) : Gm := match Γ.sl[i]? with
  | some (.ow c) => Γ.set i (.im c.d)
  | _ => Γ
def tFrz (i : Nat) (T : TSD) : TSD := fun R D Γ => T R D (frzAt i Γ)
theorem frz_env {K : PySem.W.Frag} {B : Bs} {σ : L2.St} {G H : Hp} {Γ : Gm} {i : Nat} (nb : ∀ l, B.bo ≠ some (i, l)) (en : EnvOk K B G H σ Γ) : ∃ G', EnvOk K B G' H σ (frzAt i Γ) := by
  unfold frzAt
  split
  · rename_i c q
    obtain ⟨l, o, a1, a2, a3, a4, a5⟩ := en.ow i _ q
    have a6 : B.H l = none := by
      rcases a5 with z | z
      · exact z
      · exact (nb l z).elim
    have e1 : EnvOk K B G H (σ.set i (some (.ref l))) (Γ.set i .un) := en.un nb _
    have es : σ.set i (some (.ref l)) = σ := by
      apply List.ext_getElem?
      intro j
      rw [List.getElem?_set]
      by_cases w : i = j
      · subst w
        rw [if_pos rfl, a1, if_pos (List.getElem?_eq_some_iff.mp a1).1]
      · rw [if_neg w]
    rw [es] at e1
    have e2 := e1.freeze a3 a2 a6 (fun j c' q' z => by
      rcases gset_at q' with ⟨_, _, w⟩ | ⟨w1, w2⟩
      · cases w
      · exact w1 (en.sep i j c c' l q w2 a1 z)) (en.wd.sp i c l q a1)
    have s1 : Same G (upd G l o) := fun a u q => by rw [upd_ne (ne_of_none q a2)]; exact q
    have e3 := e2.setIm (i := i) (v := .ref l) nb ((a4.mono s1).rep upd_same)
    have ew : (Γ.set i .un).set i (.im c.d) = Γ.set i (.im c.d) := by
      show Gm.mk _ _ _ = Gm.mk _ _ _
      rw [List.set_set]
    rw [es, ew] at e3
    exact ⟨_, e3⟩
  · exact ⟨G, en⟩
theorem pfss_frz (i : Nat) (nb : NbT tk i) (h : PFSs X tk rest T) : PFSs X tk rest (tFrz i T) := pss_imp h fun D' σ H ⟨B, R, Γ, G, D, t, en, h, x⟩ => by
  obtain ⟨G', en'⟩ := frz_env (nb B R t) en
  exact ⟨B, R, _, G', D, t, en', h, x⟩
end

/-! ### what a for walks -/
def ItOk (K : PySem.W.Frag) (J : It) (G0 : Hp) (ds : List D) : Prop :=
  (∀ (i : Nat) (H : Hp), Same G0 H → i < ds.length → J.go i H) ∧ (∀ (i : Nat) (H : Hp), Same G0 H → i = ds.length → J.stop i H) ∧
    ∀ (i : Nat) (G H : Hp) (x : V) (H' : Hp), Same G0 G → Same G H → i < ds.length → J.yld i H x H' → ∃ d G', ds[i]? = some d ∧ Ext G H G' H' ∧ Rep K G' x d
def lI (K : PySem.W.Frag) (tk : Tk) (T : TAD) : TI := fun σ H R' => ∃ (B : Bs) (R : ExD) (Γ : Gm) (G : Hp) (Φ : List D → Gm → Prop), tk B R ∧ EnvOk K B G H σ Γ ∧ T R Γ Φ ∧
  ∀ J G' H' Γ' ds, EvP K B σ G H Γ G' H' Γ' → ItOk K J G' ds → Φ ds Γ' → R' J H'
def PFI (X : Cx) (tk : Tk) (tg iter : Expr) (T : TAD) : Prop := PI X tg iter (lI X.K tk T)
def strDs (z : Str) : List D := z.cps.toList.map fun c => D.str ⟨#[c]⟩
/-- what a for over it yields -/
def D.its : D → (List D → Prop) → Prop
  | .tup xs, k => k xs
  | .lst xs, k => k xs
  | .ro xs, k => k xs
  | .str z, k => k (strDs z)
  | _, _ => False
def tItsD (T : TF) : TAD := fun R Γ Φ => T R Γ fun d Γ' => d.its fun ds => Φ ds Γ'
section
variable {X : Cx} {tk : Tk} {tg e : Expr} {Te : TF} {U : TAD} {pos p : Pos}
theorem pi_imp {t t' : TI} (h : PI X tg e t) (i : ∀ σ H Q, t' σ H Q → t σ H Q) : PI X tg e t' := ⟨fun pins s σ H Q I w => h.run pins s σ H Q I (i σ H Q w)⟩
/-- a list, a tuple, a text, whichever comes -/
def iAny (K : PySem.W.Frag) (tl : TE) : TI := fun σ H R => tl σ H fun x H1 => (∃ a xs, x = .ref a ∧ SqL K H1 a xs ∧ R (Itl K a) H1) ∨ (∃ a xs, x = .ref a ∧ SqT K H1 a xs ∧ R (Itt K a) H1) ∨ (∃ z, x = .str z ∧ R (Its z) H1)
theorem pi_any {tl : TE} (hl : PE X e tl) : PI X tg e (iAny X.K tl) := by
  refine ⟨fun pins s σ H R I h => thn (hl.run pins s σ H _ I h) fun v s1 ⟨x, H1, I1, r1, q1⟩ => ?_⟩
  rcases q1 with ⟨a, xs, e1, hq, q⟩ | ⟨a, xs, e1, hq, q⟩ | ⟨z, e1, q⟩
  · subst e1
    cases r1
    obtain ⟨its, rv, pl, hz⟩ := I1.list hq
    exact wpAny_pyIter_list pl.isList (pi_one (tk := s1.toks) I1 _ (turn_list a _) ⟨_, Heap.get?_push_size _ rfl, rfl, rfl⟩ q)
  · subst e1
    cases r1
    obtain ⟨its, rv, pl, hz⟩ := I1.tuple hq
    exact wpAny_pyIter_tuple (show s1.heap.IsTuple a its.toArray from pl) (pi_one (tk := s1.toks) I1 _ (turn_tuple a _) ⟨_, Heap.get?_push_size _ rfl, rfl, rfl⟩ q)
  · subst e1
    obtain ⟨t, rfl⟩ := r1
    cases ha : z.cps.all (· < 128)
    · exact wpAny_pyIter_wide ha (pi_one (tk := s1.toks) I1 _ (turn_str _ z t "str_iterator" (.inr rfl)) ⟨_, Heap.get?_push_size _ rfl, rfl, rfl⟩ q)
    · exact wpAny_pyIter_ascii ha (pi_one (tk := s1.toks) I1 _ (turn_str _ z t "str_ascii_iterator" (.inl rfl)) ⟨_, Heap.get?_push_size _ rfl, rfl, rfl⟩ q)
theorem seq_uniq_l {K : PySem.W.Frag} {H : Hp} {a : Addr} {xs : List V} (h : H a = some (.lst xs)) : SqL K H a xs := SqL.of h
end
end Vl

namespace Vl
open PySem PySem.Spec PyProof.Rows L2

/-! ### another ground -/
def Bs.at (B : Bs) (G : Hp) : Bs := { B with G := G }
section
variable {K : PySem.W.Frag} {B : Bs} {σ : L2.St} {G H G1 : Hp} {Γ : Gm}
theorem EnvOk.rebase (e : EnvOk K B G H σ Γ) : EnvOk K (B.at G) G H σ Γ := ⟨e.len, e.gh, Same.refl _, fun _ _ q => .inl q, e.fr, e.im, e.ow, e.sep, e.bo, e.wd.wl, e.wd.nd, e.wd.pre, e.wd.wc, e.wd.wp, e.wd.sp⟩
theorem EnvOk.unbase (e : EnvOk K (B.at G1) G H σ Γ) (s : Same B.G G1) (n : ∀ a o, G1 a = some o → B.G a = some o ∨ B.H a = none) : EnvOk K B G H σ Γ :=
  ⟨e.len, e.gh, s.trans e.g0, fun a o q => by
    rcases e.gn a o q with z | z
    · exact n a o z
    · exact .inr z, e.fr, e.im, e.ow, e.sep, e.bo, e.wd.wl, e.wd.nd, e.wd.pre, e.wd.wc, e.wd.wp, e.wd.sp⟩
theorem TkD.at {X : Cx} {B : Bs} {R : ExD} {G1 : Hp} (t : TkD X B R) (s : Same B.G G1) (n : ∀ a o, G1 a = some o → B.G a = some o ∨ B.H a = none) : TkD X (B.at G1) R :=
  Takes.imp t fun c d σ H ⟨nm, pl, G, Γ, e, en, p, r⟩ => ⟨nm, pl, G, Γ, e, en.unbase s n, p, r⟩
theorem TkS.at {X : Cx} {bs : Option Nat} {B : Bs} {R : ExD} {G1 : Hp} (t : TkS X bs B R) (s : Same B.G G1) (n : ∀ a o, G1 a = some o → B.G a = some o ∨ B.H a = none) : TkS X bs (B.at G1) R := ⟨TkD.at t.1 s n, t.2⟩
theorem EnX.at {D : EndsD} {D' : Ends} (x : EnX K B D D') (s : Same B.G G1) (n : ∀ a o, G1 a = some o → B.G a = some o ∨ B.H a = none) : EnX K (B.at G1) D D' :=
  ⟨fun σ G H Γ e h => x.nx σ G H Γ (e.unbase s n) h, fun v r σ G H Γ e q h => x.rt v r σ G H Γ (e.unbase s n) (by cases r <;> exact q) h, fun σ G H Γ e h => x.bk σ G H Γ (e.unbase s n) h, fun σ G H Γ e h => x.ct σ G H Γ (e.unbase s n) h⟩

/-! ### turns -/
theorem it_list {p : Addr} {xs : List V} {ds : List D} (h : G p = some (.lst xs)) (r : Reps K G xs ds) : ItOk K (Itl K p) G ds := by
  refine ⟨fun i H s hi => ?_, fun i H s hi => ⟨xs, SqL.of (s _ _ h), by rw [r.length, hi]; exact Nat.le_refl _⟩, fun i G2 H x H' s1 s2 hi ⟨e, y⟩ => ?_⟩
  · obtain ⟨v, h1, _⟩ := r.get (i := i) (List.getElem?_eq_getElem hi)
    exact ⟨xs, v, SqL.of (s _ _ h), h1⟩
  · subst e
    obtain ⟨d, h1, h2⟩ := r.getV (y xs (SqL.of (s2 _ _ (s1 _ _ h))))
    exact ⟨d, G2, h1, Ext.refl s2, h2.mono s1⟩
theorem it_ro {p : Addr} {xs : List V} {ds : List D} (h : SqL K G p xs) (r : Reps K G xs ds) : ItOk K (Itl K p) G ds := by
  refine ⟨fun i H s hi => ?_, fun i H s hi => ⟨xs, same_l s h, by rw [r.length, hi]; exact Nat.le_refl _⟩, fun i G2 H x H' s1 s2 hi ⟨e, y⟩ => ?_⟩
  · obtain ⟨v, h1, _⟩ := r.get (i := i) (List.getElem?_eq_getElem hi)
    exact ⟨xs, v, same_l s h, h1⟩
  · subst e
    obtain ⟨d, h1, h2⟩ := r.getV (y xs (same_l s2 (same_l s1 h)))
    exact ⟨d, G2, h1, Ext.refl s2, h2.mono s1⟩
theorem it_tup {p : Addr} {xs : List V} {ds : List D} (h : SqT K G p xs) (r : Reps K G xs ds) : ItOk K (Itt K p) G ds := by
  refine ⟨fun i H s hi => ?_, fun i H s hi => ⟨xs, same_t s h, by rw [r.length, hi]; exact Nat.le_refl _⟩, fun i G2 H x H' s1 s2 hi ⟨e, y⟩ => ?_⟩
  · obtain ⟨v, h1, _⟩ := r.get (i := i) (List.getElem?_eq_getElem hi)
    exact ⟨xs, v, same_t s h, h1⟩
  · subst e
    obtain ⟨d, h1, h2⟩ := r.getV (y xs (same_t s2 (same_t s1 h)))
    exact ⟨d, G2, h1, Ext.refl s2, h2.mono s1⟩
theorem strDs_length (z : Str) : (strDs z).length = z.cps.size := by unfold strDs; simp
theorem it_str {z : Str} : ItOk K (Its z) G (strDs z) := by
  refine ⟨fun i H s hi => by rw [strDs_length] at hi; exact hi, fun i H s hi => by rw [strDs_length] at hi; exact Nat.le_of_eq hi.symm, fun i G2 H x H' s1 s2 hi ⟨e, c, h1, h2⟩ => ?_⟩
  subst e h2
  refine ⟨.str ⟨#[c]⟩, G2, ?_, Ext.refl s2, .str _⟩
  unfold strDs
  rw [List.getElem?_map, Array.getElem?_toList, h1]
  rfl
def rangeDs (lo : Int) (n : Nat) : List D := (List.range n).map fun (i : Nat) => D.int (lo + (i : Int))
theorem rangeDs_length (lo : Int) (n : Nat) : (rangeDs lo n).length = n := by unfold rangeDs; simp
theorem it_range {lo : Int} {n : Nat} : ItOk K (Itr lo n) G (rangeDs lo n) := by
  refine ⟨fun i H s hi => by rw [rangeDs_length] at hi; exact hi, fun i H s hi => by rw [rangeDs_length] at hi; exact Nat.le_of_eq hi.symm, fun i G2 H x H' s1 s2 hi ⟨e, h2⟩ => ?_⟩
  subst e h2
  rw [rangeDs_length] at hi
  refine ⟨.int (lo + i), G2, ?_, Ext.refl s2, .int _⟩
  unfold rangeDs
  rw [List.getElem?_map, List.getElem?_range hi]
  rfl
end
section
variable {X : Cx} {tk : Tk} {tg e : Expr} {Te : TF} {U : TAD} {pos p : Pos}
theorem pfi_any (he : PF X tk e Te) : PFI X tk tg e (tItsD Te) := pi_imp (pi_any he) fun σ H Q ⟨B, R, Γ, G, Φ, t, en, h, k⟩ => ⟨B, R, Γ, G, _, t, en, h, fun v G1 H1 Γ1 d p1 r1 h1 => by
  cases r1 with
  | tup hp l r => exact .inr (.inl ⟨_, _, rfl, same_t p1.env.gh hp, k _ G1 H1 Γ1 _ p1 (it_tup hp r) h1⟩)
  | lst hp l r => exact .inl ⟨_, _, rfl, SqL.of (p1.env.gh _ _ hp), k _ G1 H1 Γ1 _ p1 (it_list hp r) h1⟩
  | ro hp l r => exact .inl ⟨_, _, rfl, same_l p1.env.gh hp, k _ G1 H1 Γ1 _ p1 (it_ro hp r) h1⟩
  | str z => exact .inr (.inr ⟨z, rfl, k _ G1 H1 Γ1 _ p1 it_str h1⟩)
  | _ => exact h1.elim⟩
def tRng1 (T : TF) : TAD := fun R Γ Φ => T R Γ fun d Γ' => d.asInt fun j => -(2 ^ 62) ≤ j ∧ j < 2 ^ 62 ∧ Φ (rangeDs 0 j.toNat) Γ'
def tRng2 (T U : TF) : TAD := fun R Γ Φ => T R Γ fun d Γ1 => U R Γ1 fun d2 Γ2 => d.asInt fun i => d2.asInt fun j => (-(2 ^ 62) ≤ i ∧ i < 2 ^ 62 ∧ -(2 ^ 62) ≤ j ∧ j < 2 ^ 62) ∧ Φ (rangeDs i (j - i).toNat) Γ2
theorem pfi_range1 (hm : X.mg "range" = none) (he : PF X tk e Te) (hg : Gl X "range" := by rfl) (hs : starEach [e] X.env = [(false, eval e X.env)] := by rfl) : PFI X tk tg (.Call (.Name "range" p) [e] [] pos) (tRng1 Te) :=
  pi_imp (pi_range1 hg hm (pa_cons he pa_nil hs) hs) fun σ H Q ⟨B, R, Γ, G, Φ, t, en, h, k⟩ => ⟨B, R, Γ, G, _, t, en, h, fun v G1 H1 Γ1 d p1 r1 h1 => by
    obtain ⟨j, e1, _, h2, h3, h4⟩ := r1.asInt h1
    exact ⟨j, by rw [e1], h2, h3, k _ G1 H1 Γ1 _ p1 it_range h4⟩⟩
theorem pfi_range2 {a b : Expr} {Ta Tb : TF} (hm : X.mg "range" = none) (ha : PF X tk a Ta) (hb : PF X tk b Tb) (hg : Gl X "range" := by rfl) (hs : starEach [a, b] X.env = [(false, eval a X.env), (false, eval b X.env)] := by rfl) (hs2 : starEach [a, b] X.env = (false, eval a X.env) :: starEach [b] X.env := by rfl) (hs3 : starEach [b] X.env = (false, eval b X.env) :: starEach [] X.env := by rfl) : PFI X tk tg (.Call (.Name "range" p) [a, b] [] pos) (tRng2 Ta Tb) :=
  pi_imp (pi_range2 hg hm (pa_cons ha (pa_cons hb pa_nil hs3) hs2) hs (by rw [hs3] <;> rfl)) fun σ H Q ⟨B, R, Γ, G, Φ, t, en, h, k⟩ => ⟨B, R, Γ, G, _, t, en, h, fun v G1 H1 Γ1 d p1 r1 h1 => ⟨B, R, Γ1, G1, _, t, p1.env, h1, fun v2 G2 H2 Γ2 d2 p2 r2 h2 => by
    obtain ⟨i, e1, _, h3⟩ := r1.asInt h2
    obtain ⟨j, e2, _, h4, h5⟩ := r2.asInt h3
    exact ⟨i, j, by rw [e1, e2], h4, k _ G2 H2 Γ2 _ (p1.trans p2) it_range h5⟩⟩⟩

/-! ### targets -/
abbrev TGD := D → Gm → (Gm → Prop) → Prop
abbrev TGsD := List D → Gm → (Gm → Prop) → Prop
def lG (K : PySem.W.Frag) (tk : Tk) (T : TGD) : TG := fun v σ H Q => ∃ (B : Bs) (R : ExD) (Γ : Gm) (G : Hp) (d : D) (Φ : Gm → Prop), tk B R ∧ EnvOk K B G H σ Γ ∧ Rep K G v d ∧ T d Γ Φ ∧ ∀ σ' G' Γ', EnvOk K B G' H σ' Γ' → Same G G' → Φ Γ' → Q σ' H
def lGs (K : PySem.W.Frag) (tk : Tk) (T : TGsD) : TGs := fun vs σ H Q => ∃ (B : Bs) (R : ExD) (Γ : Gm) (G : Hp) (ds : List D) (Φ : Gm → Prop), tk B R ∧ EnvOk K B G H σ Γ ∧ Reps K G vs ds ∧ T ds Γ Φ ∧ ∀ σ' G' Γ', EnvOk K B G' H σ' Γ' → Same G G' → Φ Γ' → Q σ' H
def PFG (X : Cx) (tk : Tk) (tg : Expr) (T : TGD) : Prop := PG X tg (lG X.K tk T)
def PFGs (X : Cx) (tk : Tk) (tg : List Expr) (T : TGsD) : Prop := PGs X tg (lGs X.K tk T)
theorem pg_imp {t t' : TG} (h : PG X tg t) (i : ∀ v σ H Q, t' v σ H Q → t v σ H Q) : PG X tg t' := ⟨fun pins s σ H v u Q I r w => h.run pins s σ H v u Q I r (i v σ H Q w)⟩
theorem pgs_imp {tg : List Expr} {t t' : TGs} (h : PGs X tg t) (i : ∀ v σ H Q, t' v σ H Q → t v σ H Q) : PGs X tg t' := ⟨fun pins s σ H v u Q I r w => h.run pins s σ H v u Q I r (i v σ H Q w)⟩
def gNameD (i : Nat) : TGD := fun d Γ Φ => Φ (Γ.set i (.im d))
theorem pfg_name (i : Nat) {x : Str} (nb : NbT tk i) (hN : X.N.Nodup) (hi : X.N[i]? = some x := by rfl) (hx : Loc X.env.scope x := by first | exact Or.inl rfl | exact Or.inr rfl) (hf : X.fn x = true ∨ X.env.scope.names.lookup x = some .local := by first | exact .inl rfl | exact .inr rfl) : PFG X tk (.Name x pos) (gNameD i) :=
  pg_imp (pg_name hN hi hx hf) fun v σ H Q ⟨B, R, Γ, G, d, Φ, t, en, r, h, k⟩ => k _ G _ (en.setIm (nb B R t) r) (Same.refl _) h
def gNilD : TGsD := fun ds Γ Φ => ds = [] ∧ Φ Γ
def gConsD (t : TGD) (u : TGsD) : TGsD := fun ds Γ Φ => match ds with
  | d :: r => t d Γ fun Γ' => u r Γ' Φ
  | [] => False
theorem pfgs_nil : PFGs X tk [] gNilD := pgs_imp pgs_nil fun v σ H Q ⟨B, R, Γ, G, ds, Φ, t, en, r, ⟨h1, h2⟩, k⟩ => by
  subst h1
  cases r
  exact ⟨rfl, k σ G Γ en (Same.refl _) h2⟩
theorem pfgs_cons {es : List Expr} {t : TGD} {u : TGsD} (h1 : PFG X tk e t) (h2 : PFGs X tk es u) (hs : (assignEach (e :: es) X.env).map (·.2) = assign e X.env :: (assignEach es X.env).map (·.2) := by rfl) : PFGs X tk (e :: es) (gConsD t u) :=
  pgs_imp (pgs_cons h1 h2 hs) fun vs σ H Q ⟨B, R, Γ, G, ds, Φ, t, en, r, h, k⟩ => by
    cases r with
    | nil => exact h.elim
    | cons r1 r2 => exact ⟨_, _, rfl, B, R, Γ, G, _, _, t, en, r1, h, fun σ' G' Γ' en' s h' => ⟨B, R, Γ', G', _, Φ, t, en', r2.mono s, h', fun σ2 G2 Γ2 en2 s2 h2 => k σ2 G2 Γ2 en2 (s.trans s2) h2⟩⟩
/-- (a, b, ..) = a tuple, a list of that length -/
def gTupD (n : Nat) (u : TGsD) : TGD := fun d Γ Φ => match d with
  | .tup ds => ds.length = n ∧ u ds Γ Φ
  | .lst ds => ds.length = n ∧ u ds Γ Φ
  | _ => False
theorem pfg_tup {es : List Expr} {k : Nat} {u : TGsD} {n : Nat} (hc : X.calm = true) (h : PFGs X tk es u) (hn : (assignEach es X.env).length = n := by rfl) (hst : (assignEach es X.env).findIdx? (·.1) = none := by rfl) : PFG X tk (.Tuple es k pos) (gTupD n u) := by
  refine ⟨fun pins s σ H v w Q I r hw => ?_⟩
  obtain ⟨B, R, Γ, G, d, Φ, t, en, rd, h1, kk⟩ := hw
  cases rd with
  | tup hp l rr => exact (pg_tup hc h hn hst).run pins s σ H _ w Q I r ⟨_, _, rfl, same_t en.gh hp, by rw [rr.length]; exact h1.1, B, R, Γ, G, _, Φ, t, en, rr, h1.2, kk⟩
  | lst hp l rr => exact (L2.pg_lst hc h hn hst).run pins s σ H _ w Q I r ⟨_, _, rfl, SqL.of (en.gh _ _ hp), by rw [rr.length]; exact h1.1, B, R, Γ, G, _, Φ, t, en, rr, h1.2, kk⟩
  | _ => exact h1.elim
def tAsgD (T : TF) (g : TGD) : TSD := fun R D Γ => T R Γ fun d Γ' => g d Γ' D.nx
theorem pfs_asg {g : TGD} (he : PF X tk e Te) (hg : PFG X tk tg g) (hs : swapsWithSole [tg] e pos.line X.env = pure false := by rfl) (hw : swappedStores [tg] e X.env = pure none := by rfl) (h1 : (assignEach [tg] X.env).map (·.2) = [assign tg X.env] := by rfl) : PFS X tk (.Assign [tg] e pos) (tAsgD Te g) :=
  ps_imp (ps_asg he hg hs hw h1) fun D' σ H ⟨B, R, Γ, G, D, t, en, h, x⟩ => ⟨B, R, Γ, G, _, t, en, h, fun v G1 H1 Γ1 d p r h1 => ⟨B, R, Γ1, G1, d, _, t, p.env, r, h1, fun σ' G' Γ' en' _ h2 => x.nx σ' G' H1 Γ' en' h2⟩⟩
end

/-! ### for -/
/-- the turns, one by one; the slots vs are forgotten behind each -/
def forD (R : ExD) (g : TGD) (tb : TSD) (rt : RD → Gm → Prop) (nx : Gm → Prop) (vs : List Nat) : List D → Gm → Prop
  | [], Γ => nx Γ
  | d :: ds, Γ => g d Γ fun Γ2 => tb R ⟨fun Γ3 => forD R g tb rt nx vs ds (wipeD Γ3 vs), rt, fun Γ3 => nx (wipeD Γ3 vs), fun Γ3 => forD R g tb rt nx vs ds (wipeD Γ3 vs)⟩ Γ2
def tForD (it : TAD) (g : TGD) (tb : TSD) (vs : List Nat) : TSD := fun R D Γ => it R Γ fun ds Γ1 => forD R g tb D.rt D.nx vs ds (wipeD Γ1 vs)
theorem forD_inv {R : ExD} {g : TGD} {tb : TSD} {D : EndsD} {vs : List Nat} {ds : List Vl.D} {Γ1 : Gm} (h : forD R g tb D.rt D.nx vs ds Γ1) : ∃ P : Nat → Gm → Prop, P 0 Γ1 ∧
    (∀ (i : Nat) d Γ', ds[i]? = some d → P i Γ' → g d Γ' fun Γ2 => tb R { nx := fun Γ3 => P (i + 1) (wipeD Γ3 vs), rt := D.rt, bk := fun Γ3 => D.nx (wipeD Γ3 vs), ct := fun Γ3 => P (i + 1) (wipeD Γ3 vs) } Γ2) ∧ ∀ Γ', P ds.length Γ' → D.nx Γ' := by
  refine ⟨fun i Γ => forD R g tb D.rt D.nx vs (ds.drop i) Γ, h, fun i d Γ' e p => ?_, fun Γ' p => ?_⟩
  · have hi := (List.getElem?_eq_some_iff.mp e).1
    have e2 : ds.drop i = d :: ds.drop (i + 1) := by
      rw [List.drop_eq_getElem_cons hi]
      congr 1
      exact (List.getElem?_eq_some_iff.mp e).2
    replace p : forD R g tb D.rt D.nx vs (ds.drop i) Γ' := p
    rw [e2] at p
    exact p
  · replace p : forD R g tb D.rt D.nx vs (ds.drop ds.length) Γ' := p
    rw [List.drop_length] at p
    exact p
section
variable {X : Cx} {bs : Option Nat} {tg iter : Expr} {body : List Stmt} {it : TAD} {g : TGD} {tb : TSD} {pos : Pos}
theorem pfs_for (vs : List Nat) (nb : ∀ v ∈ vs, bs ≠ some v) (hp : PassesOwn (model X.prog X.w) X.A X.env X.xe) (hc : X.calm = true) (hi : PFI X (TkS X bs) tg iter it) (hg : PFG X (TkS X bs) tg g) (hb : PFSs X (TkS X bs) body tb) (hs : ∀ x, foldedSetIterable iter X.env x = pure x := by intro _; rfl) : PFS X (TkS X bs) (.For tg iter body [] pos) (tForD it g tb vs) := by
  refine ps_imp (ps_for hp hc hi hg hb hs) fun D' σ H ⟨B, R, Γ, G, D, t, en, h, x⟩ => ⟨B, R, Γ, G, _, t, en, h, fun J G1 H1 Γ1 ds p1 ok hF => ?_⟩
  obtain ⟨P, h0, hs, hd⟩ := forD_inv hF
  have b1 : Same B.G G1 := p1.env.g0
  have b2 := p1.env.gn
  have t1 := TkS.at t b1 b2
  have nbB : ∀ v ∈ vs, ∀ l, B.bo ≠ some (v, l) := fun v hv l q => nb v hv (t.2 v l q)
  refine ⟨fun i m σ' H' => m = ds.length - i ∧ i ≤ ds.length ∧ ∃ G' Γ', EnvOk X.K (B.at G1) G' H' σ' Γ' ∧ P i Γ', ⟨ds.length, by simp, Nat.zero_le _, G1, _, (p1.env.dull nbB).rebase, h0⟩, ?_⟩
  rintro i m σ' H' ⟨rfl, hle, G', Γ', en', hP⟩
  by_cases hlt : i < ds.length
  · refine .inr ⟨ok.1 i H' (en'.g0.trans en'.gh) hlt, fun σ2 H2 => ∃ G2 Γ2, EnvOk X.K (B.at G1) G2 H2 σ2 Γ2 ∧ P (i + 1) Γ2, fun σ2 H2 ⟨G2, Γ2, en2, hP2⟩ => ⟨ds.length - (i + 1), by omega, rfl, hlt, G2, Γ2, en2, hP2⟩, fun v H2 hy => ?_⟩
    obtain ⟨d, G2, e1, ex, rd⟩ := ok.2.2 i G' H' v H2 en'.g0 en'.gh hlt hy
    have en2 := (en'.ext ex).env
    refine ⟨B.at G1, R, Γ', G2, d, _, t1, en2, rd, hs i d Γ' e1 hP, fun σ3 G3 Γ3 en3 _ h3 => ⟨B.at G1, R, Γ3, G3, _, t1, en3, h3, ?_⟩⟩
    have x1 := x.at b1 b2
    exact ⟨fun σ4 G4 H4 Γ4 e4 h4 => ⟨G4, _, e4.dull nbB, h4⟩, x1.rt, fun σ4 G4 H4 Γ4 e4 h4 => x1.nx σ4 G4 H4 _ (e4.dull nbB) h4, fun σ4 G4 H4 Γ4 e4 h4 => ⟨G4, _, e4.dull nbB, h4⟩⟩
  · have ei : i = ds.length := by omega
    subst ei
    exact .inl ⟨ok.2.1 _ H' (en'.g0.trans en'.gh) rfl, x.nx σ' G' H' Γ' (en'.unbase b1 b2) (hd Γ' hP)⟩
/-- slots forgotten ahead of a block -/
def tDull (vs : List Nat) (T : TSD) : TSD := fun R D Γ => T R D (wipeD Γ vs)
theorem pfss_dull {rest : List Stmt} {T : TSD} (vs : List Nat) (nb : ∀ v ∈ vs, bs ≠ some v) (h : PFSs X (TkS X bs) rest T) : PFSs X (TkS X bs) rest (tDull vs T) := pss_imp h fun D' σ H ⟨B, R, Γ, G, D, t, en, h, x⟩ =>
  ⟨B, R, _, G, D, t, en.dull fun v hv l q => nb v hv (t.2 v l q), h, x⟩
theorem pfss_dullB {rest : List Stmt} {T : TSD} {tk : Tk} (vs : List Nat) (nb : ∀ v ∈ vs, NbT tk v) (h : PFSs X tk rest T) : PFSs X tk rest (tDull vs T) := pss_imp h fun D' σ H ⟨B, R, Γ, G, D, t, en, h, x⟩ =>
  ⟨B, R, _, G, D, t, en.dull fun v hv l => nb v hv B R t l, h, x⟩
end
end Vl

namespace Vl
open PySem PySem.Spec PyProof.Rows L2

/-! ### defs -/
inductive AD where
  | im (d : D) | ow (c : Cl)
def AD.sd : AD → SD
  | .im d => .im d
  | .ow c => .ow c
/-- what a def does, by values: its arguments, what is wanted of its value (and of the borrowed cell), of an exception -/
abbrev SpD := List AD → (RD → Option Cl → Prop) → (Str → Option (List (Str × D)) → Option Cl → Prop) → Prop
def AOk (K : PySem.W.Frag) (G H : Hp) (v : V) : AD → Prop
  | .im d => Rep K G v d
  | .ow c => ∃ l o, v = .ref l ∧ G l = none ∧ H l = some o ∧ ClOk K G o c
/-- the borrowed address of a list of arguments -/
def lbOf : List V → List AD → Option Addr
  | .ref l :: _, .ow _ :: _ => some l
  | _ :: vs, _ :: as => lbOf vs as
  | _, _ => none
inductive AsOk (K : PySem.W.Frag) (G H : Hp) : List V → List AD → Prop
  | nil : AsOk K G H [] []
  | cons {v : V} {a : AD} {vs : List V} {as : List AD} (h : AOk K G H v a) (t : AsOk K G H vs as) : AsOk K G H (v :: vs) (a :: as)
/-- behind a call: what the caller knows -/
structure PostR (K : PySem.W.Frag) (G0 H0 : Hp) (lb : Option Addr) (G' H' : Hp) (c' : Option Cl) : Prop where
  gg : Same G0 G'
  gh : Same G' H'
  gn : ∀ a o, G' a = some o → G0 a = some o ∨ H0 a = none
  hh : ∀ a o, H0 a = some o → lb ≠ some a → H' a = some o
  bo : ∀ l, lb = some l → ∃ c o, c' = some c ∧ G' l = none ∧ H' l = some o ∧ ClOk K G' o c
def RetR (K : PySem.W.Frag) (H0 : Hp) (lb : Option Addr) (G' H' : Hp) (v : V) : RD → Prop
  | .im d => Rep K G' v d
  | .fr c => ∃ l o, v = .ref l ∧ G' l = none ∧ H' l = some o ∧ ClOk K G' o c ∧ H0 l = none
  | .fl pre c => ∃ p l o xs, v = .ref p ∧ G' p = some (.lst (xs ++ [.ref l])) ∧ xs.length + 1 ≤ sizeLine ∧ Reps K G' xs pre ∧ G' l = none ∧ H' l = some o ∧ ClOk K G' o c ∧ H0 l = none
def RD.nwp : RD → (RD → Prop) → Prop
  | .im d, k => k (.im d)
  | .fr c, k => k (.fr c)
  | .fl pre c, k => k (.fl pre c)
def liftSp (K : PySem.W.Frag) (n : Nat) (sp : SpD) : Sp := fun vs H0 Q E => ∃ (G0 : Hp) (as : List AD) (Φ : RD → Option Cl → Prop) (R : Str → Option (List (Str × D)) → Option Cl → Prop), vs.length = n ∧ Same G0 H0 ∧ AsOk K G0 H0 vs as ∧ sp as Φ R ∧
  (∀ v r c' G' H', PostR K G0 H0 (lbOf vs as) G' H' c' → RetR K H0 (lbOf vs as) G' H' v r → Φ r c' → Q v H') ∧
  (∀ c pl c' G' H' dd, PostR K G0 H0 (lbOf vs as) G' H' c' → PlOk K G' H' dd pl → R c pl c' → E (.ref (He.ga K c)) dd H')
abbrev FnV (P : Program) (w : World) (K : PySem.W.Frag) (mg : Str → Option Value) (base : Heap) (k : Nat) (f : Addr) (fd : FuncData) (ps : List Str) (sp : SpD) : Prop :=
  FnOk P w K mg base (L2.CX P w) k f fd ps (liftSp K ps.length sp)

/-- the place of the borrowed argument -/
def bsOf : List AD → Option Nat
  | [] => none
  | .ow _ :: _ => some 0
  | .im _ :: as => (bsOf as).map (· + 1)
def bcOf (bs : Option Nat) (Γ : Gm) : Option Cl := bs.bind fun i => match Γ.sl[i]? with
  | some (.ow c) => some c
  | _ => none
def startL (n : Nat) (as : List AD) : List SD := as.map AD.sd ++ List.replicate (n - as.length) SD.un
def startG (n : Nat) (as : List AD) : Gm := ⟨startL n as, [], []⟩
/-- no two cells -/
def oneOw (as : List AD) : Prop := ∀ (i j : Nat) c c', as[i]? = some (.ow c) → as[j]? = some (.ow c') → i = j
/-- a def's body as what it does -/
def bodySp (n : Nat) (bs : Option Nat) (T : TSD) : SpD := fun as Φ R => as.length ≤ n ∧ bsOf as = bs ∧ oneOw as ∧
  T (fun c pl Γ => R c pl (bcOf bs Γ)) { nx := fun Γ => Φ (.im .non) (bcOf bs Γ), rt := fun r Γ => r.nwp fun r => Φ r (bcOf bs Γ), bk := fun _ => False, ct := fun _ => False } (startG n as)

section
variable {K : PySem.W.Frag} {G H : Hp}
theorem AsOk.length : ∀ {vs : List V} {as : List AD}, AsOk K G H vs as → vs.length = as.length
  | _, _, .nil => rfl
  | _, _, .cons _ t => congrArg (· + 1) t.length
theorem AsOk.get : ∀ {vs : List V} {as : List AD} {i : Nat} {a : AD}, AsOk K G H vs as → as[i]? = some a → ∃ v, vs[i]? = some v ∧ AOk K G H v a
  | _, _, _, _, .nil, e => by simp at e
  | _, _, 0, a, .cons h t, e => ⟨_, rfl, by simp at e; subst e; exact h⟩
  | _, _, i + 1, a, .cons h t, e => by
    obtain ⟨v, q, r⟩ := t.get (i := i) (a := a) (by simpa using e)
    exact ⟨v, by simpa using q, r⟩
theorem lbOf_of : ∀ {vs : List V} {as : List AD}, AsOk K G H vs as → ∀ i, bsOf as = some i → ∃ l c, lbOf vs as = some l ∧ as[i]? = some (.ow c) ∧ vs[i]? = some (.ref l)
  | _, _, .nil, i, e => by cases e
  | _, _, .cons (v := v) (a := .ow c) ⟨l, o, e1, _⟩ t, i, e => by
    cases e
    subst e1
    exact ⟨l, c, rfl, rfl, rfl⟩
  | _, _, .cons (v := v) (a := .im d) h t, i, e => by
    obtain ⟨j, e1, e2⟩ := Option.map_eq_some_iff.mp (show (bsOf _).map (· + 1) = some i from e)
    subst e2
    obtain ⟨l, c, h1, h2, h3⟩ := lbOf_of t j e1
    refine ⟨l, c, ?_, by simpa using h2, by simpa using h3⟩
    cases v <;> exact h1
theorem lbOf_none : ∀ {vs : List V} {as : List AD}, AsOk K G H vs as → bsOf as = none → lbOf vs as = none
  | _, _, .nil, _ => rfl
  | _, _, .cons (v := v) (a := .ow c) h t, e => by cases e
  | _, _, .cons (v := v) (a := .im d) h t, e => by
    have e1 := Option.map_eq_none_iff.mp (show (bsOf _).map (· + 1) = none from e)
    have := lbOf_none t e1
    cases v <;> exact this
theorem bsOf_ow : ∀ {as : List AD} {i : Nat}, bsOf as = some i → ∃ c, as[i]? = some (.ow c)
  | .ow c :: _, i, e => by cases e; exact ⟨c, rfl⟩
  | .im _ :: as, i, e => by
    obtain ⟨j, e1, e2⟩ := Option.map_eq_some_iff.mp (show (bsOf as).map (· + 1) = some i from e)
    subst e2
    obtain ⟨c, h⟩ := bsOf_ow e1
    exact ⟨c, by simpa using h⟩
end
/-- the environment at a def's entry -/
theorem start_env {K : PySem.W.Frag} {G H : Hp} {vs : List V} {as : List AD} {N : List Str} {bs : Option Nat} (s : Same G H) (a : AsOk K G H vs as) (hl : as.length ≤ N.length) (hb : bsOf as = bs) (h1 : oneOw as) :
    EnvOk K ⟨G, H, bs.bind fun i => (lbOf vs as).map fun l => (i, l), []⟩ G H (L2.start N vs) (startG N.length as) := by
  have hvl := a.length
  have fs : ∀ (i : Nat) x, (startG N.length as).sl[i]? = some x → x = .un ∨ ∃ y, as[i]? = some y ∧ x = y.sd := fun i x q => by
    replace q : (startL N.length as)[i]? = some x := q
    unfold startL at q
    by_cases hi : i < as.length
    · rw [List.getElem?_append_left (by simpa using hi), List.getElem?_map] at q
      cases e : as[i]? with
      | none => rw [e] at q; cases q
      | some y => rw [e] at q; cases q; exact .inr ⟨y, rfl, rfl⟩
    · rw [List.getElem?_append_right (by simpa using Nat.le_of_not_lt hi), List.getElem?_replicate] at q
      split at q
      · cases q; exact .inl rfl
      · cases q
  have fv : ∀ (i : Nat) v, vs[i]? = some v → (L2.start N vs)[i]? = some (some v) := fun i v q => by
    have hi : i < vs.length := (List.getElem?_eq_some_iff.mp q).1
    unfold L2.start
    rw [List.getElem?_append_left (by simpa using hi), List.getElem?_map, q]
    rfl
  have fi : ∀ (i : Nat) d, (startG N.length as).sl[i]? = some (.im d) → as[i]? = some (.im d) := fun i d q => by
    rcases fs i _ q with z | ⟨y, z1, z2⟩
    · cases z
    · cases y with
      | im d2 => cases z2; exact z1
      | ow c => cases z2
  have fo : ∀ (i : Nat) c, (startG N.length as).sl[i]? = some (.ow c) → as[i]? = some (.ow c) := fun i c q => by
    rcases fs i _ q with z | ⟨y, z1, z2⟩
    · cases z
    · cases y with
      | im d2 => cases z2
      | ow c2 => cases z2; exact z1
  have fb : ∀ (i : Nat) c, as[i]? = some (.ow c) → bs = some i := fun i c q => by
    cases e : bs with
    | none =>
      rw [e] at hb
      exfalso
      clear hvl fs fv fi fo h1 hl a s
      induction as generalizing i with
      | nil => simp at q
      | cons x xs ih =>
        cases x with
        | ow c2 => cases hb
        | im d =>
          cases i with
          | zero => simp at q
          | succ i => exact ih (Option.map_eq_none_iff.mp (show (bsOf xs).map (· + 1) = none from hb)) i (by simpa using q)
    | some j =>
      rw [e] at hb
      obtain ⟨c2, q2⟩ := bsOf_ow hb
      rw [h1 j i c2 c q2 q]
  refine ⟨?_, s, Same.refl _, fun a o q => .inl q, fun a o q _ _ => q, fun i d q => ?_, fun i c q => ?_, fun i j c c' l q1 q2 _ _ => h1 i j c c' (fo i c q1) (fo j c' q2), fun i l q => ?_, rfl, .nil, ⟨[], rfl⟩, fun n a c q => (by cases q), fun i n q => ?_, fun i c a _ _ z => (by cases z)⟩
  · show (startL N.length as).length = _
    unfold startL L2.start
    simp only [List.length_append, List.length_map, List.length_replicate]
    omega
  · obtain ⟨v, q1, q2⟩ := a.get (fi i d q)
    exact ⟨v, fv i v q1, q2⟩
  · obtain ⟨v, q1, l, o, q2, q3, q4, q5⟩ := a.get (fo i c q)
    subst q2
    refine ⟨l, o, fv i _ q1, q3, q4, q5, .inr ?_⟩
    have e := fb i c (fo i c q)
    subst e
    obtain ⟨l2, c2, z1, _, z3⟩ := lbOf_of a i hb
    rw [q1] at z3
    cases z3
    show (some i).bind (fun i => (lbOf vs as).map fun l => (i, l)) = some (i, l)
    rw [z1]
    rfl
  · obtain ⟨j, z1, z2⟩ := Option.bind_eq_some_iff.mp q
    obtain ⟨l2, z3, z4⟩ := Option.map_eq_some_iff.mp z2
    cases z4
    rw [z1] at hb
    obtain ⟨l3, c, w1, w2, w3⟩ := lbOf_of a i hb
    rw [w1] at z3
    cases z3
    refine ⟨fv i _ w3, c, ?_⟩
    have hi : i < as.length := (List.getElem?_eq_some_iff.mp w2).1
    show (startL N.length as)[i]? = _
    unfold startL
    rw [List.getElem?_append_left (by simpa using hi), List.getElem?_map, w2]
    rfl
  · rcases fs i _ q with z | ⟨y, z1, z2⟩
    · cases z
    · cases y <;> cases z2
theorem env_post {K : PySem.W.Frag} {G H G' H' : Hp} {vs : List V} {as : List AD} {bs : Option Nat} {σ : L2.St} {Γ : Gm} (a : AsOk K G H vs as) (hb : bsOf as = bs)
    (e : EnvOk K ⟨G, H, bs.bind fun i => (lbOf vs as).map fun l => (i, l), []⟩ G' H' σ Γ) : PostR K G H (lbOf vs as) G' H' (bcOf bs Γ) := by
  refine ⟨e.g0, e.gh, e.gn, fun x o q n => e.fr x o q (fun i z => ?_) (fun z => by cases z), fun l q => ?_⟩
  · obtain ⟨j, z1, z2⟩ := Option.bind_eq_some_iff.mp z
    obtain ⟨l2, z3, z4⟩ := Option.map_eq_some_iff.mp z2
    cases z4
    exact n z3
  · cases e1 : bs with
    | none =>
      rw [e1] at hb
      rw [lbOf_none a hb] at q
      cases q
    | some i =>
      have z : (⟨G, H, bs.bind fun i => (lbOf vs as).map fun l => (i, l), []⟩ : Bs).bo = some (i, l) := by
        show bs.bind (fun i => (lbOf vs as).map fun l => (i, l)) = some (i, l)
        rw [e1, q]
        rfl
      obtain ⟨w1, c, w2⟩ := e.bo i l z
      obtain ⟨l2, o, w3, w4, w5, w6, _⟩ := e.ow i c w2
      rw [w1] at w3
      cases w3
      exact ⟨c, o, by show (some i).bind _ = _; simp [w2], w4, w5, w6⟩

section
variable {P : Program} {w : World} {K : PySem.W.Frag} {mg : Str → Option Value} {base : Heap}
/-- THE RULE for a def by values: its body's reading T -/
theorem Fun.okV {x qual : Str} {st : Stmt} {f : Addr} {fd : FuncData} {N ps : List Str} {k : Nat} {dv : List V} {kw : List (Str × V)} {T : TSD} (bs : Option Nat) (F : FunD K x qual (defArgs st) (defBody st) (defScope st) dv kw f fd) (S : FnScope N ps (defScope st)) (hn : ps.length ≤ N.length)
    (hbody : ∀ (cdv : Value) (A : Around) (outer : List Env) (s : Shared) (H : Hp) (E : XK), Room k (A.deeper (envOfC qual (defScope st) s.heap.objs.size f cdv)) →
      PFSs (cxOf (L2.CX P w) P w K mg base N qual (defScope st) f cdv A outer s H E) (TkS (cxOf (L2.CX P w) P w K mg base N qual (defScope st) f cdv A outer s H E) bs) (defBody st) T) :
    FnV P w K mg base (k + 1) f fd ps (bodySp N.length bs T) := by
  obtain ⟨oc, od, dV, kV, doc, pm, an, cdv, ct, osl, rfl, lk, hcd, _, _⟩ := F.ex
  refine fn_of lk hcd S (fun vs H Q E ⟨_, _, _, _, h, _⟩ => h) fun A outer s H vs Q E hr hsp => ?_
  obtain ⟨G0, as, Φ, R, hl, sm, hA, ⟨h1, h2, h3, hT⟩, hQ, hE⟩ := hsp
  refine ⟨_, hbody cdv A outer s H E hr, ⟨G0, H, bs.bind fun i => (lbOf vs as).map fun l => (i, l), []⟩, fun c pl Γ => R c pl (bcOf bs Γ), startG N.length as, G0, _, ⟨?_, fun i l z => ?_⟩, start_env sm hA h1 h2 h3, hT, ?_⟩
  · refine Takes.imp (takes_of rfl rfl rfl rfl) fun cls d σ H' ⟨c, pl, G', Γ, e1, en, hp, hr⟩ => ?_
    subst e1
    exact hE c pl _ G' H' d (env_post hA h2 en) hp hr
  · obtain ⟨j, z1, z2⟩ := Option.bind_eq_some_iff.mp z
    obtain ⟨l2, z3, z4⟩ := Option.map_eq_some_iff.mp z2
    cases z4
    exact z1
  · refine ⟨fun σ G' H' Γ en h => hQ .non (.im .non) _ G' H' (env_post hA h2 en) .non h, fun v r σ G' H' Γ en hr h => ?_, fun _ _ _ _ _ z => z.elim, fun _ _ _ _ _ z => z.elim⟩
    cases r with
    | im d => exact hQ v (.im d) _ G' H' (env_post hA h2 en) hr h
    | fr c =>
      obtain ⟨l, o, a1, a2, a3, a4, a5, _⟩ := hr
      exact hQ v (.fr c) _ G' H' (env_post hA h2 en) ⟨l, o, a1, a2, a3, a4, a5⟩ h
    | fl pre c =>
      obtain ⟨p, l, o, xs, a1, a2, a3, a4, a5, a6, a7, a8, _⟩ := hr
      exact hQ v (.fl pre c) _ G' H' (env_post hA h2 en) ⟨p, l, o, xs, a1, a2, a3, a4, a5, a6, a7, a8⟩ h
end
end Vl

namespace Vl
open PySem PySem.Spec PyProof.Rows L2

/-! ### calls of defs -/
section
variable {K : PySem.W.Frag} {B : Bs} {σ : L2.St} {G H G' H' : Hp} {Γ : Gm} {c' : Option Cl}
theorem PostR.ext (p : PostR K G H none G' H' c') : Ext G H G' H' := ⟨p.gg, fun a o q => p.hh a o q (fun z => nomatch z), p.gh, p.gn⟩
theorem EnvOk.postB (e : EnvOk K B G H σ Γ) {i : Nat} {l : Addr} {c c1 : Cl} {o : HO} (hΓ : Γ.sl[i]? = some (.ow c)) (hσ : σ[i]? = some (some (.ref l))) (p : PostR K G H (some l) G' H' c') (hl : G' l = none) (ho : H' l = some o) (hc : ClOk K G' o c1) :
    EvP K B σ G H Γ G' H' (Γ.set i (.ow c1)) := by
  have hi : i < Γ.sl.length := (List.getElem?_eq_some_iff.mp hΓ).1
  obtain ⟨l1, o1, a1, a2, a3, a4, a5⟩ := e.ow i c hΓ
  rw [hσ] at a1
  cases a1
  have nl : l ∉ Γ.as := e.wd.sp i c l hΓ hσ
  have f : ∀ (m : Nat) (d : Cl), (Γ.set i (.ow c1)).sl[m]? = some (.ow d) → ∃ d0, Γ.sl[m]? = some (.ow d0) := fun m d q => by
    rcases gset_at q with ⟨z, _, _⟩ | ⟨_, z⟩
    · subst z; exact ⟨c, hΓ⟩
    · exact ⟨d, z⟩
  have gnw : ∀ x o2, G x = none → H x = some o2 → G' x = none := fun x o2 b2 b3 => by
    cases w : G' x with
    | none => rfl
    | some u =>
      rcases p.gn x u w with w | w
      · rw [b2] at w; cases w
      · rw [b3] at w; cases w
  refine ⟨⟨by show (Γ.sl.set _ _).length = _; rw [List.length_set]; exact e.len, p.gh, e.g0.trans p.gg, fun a u q => ?_, fun a u q n m => ?_, fun j d q => ?_, fun j d q => ?_, fun j k d d' x q1 q2 z1 z2 => ?_, fun j x q => ?_,
    e.wd.step p.gg (fun a m g => ?_) (fun a m u q => p.hh a u q fun z => nl (by rw [Option.some.inj z]; exact m)) rfl rfl (fun j n h => ?_) (fun j d a q1 q2 => ?_) rfl fun _ _ h => .inl h⟩, p.gg, p.gn, fun a u q n m => ?_, fun j => ⟨fun ⟨d, q⟩ => ?_, fun ⟨d, q⟩ => f j d q⟩, [], by simp, fun _ h => by cases h⟩
  · rcases p.gn a u q with z | z
    · exact e.gn a u z
    · exact .inr (e.bhNone z)
  · have ne : some l ≠ some a := fun z => by
      cases z
      rcases a5 with z | z
      · rw [q] at z; cases z
      · exact n i z
    exact p.hh a u (e.fr a u q n m) ne
  · rcases gset_at q with ⟨_, _, z⟩ | ⟨_, z⟩
    · cases z
    · obtain ⟨v, v1, v2⟩ := e.im j d z
      exact ⟨v, v1, v2.mono p.gg⟩
  · rcases gset_at q with ⟨z, _, z2⟩ | ⟨z, z2⟩
    · subst z
      cases z2
      exact ⟨l, o, hσ, hl, ho, hc, a5⟩
    · obtain ⟨x, o2, b1, b2, b3, b4, b5⟩ := e.ow j d z2
      have ne : x ≠ l := fun w => z (e.sep i j c d l hΓ z2 hσ (by rw [b1, w]))
      exact ⟨x, o2, b1, gnw x o2 b2 b3, p.hh x o2 b3 (fun w => ne (Option.some.inj w).symm), b4.mono p.gg, b5⟩
  · obtain ⟨d1, y1⟩ := f j d q1
    obtain ⟨d2, y2⟩ := f k d' q2
    exact e.sep j k d1 d2 x y1 y2 z1 z2
  · obtain ⟨z1, d, z2⟩ := e.bo j x q
    refine ⟨z1, ?_⟩
    show ∃ c_1, (Γ.sl.set i (.ow c1))[j]? = some (.ow c_1)
    rw [List.getElem?_set]
    by_cases w : i = j
    · rw [if_pos w, if_pos hi]; exact ⟨c1, rfl⟩
    · rw [if_neg w]; exact ⟨d, z2⟩
  · obtain ⟨_, ⟨o2, ho2⟩, _⟩ := e.wd.at m
    exact gnw a o2 g ho2
  · rcases gset_at h with ⟨_, _, z⟩ | ⟨_, z⟩
    · cases z
    · exact ⟨z, fun _ y => y⟩
  · obtain ⟨d0, z⟩ := f j d q1
    exact e.wd.sp j d0 a z q2
  · exact p.hh a u q fun z => n i c hΓ (by rw [hσ, Option.some.inj z])
  · show ∃ c_1, (Γ.sl.set i (.ow c1))[j]? = some (.ow c_1)
    rw [List.getElem?_set]
    by_cases w : i = j
    · rw [if_pos w, if_pos hi]; exact ⟨c1, rfl⟩
    · rw [if_neg w]; exact ⟨d, q⟩
/-- a fresh cell frozen behind what made it -/
theorem EvP.fz2 (en : EnvOk K B G H σ Γ) {Γ1 : Gm} (p1 : EvP K B σ G H Γ G' H' Γ1) {v : V} {c : Cl} (f : FrOk K H G' H' Γ1.as v c) : ∃ G2, EvP K B σ G H Γ G2 H' Γ1 ∧ Rep K G2 v c.d ∧ Same G' G2 := by
  obtain ⟨l, o, e1, g1, h1, c1, f1, na⟩ := f
  subst e1
  have n2 : ∀ (i : Nat) c, Γ1.sl[i]? = some (.ow c) → σ[i]? ≠ some (some (.ref l)) := fun i c q => by
    obtain ⟨c', q'⟩ := (p1.sh i).mpr ⟨c, q⟩
    exact en.noOw f1 i c' q'
  have en2 := p1.env.freeze h1 g1 (en.bhNone f1) n2 na
  have s1 : Same G' (upd G' l o) := fun a u q => by rw [upd_ne (ne_of_none q g1)]; exact q
  refine ⟨upd G' l o, ⟨en2, p1.gg.trans s1, fun a u q => ?_, p1.hh, p1.sh, p1.as⟩, (c1.mono s1).rep upd_same, s1⟩
  by_cases z : a = l
  · subst z; exact .inr f1
  · rw [upd_ne z] at q; exact p1.gn a u q
theorem EvP.fz (en : EnvOk K B G H σ Γ) {Γ1 : Gm} (p1 : EvP K B σ G H Γ G' H' Γ1) {v : V} {c : Cl} (f : FrOk K H G' H' Γ1.as v c) : ∃ G2, EvP K B σ G H Γ G2 H' Γ1 ∧ Rep K G2 v c.d := by
  obtain ⟨G2, a, b, _⟩ := EvP.fz2 en p1 f
  exact ⟨G2, a, b⟩
theorem AsOk.ims : ∀ {vs : List V} {ds : List D}, Reps K G vs ds → AsOk K G H vs (ds.map .im)
  | _, _, .nil => .nil
  | _, _, .cons h t => .cons h (AsOk.ims t)
theorem lb_ims : ∀ {vs : List V} {ds : List D}, lbOf vs (ds.map .im) = none
  | [], [] => rfl
  | [], _ :: _ => rfl
  | v :: vs, [] => by cases v <;> rfl
  | v :: vs, _ :: ds => by
    have h := lb_ims (vs := vs) (ds := ds)
    cases v <;> exact h
end
theorem AsOk.ims' {K : PySem.W.Frag} {G H : Hp} {vs : List V} {ds : List D} (r : Reps K G vs ds) : AsOk K G H vs (ds.map .im) := AsOk.ims r

def tCallD (n : Nat) (sp : SpD) (U : TAD) : TF := fun R Γ Φ => U R Γ fun ds Γ' => ds.length = n ∧ sp (ds.map .im) (fun r _ => Φ r.d Γ') (fun c pl _ => R c pl Γ')
def tCallO (n : Nat) (sp : SpD) (U : TAD) : TOD := fun R Γ Φ => U R Γ fun ds Γ' => ds.length = n ∧ sp (ds.map .im) (fun r _ => match r with
  | .fr c => Φ c Γ'
  | _ => False) (fun c pl _ => R c pl Γ')
/-- the arguments of a call that borrows the cell of a slot -/
inductive BD where
  | im (d : D) | sl
def BD.ad (c : Cl) : BD → AD
  | .im d => .im d
  | .sl => .ow c
abbrev TBD := ExD → Gm → (List BD → Gm → Prop) → Prop
inductive BOk (K : PySem.W.Frag) (G : Hp) (x : Option (Option V)) : List V → List BD → Prop
  | nil : BOk K G x [] []
  | im {v : V} {d : D} {vs : List V} {bs : List BD} (h : Rep K G v d) (t : BOk K G x vs bs) : BOk K G x (v :: vs) (.im d :: bs)
  | sl {v : V} {vs : List V} {bs : List BD} (h : x = some (some v)) (t : BOk K G x vs bs) : BOk K G x (v :: vs) (.sl :: bs)
def lB (K : PySem.W.Frag) (tk : Tk) (i : Nat) (T : TBD) : TA := fun σ H Q => ∃ (B : Bs) (R : ExD) (Γ : Gm) (G : Hp) (Φ : List BD → Gm → Prop), tk B R ∧ EnvOk K B G H σ Γ ∧ T R Γ Φ ∧
  ∀ vs G' H' Γ' bs, EvP K B σ G H Γ G' H' Γ' → BOk K G' σ[i]? vs bs → Φ bs Γ' → Q vs H'
def PFB (X : Cx) (tk : Tk) (i : Nat) (es : List Expr) (T : TBD) : Prop := PA X es (lB X.K tk i T)
def tNilB : TBD := fun _ Γ Φ => Φ [] Γ
def tImB (T : TF) (U : TBD) : TBD := fun R Γ Φ => T R Γ fun d Γ1 => U R Γ1 fun bs Γ2 => Φ (.im d :: bs) Γ2
def tSlB (i : Nat) (U : TBD) : TBD := fun R Γ Φ => match Γ.sl[i]? with
  | some (.ow _) => U R Γ fun bs Γ2 => Φ (.sl :: bs) Γ2
  | _ => False
theorem BOk.mono {K : PySem.W.Frag} {G G' : Hp} {x : Option (Option V)} (s : Same G G') : ∀ {vs : List V} {bs : List BD}, BOk K G x vs bs → BOk K G' x vs bs
  | _, _, .nil => .nil
  | _, _, .im h t => .im (h.mono s) (t.mono s)
  | _, _, .sl h t => .sl h (t.mono s)
theorem BOk.as {K : PySem.W.Frag} {G H : Hp} {l : Addr} {c : Cl} {o : HO} (g : G l = none) (h : H l = some o) (r : ClOk K G o c) : ∀ {vs : List V} {bs : List BD}, BOk K G (some (some (.ref l))) vs bs → AsOk K G H vs (bs.map (BD.ad c))
  | _, _, .nil => .nil
  | _, _, .im h1 t => .cons h1 (t.as g h r)
  | _, _, .sl h1 t => by
    cases h1
    exact .cons ⟨l, o, rfl, g, h, r⟩ (t.as g h r)
def hasSl : List BD → Bool
  | [] => false
  | .sl :: _ => true
  | .im _ :: r => hasSl r
theorem BOk.lb {K : PySem.W.Frag} {G : Hp} {l : Addr} {c : Cl} : ∀ {vs : List V} {bs : List BD}, BOk K G (some (some (.ref l))) vs bs → hasSl bs = true → lbOf vs (bs.map (BD.ad c)) = some l
  | _, _, .nil, h => by cases h
  | _, _, .im (v := v) h1 t, h => by
    have := t.lb (c := c) h
    cases v <;> exact this
  | _, _, .sl h1 t, h => by cases h1; rfl
theorem BOk.length {K : PySem.W.Frag} {G : Hp} {x : Option (Option V)} : ∀ {vs : List V} {bs : List BD}, BOk K G x vs bs → vs.length = bs.length
  | _, _, .nil => rfl
  | _, _, .im _ t => congrArg (· + 1) t.length
  | _, _, .sl _ t => congrArg (· + 1) t.length
def tCallB (n i : Nat) (sp : SpD) (U : TBD) : TF := fun R Γ Φ => U R Γ fun bs Γ' => match Γ'.sl[i]? with
  | some (.ow c) => bs.length = n ∧ hasSl bs = true ∧ sp (bs.map (BD.ad c)) (fun r c' => match c' with
    | some c' => Φ r.d (Γ'.set i (.ow c'))
    | none => False) (fun nm pl c' => match c' with
    | some c' => R nm pl (Γ'.set i (.ow c'))
    | none => False)
  | _ => False
def tCallBO (n i : Nat) (sp : SpD) (U : TBD) : TOD := fun R Γ Φ => U R Γ fun bs Γ' => match Γ'.sl[i]? with
  | some (.ow c) => bs.length = n ∧ hasSl bs = true ∧ sp (bs.map (BD.ad c)) (fun r c' => match r, c' with
    | .fr d, some c' => Φ d (Γ'.set i (.ow c'))
    | _, _ => False) (fun nm pl c' => match c' with
    | some c' => R nm pl (Γ'.set i (.ow c'))
    | none => False)
  | _ => False
/-- what a call leaves, in one -/
theorem call_im {K : PySem.W.Frag} {tk : Tk} {X : Cx} {B : Bs} {R : ExD} {σ : L2.St} {G H : Hp} {Γ : Gm} {n : Nat} {sp : SpD} {vs : List V} {ds : List D} {Φ : RD → Gm → Prop} {Q : VK} (en : EnvOk K B G H σ Γ) (r : Reps K G vs ds)
    (h : ds.length = n ∧ sp (ds.map .im) (fun r _ => Φ r Γ) (fun c pl _ => R c pl Γ)) (k : ∀ v r G' H', EvP K B σ G H Γ G' H' Γ → RetR K H none G' H' v r → Φ r Γ → Q v H') : liftSp K n sp vs H Q (WE (ExOk K B R) σ) := by
  refine ⟨G, ds.map .im, _, _, r.length.trans h.1, en.gh, AsOk.ims' r, h.2, fun v r c' G' H' p q hr => ?_, fun c pl c' G' H' dd p q hr => ?_⟩
  · rw [lb_ims] at p q
    exact k v r G' H' (en.ext p.ext) q hr
  · rw [lb_ims] at p
    exact ⟨c, pl, G', Γ, rfl, (en.ext p.ext).env, q, hr⟩
theorem call_bo {K : PySem.W.Frag} {X : Cx} {B : Bs} {R : ExD} {σ : L2.St} {G H : Hp} {Γ : Gm} {n i : Nat} {sp : SpD} {vs : List V} {bs : List BD} {c : Cl} {Φ : RD → Gm → Prop} {Q : VK} (en : EnvOk K B G H σ Γ) (r : BOk K G σ[i]? vs bs) (hΓ : Γ.sl[i]? = some (.ow c))
    (h : bs.length = n ∧ hasSl bs = true ∧ sp (bs.map (BD.ad c)) (fun r c' => match c' with
      | some c' => Φ r (Γ.set i (.ow c'))
      | none => False) (fun nm pl c' => match c' with
      | some c' => R nm pl (Γ.set i (.ow c'))
      | none => False)) (k : ∀ v r G' H' Γ', EvP K B σ G H Γ G' H' Γ' → Γ'.as = Γ.as → RetR K H none G' H' v r → Φ r Γ' → Q v H') : liftSp K n sp vs H Q (WE (ExOk K B R) σ) := by
  obtain ⟨l, o, a1, a2, a3, a4, a5⟩ := en.ow i c hΓ
  rw [a1] at r
  have lb := r.lb (c := c) h.2.1
  refine ⟨G, bs.map (BD.ad c), _, _, r.length.trans h.1, en.gh, r.as a2 a3 a4, h.2.2, fun v r c' G' H' p q hr => ?_, fun nm pl c' G' H' dd p q hr => ?_⟩
  · rw [lb] at p q
    obtain ⟨c1, o1, e1, b1, b2, b3⟩ := p.bo l rfl
    subst e1
    exact k v r G' H' _ (en.postB hΓ a1 p b1 b2 b3) rfl (by cases r <;> exact q) hr
  · rw [lb] at p
    obtain ⟨c1, o1, e1, b1, b2, b3⟩ := p.bo l rfl
    subst e1
    exact ⟨nm, pl, G', _, rfl, (en.postB hΓ a1 p b1 b2 b3).env, q, hr⟩
theorem ret_fr {K : PySem.W.Frag} {B : Bs} {σ : L2.St} {G H G' H' : Hp} {Γ Γ' : Gm} {v : V} {r : RD} (en : EnvOk K B G H σ Γ) (p : EvP K B σ G H Γ G' H' Γ') (ea : Γ'.as = Γ.as) (q : RetR K H none G' H' v r) : ∃ G2, EvP K B σ G H Γ G2 H' Γ' ∧ Rep K G2 v r.d := by
  cases r with
  | im d => exact ⟨G', p, q⟩
  | fr c =>
    obtain ⟨l, o, a1, a2, a3, a4, a5⟩ := q
    exact EvP.fz en p ⟨l, o, a1, a2, a3, a4, a5, by rw [ea]; exact en.wd.out a5⟩
  | fl pre c =>
    obtain ⟨p0, l, o, xs, a1, a2, a3, a4, a5, a6, a7, a8⟩ := q
    subst a1
    obtain ⟨G2, b1, b2, b3⟩ := EvP.fz2 (v := .ref l) en p ⟨l, o, rfl, a5, a6, a7, a8, by rw [ea]; exact en.wd.out a8⟩
    exact ⟨G2, b1, .lst (b3 _ _ a2) (by rw [List.length_append]; exact a3) ((a4.mono b3).append (.cons b2 .nil))⟩

section
variable {X : Cx} {tk : Tk} {k i : Nat} {f : Addr} {fd : FuncData} {ps : List Str} {sp : SpD} {x : Str} {p pos : Pos} {e : Expr} {es : List Expr} {U : TAD} {W : TBD} {T : TF}
theorem pe_callG {t : TA} {sp : Sp} (F : FnOk X.prog X.w X.K X.mg X.base (L2.CX X.prog X.w) k f fd ps sp) (hr : Room k X.A) (hg : Gl X x) (hm : X.mg x = some (.ref f)) (hk : PySem.W.keepIn X.K (.ref f) = true) (hb : Binds X.K fd ps [])
    (ha : PA X (e :: es) t) (hdb : (x == ("__debug__" : Str)) = false) (he : starEach (e :: es) X.env = (false, eval e X.env) :: starEach es X.env) (hpl : (backTo pos (starEach es X.env)).any (·.1) = false) :
    PE X (.Call (.Name x p) (e :: es) [] pos) (fun σ H Q => t σ H fun vs H1 => ∃ W : WX, Takes X W ∧ sp vs H1 Q (WE W σ)) :=
  ⟨fun pins s σ H Q I h => wpAny_Call_Name_kw (ld_glob I hg hm (PySem.W.callWith_K (h₀ := X.base) I.ok.mod.kin hk (thn (ha.run pos pins s σ H _ I h) fun us s1 ⟨vs, H1, I1, r, W, tw, q⟩ => ⟨I1.kIn, run_fnS (E := WE W) F hr hb (passAt tw σ) I1 r q⟩) he hpl) hdb)⟩
theorem pe_callG0 {sp : Sp} (F : FnOk X.prog X.w X.K X.mg X.base (L2.CX X.prog X.w) k f fd ps sp) (hr : Room k X.A) (hg : Gl X x) (hm : X.mg x = some (.ref f)) (hk : PySem.W.keepIn X.K (.ref f) = true) (hb : Binds X.K fd ps []) (hdb : (x == ("__debug__" : Str)) = false) :
    PE X (.Call (.Name x p) [] [] pos) (fun σ H Q => ∃ W : WX, Takes X W ∧ sp [] H Q (WE W σ)) :=
  ⟨fun pins s σ H Q I ⟨W, tw, q⟩ => wpAny_Call_Name_kw (ld_glob I hg hm (PySem.W.callWith_K0 I.kIn hk (run_fnS (E := WE W) (us := []) F hr hb (passAt tw σ) I .nil q)) hdb)⟩
/-- the wishes are taken -/
def TkOk (X : Cx) (tk : Tk) : Prop := ∀ B R, tk B R → TkD X B R
theorem tkS_ok {bs : Option Nat} : TkOk X (TkS X bs) := fun _ _ h => h.1
theorem tk0_Ok : TkOk X Tk0 := fun _ _ h => tk0_ok h
theorem pf_call (F : FnV X.prog X.w X.K X.mg X.base k f fd ps sp) (tw : TkOk X tk) (hr : Room k X.A) (hm : X.mg x = some (.ref f)) (hk : PySem.W.keepIn X.K (.ref f) = true) (hb : Binds X.K fd ps []) (ha : PFA X tk (e :: es) U) (hg : Gl X x := by rfl)
    (hdb : (x == ("__debug__" : Str)) = false := by decide) (he : starEach (e :: es) X.env = (false, eval e X.env) :: starEach es X.env := by rfl) (hpl : (backTo pos (starEach es X.env)).any (·.1) = false := by rfl) : PF X tk (.Call (.Name x p) (e :: es) [] pos) (tCallD ps.length sp U) :=
  pe_imp (pe_callG F hr hg hm hk hb ha hdb he hpl) fun σ H Q ⟨B, R, Γ, G, Φ, t, en, h, kk⟩ => ⟨B, R, Γ, G, _, t, en, h, fun vs G1 H1 Γ1 ds p1 r1 h1 => ⟨ExOk X.K B R, tw B R t, call_im (tk := tk) (X := X) (Φ := fun r Γ => Φ r.d Γ) p1.env r1 h1 fun v r G' H' p2 q hr => by
    obtain ⟨G2, p3, r3⟩ := ret_fr p1.env p2 rfl q
    exact kk v G2 H' Γ1 _ (p1.trans p3) r3 hr⟩⟩
theorem po_call (F : FnV X.prog X.w X.K X.mg X.base k f fd ps sp) (tw : TkOk X tk) (hr : Room k X.A) (hm : X.mg x = some (.ref f)) (hk : PySem.W.keepIn X.K (.ref f) = true) (hb : Binds X.K fd ps []) (ha : PFA X tk (e :: es) U) (hg : Gl X x := by rfl)
    (hdb : (x == ("__debug__" : Str)) = false := by decide) (he : starEach (e :: es) X.env = (false, eval e X.env) :: starEach es X.env := by rfl) (hpl : (backTo pos (starEach es X.env)).any (·.1) = false := by rfl) : PFO X tk (.Call (.Name x p) (e :: es) [] pos) (tCallO ps.length sp U) :=
  pe_imp (pe_callG F hr hg hm hk hb ha hdb he hpl) fun σ H Q ⟨B, R, Γ, G, Φ, t, en, h, kk⟩ => ⟨B, R, Γ, G, _, t, en, h, fun vs G1 H1 Γ1 ds p1 r1 h1 => ⟨ExOk X.K B R, tw B R t, call_im (tk := tk) (X := X) (Φ := fun r Γ => match r with
    | .fr c => Φ c Γ
    | _ => False) p1.env r1 h1 fun v r G' H' p2 q hr => by
    cases r with
    | im d => exact hr.elim
    | fr c =>
      obtain ⟨l, o, a1, a2, a3, a4, a5⟩ := q
      exact kk v G' H' Γ1 c (p1.trans p2) ⟨l, o, a1, a2, a3, a4, p1.back a5, p1.env.wd.out a5⟩ hr
    | fl pre c => exact hr.elim⟩⟩
/-! borrowing -/
theorem pfb_nil : PFB X tk i [] tNilB := pa_imp pa_nil fun σ H Q ⟨B, R, Γ, G, Φ, t, en, h, k⟩ => k [] G H Γ [] (EvP.refl en) .nil h
theorem pfb_im (ha : PF X tk e T) (hr : PFB X tk i es W) (hs : starEach (e :: es) X.env = (false, eval e X.env) :: starEach es X.env := by rfl) : PFB X tk i (e :: es) (tImB T W) :=
  pa_imp (pa_cons ha hr hs) fun σ H Q ⟨B, R, Γ, G, Φ, t, en, h, k⟩ => ⟨B, R, Γ, G, _, t, en, h, fun v G1 H1 Γ1 d p1 r1 h1 => ⟨B, R, Γ1, G1, _, t, p1.env, h1, fun vs G2 H2 Γ2 bs p2 r2 h2 =>
    k (v :: vs) G2 H2 Γ2 (.im d :: bs) (p1.trans p2) (.im (r1.mono p2.gg) r2) h2⟩⟩
theorem pfb_sl (i : Nat) {y : Str} {px : Pos} (hr : PFB X tk i es W) (hN : X.N[i]? = some y := by rfl) (hx : Vis X.env.scope y := by first | exact Or.inl rfl | exact Or.inr (Or.inl rfl) | exact Or.inr (Or.inr rfl)) (hd : (y == ("__debug__" : Str)) = false := by decide) (hcd : (y == ("__classdict__" : Str)) = false := by decide)
    (hs : starEach (.Name y px :: es) X.env = (false, eval (.Name y px) X.env) :: starEach es X.env := by rfl) : PFB X tk i (.Name y px :: es) (tSlB i W) :=
  pa_imp (pa_cons (pe_var hN hx hd hcd) hr hs) fun σ H Q ⟨B, R, Γ, G, Φ, t, en, h, k⟩ => by
    unfold tSlB at h
    split at h
    · rename_i c q
      obtain ⟨l, o, a1, _⟩ := en.ow i _ q
      exact ⟨.ref l, a1, B, R, Γ, G, _, t, en, h, fun vs G2 H2 Γ2 bs p2 r2 h2 => k (.ref l :: vs) G2 H2 Γ2 (.sl :: bs) p2 (.sl a1 r2) h2⟩
    · exact h.elim
theorem pf_callBo (i : Nat) (F : FnV X.prog X.w X.K X.mg X.base k f fd ps sp) (tw : TkOk X tk) (hr : Room k X.A) (hm : X.mg x = some (.ref f)) (hk : PySem.W.keepIn X.K (.ref f) = true) (hb : Binds X.K fd ps []) (ha : PFB X tk i (e :: es) W) (hg : Gl X x := by rfl)
    (hdb : (x == ("__debug__" : Str)) = false := by decide) (he : starEach (e :: es) X.env = (false, eval e X.env) :: starEach es X.env := by rfl) (hpl : (backTo pos (starEach es X.env)).any (·.1) = false := by rfl) : PF X tk (.Call (.Name x p) (e :: es) [] pos) (tCallB ps.length i sp W) :=
  pe_imp (pe_callG F hr hg hm hk hb ha hdb he hpl) fun σ H Q ⟨B, R, Γ, G, Φ, t, en, h, kk⟩ => ⟨B, R, Γ, G, _, t, en, h, fun vs G1 H1 Γ1 bs p1 r1 h1 => ⟨ExOk X.K B R, tw B R t, by
    split at h1
    · rename_i c q
      exact call_bo (X := X) (Φ := fun r Γ => Φ r.d Γ) p1.env r1 q h1 fun v r G' H' Γ' p2 ea q hr => by
        obtain ⟨G2, p3, r3⟩ := ret_fr p1.env p2 ea q
        exact kk v G2 H' Γ' _ (p1.trans p3) r3 hr
    · exact h1.elim⟩⟩
theorem po_callBo (i : Nat) (F : FnV X.prog X.w X.K X.mg X.base k f fd ps sp) (tw : TkOk X tk) (hr : Room k X.A) (hm : X.mg x = some (.ref f)) (hk : PySem.W.keepIn X.K (.ref f) = true) (hb : Binds X.K fd ps []) (ha : PFB X tk i (e :: es) W) (hg : Gl X x := by rfl)
    (hdb : (x == ("__debug__" : Str)) = false := by decide) (he : starEach (e :: es) X.env = (false, eval e X.env) :: starEach es X.env := by rfl) (hpl : (backTo pos (starEach es X.env)).any (·.1) = false := by rfl) : PFO X tk (.Call (.Name x p) (e :: es) [] pos) (tCallBO ps.length i sp W) :=
  pe_imp (pe_callG F hr hg hm hk hb ha hdb he hpl) fun σ H Q ⟨B, R, Γ, G, Φ, t, en, h, kk⟩ => ⟨B, R, Γ, G, _, t, en, h, fun vs G1 H1 Γ1 bs p1 r1 h1 => ⟨ExOk X.K B R, tw B R t, by
    split at h1
    · rename_i c q
      obtain ⟨h1, h2, h3⟩ := h1
      refine call_bo (X := X) (Φ := fun r Γ => match r with
        | .fr c => Φ c Γ
        | _ => False) p1.env r1 q ⟨h1, h2, ?_⟩ fun v r G' H' Γ' p2 ea q hr => ?_
      · have e1 : (fun (r : RD) (c' : Option Cl) => match r, c' with
          | .fr d, some c' => Φ d (Γ1.set i (.ow c'))
          | _, _ => False) = fun r c' => match c' with
          | some c' => (match r with
            | .fr c => Φ c (Γ1.set i (.ow c'))
            | _ => False)
          | none => False := by
          funext r c'
          cases r <;> cases c' <;> rfl
        rw [← e1]
        exact h3
      · cases r with
        | im d => exact hr.elim
        | fr c =>
          obtain ⟨l, o, a1, a2, a3, a4, a5⟩ := q
          exact kk v G' H' Γ' c (p1.trans p2) ⟨l, o, a1, a2, a3, a4, p1.back a5, by rw [ea]; exact p1.env.wd.out a5⟩ hr
        | fl pre c => exact hr.elim
    · exact h1.elim⟩⟩
end
end Vl

namespace Vl
open PySem PySem.Spec PyProof.Rows L2

section
variable {X : Cx} {tk : Tk} {a b c e : Expr} {Ta Tb Tc T : TF} {pos p : Pos} {k : Nat}
def dNeg : D → (D → Prop) → Prop
  | .int i, k => k (.int (-i))
  | _, _ => False
def tUnD (f : D → (D → Prop) → Prop) (T : TF) : TF := fun R Γ Φ => T R Γ fun d Γ' => f d fun r => Φ r Γ'
theorem pf_neg (ha : PF X tk a Ta) : PF X tk (.UnaryOp .USub a pos) (tUnD dNeg Ta) :=
  pe_imp (pe_un un_neg ha) fun σ H Q ⟨B, R, Γ, G, Φ, t, en, h, kk⟩ => ⟨B, R, Γ, G, _, t, en, h, fun v G1 H1 Γ1 d p1 r1 h1 => by
    cases r1 with
    | int i => exact ⟨i, rfl, kk _ G1 H1 Γ1 _ p1 (.int _) h1⟩
    | _ => exact h1.elim⟩
def tDictO : TOD := fun _ Γ Φ => Φ (.dct []) Γ
theorem po_dict0 : PFO X tk (.Dict [] [] pos) tDictO :=
  pe_imp pe_dnewK fun σ H Q ⟨B, R, Γ, G, Φ, t, en, h, kk⟩ q hq => kk (.ref q) G _ Γ (.dct []) (en.cell hq) ⟨q, _, rfl, en.gh.free hq, upd_same, ⟨[], rfl, Nat.zero_le _, RepK.nil⟩, hq, en.wd.out hq⟩ h
/-- a op1 b op2 c -/
def tChainD (f g : D → D → (D → Prop) → Prop) (Ta Tb Tc : TF) : TF := fun R Γ Φ => Ta R Γ fun x Γ1 => Tb R Γ1 fun y Γ2 => f x y fun z => z.asBl fun u => if u = true then Tc R Γ2 fun w Γ3 => g y w fun d => Φ d Γ3 else Φ (.bl false) Γ2
theorem pf_chain {op op' : CmpOp} {r r' : R2} {f g : D → D → (D → Prop) → Prop} (ho : OpR X (compareOp op) r) (ho' : OpR X (compareOp op') r') (hf : OpD X.K r f) (hg : OpD X.K r' g) (ha : PF X tk a Ta) (hb : PF X tk b Tb) (hc : PF X tk c Tc)
    (hm : lastMarks [op, op'] [b, c] = false := by with_unfolding_all rfl) : PF X tk (.Compare a [op, op'] [b, c] pos) (tChainD f g Ta Tb Tc) :=
  pe_imp (pe_chain ho ho' ha hb hc hm) fun σ H Q ⟨B, R, Γ, G, Φ, t, en, h, kk⟩ => ⟨B, R, Γ, G, _, t, en, h, fun v1 G1 H1 Γ1 d1 p1 r1 h1 => ⟨B, R, Γ1, G1, _, t, p1.env, h1, fun v2 G2 H2 Γ2 d2 p2 r2 h2 =>
    hf G2 H2 v1 v2 d1 d2 _ _ p2.env.gh (r1.mono p2.gg) r2 h2 fun v3 d3 G3 H3 x rd kd => by
      obtain ⟨u, e1, e2, h3⟩ := rd.asBl kd
      have p3 := p2.env.ext x
      refine ⟨u, e1, ?_⟩
      cases u with
      | false => exact iteF (kk (.bl false) G3 H3 Γ2 (.bl false) ((p1.trans p2).trans p3) (.bl false) h3)
      | true => exact iteT ⟨B, R, Γ2, G3, _, t, p3.env, h3, fun v4 G4 H4 Γ4 d4 p4 r4 h4 => hg G4 H4 v2 v4 d2 d4 _ Q p4.env.gh ((r2.mono x.gg).mono p4.gg) r4 h4 fun v5 d5 G5 H5 x5 rd5 kd5 =>
          kk v5 G5 H5 Γ4 d5 ((((p1.trans p2).trans p3).trans p4).trans (p4.env.ext x5)) rd5 kd5⟩⟩⟩
theorem pf_leLe (ha : PF X tk a Ta) (hb : PF X tk b Tb) (hc : PF X tk c Tc) (hm : lastMarks [.LtE, .LtE] [b, c] = false := by with_unfolding_all rfl) : PF X tk (.Compare a [.LtE, .LtE] [b, c] pos) (tChainD (dB fun i j => decide (i ≤ j)) (dB fun i j => decide (i ≤ j)) Ta Tb Tc) := pf_chain op_le op_le opd_B0 opd_B0 ha hb hc hm
theorem pf_leLt (ha : PF X tk a Ta) (hb : PF X tk b Tb) (hc : PF X tk c Tc) (hm : lastMarks [.LtE, .Lt] [b, c] = false := by with_unfolding_all rfl) : PF X tk (.Compare a [.LtE, .Lt] [b, c] pos) (tChainD (dB fun i j => decide (i ≤ j)) (dB fun i j => decide (i < j)) Ta Tb Tc) := pf_chain op_le op_lt opd_B0 opd_B0 ha hb hc hm
end
end Vl

namespace Vl
open PySem PySem.Spec PyProof.Rows L2

/-- a def that can be called -/
structure Callee (P : Program) (w : World) (K : PySem.W.Frag) (mg : Str → Option Value) (base : Heap) (k : Nat) (f : Addr) (ps : List Str) (sp : SpD) : Prop where
  ex : ∃ fd, FnV P w K mg base k f fd ps sp ∧ Binds K fd ps []
  kp : PySem.W.keepIn K (.ref f) = true
/-- a def of the text -/
def DefAt (K : PySem.W.Frag) (x qual : Str) (st : Stmt) (f : Addr) : Prop := ∃ fd, FunD K x qual (defArgs st) (defBody st) (defScope st) [] [] f fd
section
variable {P : Program} {w : World} {K : PySem.W.Frag} {mg : Str → Option Value} {base : Heap}
theorem FnV.of {x qual : Str} {st : Stmt} {f : Addr} {fd : FuncData} {N ps : List Str} {k : Nat} {T : TSD} (bs : Option Nat) (F : FunD K x qual (defArgs st) (defBody st) (defScope st) [] [] f fd) (S : FnScope N ps (defScope st)) (hn : ps.length ≤ N.length)
    (hbody : ∀ (f : Addr) (cdv : Value) (A : Around) (outer : List Env) (s : Shared) (H : Hp) (E : XK), Room k (A.deeper (envOfC qual (defScope st) s.heap.objs.size f cdv)) →
      PFSs (cxOf (L2.CX P w) P w K mg base N qual (defScope st) f cdv A outer s H E) (TkS (cxOf (L2.CX P w) P w K mg base N qual (defScope st) f cdv A outer s H E) bs) (defBody st) T) :
    FnV P w K mg base (k + 1) f fd ps (bodySp N.length bs T) := Fun.okV bs F S hn (hbody f)
theorem Callee.of {x qual : Str} {st : Stmt} {f : Addr} {N ps : List Str} {k : Nat} {T : TSD} (bs : Option Nat) (F : DefAt K x qual st f) (S : FnScope N ps (defScope st)) (hn : ps.length ≤ N.length)
    (hb : ∀ (kV doc pm : Value) (an : Option Addr) (cdv ct : Value) (us : List Value), us.length = ps.length → bindArgs (PySem.W.fnOf x qual (defArgs st) (defBody st) (defScope st) .none kV doc pm an cdv ct) ⟨us, []⟩ = pure (ps.zip us))
    (hbody : ∀ (f : Addr) (cdv : Value) (A : Around) (outer : List Env) (s : Shared) (H : Hp) (E : XK), Room k (A.deeper (envOfC qual (defScope st) s.heap.objs.size f cdv)) →
      PFSs (cxOf (L2.CX P w) P w K mg base N qual (defScope st) f cdv A outer s H E) (TkS (cxOf (L2.CX P w) P w K mg base N qual (defScope st) f cdv A outer s H E) bs) (defBody st) T) :
    Callee P w K mg base (k + 1) f ps (bodySp N.length bs T) := by
  obtain ⟨fd, F⟩ := F
  exact ⟨⟨fd, Fun.okV bs F S hn (hbody f), F.bindsN hb⟩, F.kp⟩
end
section
variable {X : Cx} {tk : Tk} {k j i n : Nat} {f : Addr} {ps : List Str} {sp : SpD} {x : Str} {p pos : Pos} {e : Expr} {es : List Expr} {U : TAD} {W : TBD}
theorem pf_callC (C : Callee X.prog X.w X.K X.mg X.base k f ps sp) (tw : TkOk X tk) (hr : Room j X.A) (hk : k ≤ j) (hm : X.mg x = some (.ref f)) (ha : PFA X tk (e :: es) U) (hg : Gl X x := by rfl) (hn : ps.length = n := by rfl)
    (hdb : (x == ("__debug__" : Str)) = false := by decide) (he : starEach (e :: es) X.env = (false, eval e X.env) :: starEach es X.env := by rfl) (hpl : (backTo pos (starEach es X.env)).any (·.1) = false := by rfl) : PF X tk (.Call (.Name x p) (e :: es) [] pos) (tCallD n sp U) := by
  subst hn
  obtain ⟨fd, F, hb⟩ := C.ex
  exact pf_call F tw (hr.mono hk) hm C.kp hb ha hg hdb he hpl
theorem po_callC (C : Callee X.prog X.w X.K X.mg X.base k f ps sp) (tw : TkOk X tk) (hr : Room j X.A) (hk : k ≤ j) (hm : X.mg x = some (.ref f)) (ha : PFA X tk (e :: es) U) (hg : Gl X x := by rfl) (hn : ps.length = n := by rfl)
    (hdb : (x == ("__debug__" : Str)) = false := by decide) (he : starEach (e :: es) X.env = (false, eval e X.env) :: starEach es X.env := by rfl) (hpl : (backTo pos (starEach es X.env)).any (·.1) = false := by rfl) : PFO X tk (.Call (.Name x p) (e :: es) [] pos) (tCallO n sp U) := by
  subst hn
  obtain ⟨fd, F, hb⟩ := C.ex
  exact po_call F tw (hr.mono hk) hm C.kp hb ha hg hdb he hpl
theorem pf_callBC (i : Nat) (C : Callee X.prog X.w X.K X.mg X.base k f ps sp) (tw : TkOk X tk) (hr : Room j X.A) (hk : k ≤ j) (hm : X.mg x = some (.ref f)) (ha : PFB X tk i (e :: es) W) (hg : Gl X x := by rfl) (hn : ps.length = n := by rfl)
    (hdb : (x == ("__debug__" : Str)) = false := by decide) (he : starEach (e :: es) X.env = (false, eval e X.env) :: starEach es X.env := by rfl) (hpl : (backTo pos (starEach es X.env)).any (·.1) = false := by rfl) : PF X tk (.Call (.Name x p) (e :: es) [] pos) (tCallB n i sp W) := by
  subst hn
  obtain ⟨fd, F, hb⟩ := C.ex
  exact pf_callBo i F tw (hr.mono hk) hm C.kp hb ha hg hdb he hpl
theorem po_callBC (i : Nat) (C : Callee X.prog X.w X.K X.mg X.base k f ps sp) (tw : TkOk X tk) (hr : Room j X.A) (hk : k ≤ j) (hm : X.mg x = some (.ref f)) (ha : PFB X tk i (e :: es) W) (hg : Gl X x := by rfl) (hn : ps.length = n := by rfl)
    (hdb : (x == ("__debug__" : Str)) = false := by decide) (he : starEach (e :: es) X.env = (false, eval e X.env) :: starEach es X.env := by rfl) (hpl : (backTo pos (starEach es X.env)).any (·.1) = false := by rfl) : PFO X tk (.Call (.Name x p) (e :: es) [] pos) (tCallBO n i sp W) := by
  subst hn
  obtain ⟨fd, F, hb⟩ := C.ex
  exact po_callBo i F tw (hr.mono hk) hm C.kp hb ha hg hdb he hpl
end
end Vl

namespace Vl
open PySem PySem.Spec PyProof.Rows L2

/-! ### sets of tuples of whole numbers and texts -/
abbrev UK := List L2.Key
abbrev IsU (P : Program) (w : World) (h : Heap) (k : UK) (a : Addr) : Prop := IsTupleKey (mixKind P w) h k a
abbrev uh (P : Program) (w : World) (k : UK) : Int := tupleKeyHash (mixKind P w) k
section
variable {P : Program} {w : World} {A : Around} {E : Value → Shared → Prop} {s : Shared}
theorem key_val {k : L2.Key} {v : Value} (h : (mixKind P w).is k v = true) : (∃ i t, v = .int i t) ∨ ∃ x t, v = .str x t := by
  rcases keyIs_shape h with ⟨i, t, rfl, e⟩ | ⟨x, t, rfl, e⟩
  · exact .inl ⟨i, t, e⟩
  · exact .inr ⟨x, t, e⟩
theorem cls_val {k : L2.Key} {v : Value} (h : (mixKind P w).is k v = true) (n : Nat) : ofAClassStatement n v = pure false := by
  rcases key_val h with ⟨i, t, rfl⟩ | ⟨x, t, rfl⟩ <;> cases n <;> rfl
theorem hv_val {k : L2.Key} {v : Value} (h : (mixKind P w).is k v = true) (n : Nat) : ∃ b, hashByValue n v = pure b := by
  rcases key_val h with ⟨i, t, rfl⟩ | ⟨x, t, rfl⟩
  · exact ⟨true, by cases n <;> rfl⟩
  · exact ⟨false, by cases n <;> rfl⟩
theorem items_all {k : UK} {vs : List Value} (h : ItemsAre (mixKind P w) k vs) : ∀ v ∈ vs, ∃ x, (mixKind P w).is x v = true := by
  induction h with
  | nil => intro v hv; cases hv
  | cons h1 _ ih =>
    intro v hv
    rcases List.mem_cons.mp hv with rfl | hv
    · exact ⟨_, h1⟩
    · exact ih v hv
/-- a loop over the items of a tuple that asks each and goes on -/
theorem ask_items {α : Type} {f : Value → Option α × PUnit → Sem (ForInStep (Option α × PUnit))} {Q : Option α × PUnit → Shared → Prop} {k : UK} {items : Array Value} (hi : ItemsAre (mixKind P w) k items.toList)
    (hf : ∀ v x, (mixKind P w).is x v = true → f v (none, ⟨⟩) = pure (.yield (none, ⟨⟩))) (h : Q (none, ⟨⟩) s) : wpAny (model P w) A (forIn items (none, ⟨⟩) f) Q E s := by
  rw [← Array.forIn_toList]
  have all := items_all hi
  generalize items.toList = l at all
  induction l with
  | nil => exact wpAny_pure h
  | cons v l ih =>
    obtain ⟨x, hx⟩ := all v List.mem_cons_self
    rw [List.forIn_cons, hf v x hx]
    exact wpAny_bind (wpAny_pure (ih fun u hu => all u (List.mem_cons_of_mem _ hu)))
theorem cls_tup {k : UK} {b : Addr} {Q : Bool → Shared → Prop} (hk : IsU P w s.heap k b) (h : Q false s) : wpAny (model P w) A (ofAClassStatement 8 (.ref b)) Q E s := by
  have hT := hk.typeIs
  obtain ⟨o, items, n, ho, _, hd, hi⟩ := hk
  unfold ofAClassStatement
  refine wpAny_bind (wpAny_typeOf hT ?_)
  dsimp only
  have e : (("tuple" : String) == "tuple") = true := by decide
  simp only [e, if_true, Bool.not_true, Bool.false_eq_true, if_false]
  try refine wpAny_bind (wpAny_pure ?_)
  try simp only [Bool.not_true, Bool.false_eq_true, if_false]
  show wpAny _ _ (seqItems? (.ref b) >>= _) _ _ s
  refine wpAny_bind (wpAny_seqItems ho hd ?_)
  dsimp only
  refine wpAny_bind (ask_items hi (fun v x hx => ?_) (wpAny_pure h))
  rw [cls_val hx]
  rfl
/-- .. that may leave early -/
theorem ask_any {σ : Type} {f : Value → σ → Sem (ForInStep σ)} {Q : σ → Shared → Prop} {k : UK} {items : Array Value} {r : σ} (hi : ItemsAre (mixKind P w) k items.toList)
    (hf : ∀ v x r, (mixKind P w).is x v = true → ∃ st, f v r = pure st) (h : ∀ r, Q r s) : wpAny (model P w) A (forIn items r f) Q E s := by
  rw [← Array.forIn_toList]
  have all := items_all hi
  generalize items.toList = l at all
  induction l generalizing r with
  | nil => exact wpAny_pure (h _)
  | cons v l ih =>
    obtain ⟨x, hx⟩ := all v List.mem_cons_self
    obtain ⟨st, e⟩ := hf v x r hx
    rw [List.forIn_cons, e]
    refine wpAny_bind (wpAny_pure ?_)
    cases st with
    | done b => exact wpAny_pure (h b)
    | yield b => exact ih fun u hu => all u (List.mem_cons_of_mem _ hu)
theorem hv_tup {k : UK} {b : Addr} {Q : Bool → Shared → Prop} (hk : IsU P w s.heap k b) (h : ∀ c, Q c s) : wpAny (model P w) A (hashByValue 8 (.ref b)) Q E s := by
  have hT := hk.typeIs
  obtain ⟨o, items, n, ho, _, hd, hi⟩ := hk
  unfold hashByValue
  refine wpAny_bind (wpAny_specialOf hT F.slot_tuple_hash.lookup ?_)
  show wpAny _ _ (seqItems? (.ref b) >>= _) _ _ s
  refine wpAny_bind (wpAny_seqItems ho hd ?_)
  refine wpAny_bind (ask_any hi (fun v x r hx => ?_) fun r => ?_)
  · obtain ⟨c, e⟩ := hv_val hx 7
    rw [e]
    cases c
    · exact ⟨_, rfl⟩
    · exact ⟨_, rfl⟩
  · obtain ⟨r, u⟩ := r
    cases r with
    | none => exact wpAny_pure (h _)
    | some c => exact wpAny_pure (h _)
/-- a search among tuples is not seen -/
theorem seen_u {k : UK} {b : Addr} {Q : Bool → Shared → Prop} (hk : IsU P w s.heap k b) {ys : List Value} (hy : ∀ y ∈ ys, ∃ k' c, y = Value.ref c ∧ IsU P w s.heap k' c) (h : Q false s) :
    wpAny (model P w) A (searchCouldBeSeen (.ref b) ys) Q E s := by
  unfold searchCouldBeSeen
  refine wpAny_bind ?_
  have go : ∀ (ys : List Value), (∀ y ∈ ys, ∃ k' c, y = Value.ref c ∧ IsU P w s.heap k' c) → ∀ (Q' : Option Bool × PUnit → Shared → Prop), Q' (none, ⟨⟩) s →
      wpAny (model P w) A (forIn ys ((none : Option Bool), PUnit.unit) fun y r => do
        let very := match (Value.ref b), y with
          | .ref a, .ref b => a == b
          | _, _ => false
        if very || (carriedByValue (.ref b) && carriedByValue y) then pure (ForInStep.yield (none, PUnit.unit)) else do
          if !(← eqIsQuiet 8 (.ref b)) then pure (ForInStep.done (some true, PUnit.unit)) else do
            if !(← eqIsQuiet 8 y) then pure (ForInStep.done (some true, PUnit.unit)) else do
              if ← ofAClassStatement 8 (.ref b) then pure (ForInStep.done (some true, PUnit.unit)) else do
                if ← ofAClassStatement 8 y then pure (ForInStep.done (some true, PUnit.unit)) else pure (ForInStep.yield (none, PUnit.unit))) Q' E s := by
    intro ys
    induction ys with
    | nil => intro _ Q' h; exact wpAny_pure h
    | cons y ys ih =>
      intro hy Q' hQ
      obtain ⟨k', c, rfl, hc⟩ := hy y List.mem_cons_self
      have nx := ih (fun u hu => hy u (List.mem_cons_of_mem _ hu)) Q' hQ
      rw [List.forIn_cons]
      refine wpAny_bind ?_
      dsimp only
      by_cases hv : (b == c || (carriedByValue (.ref b) && carriedByValue (.ref c))) = true
      · rw [if_pos hv]
        exact wpAny_pure nx
      · rw [if_neg hv]
        refine wpAny_bind (wpAny_eqIsQuiet_tuple hk ?_)
        rw [if_neg (by decide)]
        refine wpAny_bind (wpAny_eqIsQuiet_tuple hc ?_)
        rw [if_neg (by decide)]
        refine wpAny_bind (cls_tup hk ?_)
        rw [if_neg (by decide)]
        refine wpAny_bind (cls_tup hc ?_)
        rw [if_neg (by decide)]
        exact wpAny_pure nx
  exact go ys hy _ (wpAny_pure h)
end
end Vl

namespace Vl
open PySem PySem.Spec PyProof.Rows L2

abbrev UL := List (Addr × UK)
def uRows (P : Program) (w : World) (L : UL) : List (Int × Value) := L.map fun p => (uh P w p.2, Value.ref p.1)
/-- the set at a holds the tuples L, in the table's order -/
structure SetUR (P : Program) (w : World) (h : Heap) (a : Addr) (L : UL) (es : Array (Int × Value)) (ep : Nat) (t : SetTable) : Prop where
  ob : ∃ o, h.get? a = some o ∧ o.ExactSet ∧ o.data = .set es ep t
  rows : es.toList = uRows P w L
  tab : TabOk t (L.map fun p => uh P w p.2)
  nd : (L.map (·.2)).Nodup
  tup : ∀ p ∈ L, IsU P w h p.2 p.1
  led : w.params.followText "set-order" = true ∨ t.led = true
  room : L.length * 5 < t.mask * 3
  few : L.length < 64
section
variable {P : Program} {w : World} {A : Around} {E : Value → Shared → Prop} {s : Shared} {a : Addr} {L : UL} {es : Array (Int × Value)} {ep : Nat} {t : SetTable}
theorem uRows_len : (uRows P w L).length = L.length := by
  unfold uRows
  exact List.length_map ..
theorem rows_size (h : es.toList = uRows P w L) : es.size = L.length := by
  rw [← Array.length_toList, h, uRows_len]
theorem rows_at (h : es.toList = uRows P w L) {i : Nat} {p : Addr × UK} (q : L[i]? = some p) : es[i]? = some (uh P w p.2, Value.ref p.1) := by
  rw [← Array.getElem?_toList, h]
  unfold uRows
  rw [List.getElem?_map, q]
  rfl
theorem SetUR.fits (R : SetUR P w s.heap a L es ep t) : t.fits es.size = true := by
  have h1 : t.place.size = L.length := by
    have := R.tab.sz
    rwa [List.length_map] at this
  have h2 := rows_size R.rows
  have h3 := R.room
  unfold SetTable.fits SetTable.fill
  rw [R.tab.dm, Bool.and_eq_true, beq_iff_eq, decide_eq_true_eq]
  refine ⟨h1.trans h2.symm, ?_⟩
  show t.place.size + 0 ≤ t.mask
  omega
theorem SetUR.whole (R : SetUR P w s.heap a L es ep t) : ¬ t.gaveWay = true := by
  unfold SetTable.gaveWay
  rw [mask_odd R.tab.mok]
  decide
/-- a slot in use belongs to one row -/
theorem SetUR.rowOf (R : SetUR P w s.heap a L es ep t) {i j : Nat} (h : t.place.toList[i]? = some j) : ∃ p, L[i]? = some p ∧ p ∈ L := by
  have h1 : t.place.size = L.length := by
    have := R.tab.sz
    rwa [List.length_map] at this
  have h2 : i < L.length := by
    have := (List.getElem?_eq_some_iff.mp h).1
    rw [Array.length_toList] at this
    omega
  exact ⟨L[i], List.getElem?_eq_getElem h2, List.getElem_mem h2⟩
theorem one_row (r : Ris t.place.toList) {i i' j : Nat} (h : t.place.toList[i]? = some j) (h' : t.place.toList[i']? = some j) : i = i' := by
  have e := (slot_live r h).symm.trans (slot_live r h')
  injection e

/-- the way of a key through the table: not passed by c steps -/
def Unmet (t : SetTable) (L : UL) (hk : Int) (k : UK) (c : Nat) : Prop := ∀ (c' i : Nat) p, c' < c → t.place.toList[i]? = some (way t.mask hk c') → L[i]? = some p → p.2 ≠ k
theorem search_steps (R : SetUR P w s.heap a L es ep t) {x : Addr} {k : UK} (hx : IsU P w s.heap k x) (hu : A.units < cLine) {K : Nat} (hKf : K < 10 * SetTable.turns t.mask)
    (hK : way t.mask (uh P w k) K ∉ t.place.toList) (hKb : ∀ c, c < K → way t.mask (uh P w k) c ∈ t.place.toList) {Q : SetFound → Shared → Prop}
    (hin : k ∈ L.map (·.2) → Q (.there none) s) (hout : k ∉ L.map (·.2) → Q (.free (way t.mask (uh P w k) K) false) s) :
    ∀ (f c : Nat) (stand : Option SetTable.Probe), stand.getD (t.probeStart (uh P w k)) = nth t.mask (runAt t.mask (SetTable.bits (uh P w k) % (t.mask + 1)) (SetTable.bits (uh P w k))) c → c ≤ K → K - c < f → Unmet t L (uh P w k) k c →
      wpAny (model P w) A (setSearchFrom a (.ref x) (uh P w k) true f stand) Q E s := by
  obtain ⟨o, ho, hex, hd⟩ := R.ob
  generalize hhk : uh P w k = hk at hK hKb hout hin ⊢
  generalize hp0 : runAt t.mask (SetTable.bits hk % (t.mask + 1)) (SetTable.bits hk) = p0
  have wy : ∀ c, way t.mask hk c = (nth t.mask p0 c).j := fun c => by rw [← hp0]
  have dm0 : ∀ c, (nth t.mask p0 c).dummy = none := by
    have step : ∀ (n : Nat) (p : SetTable.Probe), p.dummy = none → (nth t.mask p n).dummy = none := by
      intro n
      induction n with
      | zero => exact fun p h => h
      | succ n ih =>
        intro p h
        refine ih (adv t.mask p) ?_
        unfold adv
        split <;> exact h
    exact fun c => step c p0 (by rw [← hp0]; rfl)
  intro f
  induction f with
  | zero => exact fun c _ _ _ hf => absurd hf (Nat.not_lt_zero _)
  | succ f ih =>
    intro c stand hst hc hf um
    have sh : ∀ q, nth t.mask (nth t.mask p0 c) q = nth t.mask p0 (c + q) := fun q => (nth_add t.mask c p0 q).symm
    have shj : ∀ q, (nth t.mask (nth t.mask p0 c) q).j = way t.mask hk (c + q) := fun q => by rw [sh, wy]
    have hashOf : ∀ (i : Nat) p, L[i]? = some p → ((es[i]?).map (·.1)).getD 0 = uh P w p.2 := fun i p e => by
      rw [rows_at R.rows e]
      rfl
    have spec := go_spec t R.tab.ris R.tab.dm (fun i => ((es[i]?).map (·.1)).getD 0) hk (10 * SetTable.turns t.mask) (K - c) (nth t.mask p0 c) (dm0 c) (by omega)
      (fun q hq => by rw [shj]; exact hKb _ (by omega)) (by rw [shj, show c + (K - c) = K by omega]; exact hK)
    rw [setSearchFrom_succ]
    refine wpAny_bind (wpAny_setState_of ho hd R.fits ?_)
    dsimp only
    rw [if_neg R.whole]
    try refine wpAny_bind (wpAny_pure ?_)
    rcases spec with ⟨q, i, hq, hi, hh, hno, hpr⟩ | ⟨hno, hpr⟩
    · have hpr' : t.probe (fun i => ((es[i]?).map (·.1)).getD 0) hk (stand.getD (t.probeStart hk)) = some (.candidate (way t.mask hk (c + q)) i (nth t.mask p0 (c + (q + 1)))) := by
        rw [hst, ← shj, ← sh]
        exact hpr
      rw [hpr']
      dsimp only
      rw [shj] at hi
      obtain ⟨p, hp, hm⟩ := R.rowOf hi
      have go : wpAny (model P w) A (searchRest a (.ref x) hk true f es t (way t.mask hk (c + q)) i (nth t.mask p0 (c + (q + 1)))) Q E s := by
        unfold searchRest
        rw [rows_at R.rows hp]
        dsimp only
        refine wpAny_bind (wpAny_holding (wpAny_eqBool_tuple hu (R.tup p hm) hx ?_))
        refine wpAny_bind (wpAny_setState_of ho hd R.fits ?_)
        dsimp only
        by_cases e : p.2 = k
        · refine wp_if_pos (by simp [e]) ?_
          exact wpAny_pure (hin (List.mem_map.mpr ⟨p, hm, e⟩))
        · refine wp_if_neg (by simp [e]) ?_
          try refine wpAny_bind (wpAny_pure ?_)
          rw [sameMem]
          dsimp only
          have hsl : t.slot (way t.mask hk (c + q)) = .live i := slot_live R.tab.ris hi
          simp only [if_true, hsl, rows_at R.rows hp]
          refine wpAny_bind (wpAny_isSame_ref_self (wpAny_bind (wpAny_pure ?_)))
          simp only [if_true]
          refine wp_if_neg (by simp [e]) ?_
          refine ih (c + (q + 1)) _ rfl (by omega) (by omega) fun c' i' p' hc' hi' hp' => ?_
          by_cases h1 : c' < c
          · exact um c' i' p' h1 hi' hp'
          · by_cases h2 : c' = c + q
            · subst h2
              have := one_row R.tab.ris hi hi'
              subst this
              rw [hp] at hp'
              cases hp'
              exact e
            · intro ek
              refine hno (c' - c) i' (by omega) (by rw [shj, show c + (c' - c) = c' by omega]; exact hi') ?_
              rw [hashOf i' p' hp', ek, hhk]
      by_cases hl : t.led = true
      · rw [if_neg (by simp [hl])]
        try refine wpAny_bind (wpAny_pure ?_)
        exact go
      · rw [if_pos (by simp [hl])]
        refine wpAny_bind (seen_u hx (fun y hy => ?_) ?_)
        · obtain ⟨e, he, rfl⟩ := List.mem_map.mp hy
          have he1 : e ∈ es := (Array.mem_filter.mp (Array.mem_toList_iff.mp he)).1
          have he2 : e ∈ es.toList := Array.mem_toList_iff.mpr he1
          rw [R.rows] at he2
          obtain ⟨p2, hp2, rfl⟩ := List.mem_map.mp he2
          exact ⟨p2.2, p2.1, rfl, R.tup p2 hp2⟩
        · refine wp_if_neg (by decide) ?_
          try refine wpAny_bind (wpAny_pure ?_)
          exact go
    · have hpr' : t.probe (fun i => ((es[i]?).map (·.1)).getD 0) hk (stand.getD (t.probeStart hk)) = some (.empty (way t.mask hk K) none) := by
        have e2 : way t.mask hk K = (nth t.mask (nth t.mask p0 c) (K - c)).j := by rw [shj, show c + (K - c) = K by omega]
        rw [hst, e2]
        exact hpr
      rw [hpr']
      dsimp only
      refine wpAny_pure (hout fun hm => ?_)
      obtain ⟨p, hp, ek⟩ := List.mem_map.mp hm
      obtain ⟨i, hi, e⟩ := List.getElem_of_mem hp
      have hpi : L[i]? = some p := by rw [List.getElem?_eq_getElem hi, e]
      have hhi : (L.map fun p => uh P w p.2)[i]? = some hk := by
        rw [List.getElem?_map, hpi]
        show some (uh P w p.2) = _
        rw [ek, hhk]
      have hpl : i < t.place.toList.length := by
        have := R.tab.sz
        rw [List.length_map] at this
        rw [Array.length_toList]
        omega
      obtain ⟨c', hc', e'⟩ := R.tab.before hK hhi (List.getElem?_eq_getElem hpl)
      have hi' : t.place.toList[i]? = some (way t.mask hk c') := by rw [e']; exact List.getElem?_eq_getElem hpl
      by_cases h1 : c' < c
      · exact um c' i p h1 hi' hpi ek
      · refine hno (c' - c) i (by omega) (by rw [shj, show c + (c' - c) = c' by omega]; exact hi') ?_
        rw [hashOf i p hpi, ek, hhk]
theorem search_u (R : SetUR P w s.heap a L es ep t) {x : Addr} {k : UK} (hx : IsU P w s.heap k x) (hu : A.units < cLine) {Q : SetFound → Shared → Prop} (hin : k ∈ L.map (·.2) → Q (.there none) s)
    (hout : ∀ K, k ∉ L.map (·.2) → way t.mask (uh P w k) K ∉ t.place.toList → (∀ c, c < K → way t.mask (uh P w k) c ∈ t.place.toList) → Q (.free (way t.mask (uh P w k) K) false) s) :
    wpAny (model P w) A (setSearch a (.ref x) (uh P w k) true) Q E s := by
  have hr := R.room
  obtain ⟨K, hKf, hK, hKb⟩ := R.tab.first (by rw [List.length_map]; omega) (uh P w k)
  have big : K < 100000 := by
    have : 10 * SetTable.turns t.mask ≤ 1420 := by
      unfold SetTable.turns
      rcases R.tab.mok with e | e | e <;> omega
    omega
  unfold setSearch
  exact search_steps R hx hu hKf hK hKb hin (fun h => hout K h hK hKb) 100000 0 none rfl (Nat.zero_le _) (by omega) fun c' i p h => absurd h (Nat.not_lt_zero _)
end
end Vl

namespace Vl
open PySem PySem.Spec PyProof.Rows L2
section
variable {P : Program} {w : World} {A : Around} {E : Value → Shared → Prop} {s : Shared} {a : Addr} {L : UL} {es : Array (Int × Value)} {ep : Nat} {t : SetTable}
/-- a tuple is no set: it stays -/
theorem isU_but {h h' : Heap} {k : UK} {b : Addr} {o : Obj} (hb : IsU P w h k b) (ho : h.get? a = some o) (hd : o.data = .set es ep t) (hs : Heap.SameBut a h h') : IsU P w h' k b := by
  obtain ⟨o', items, n, h1, h2, h3, h4⟩ := hb
  refine ⟨o', items, n, (hs.2 b fun e => ?_).trans h1, h2, h3, h4⟩
  subst e
  rw [h1] at ho
  cases ho
  rw [hd] at h3
  cases h3
theorem isU_up {h h' : Heap} {k : UK} {b : Addr} (hb : IsU P w h k b) (hk : ∀ c o, h.get? c = some o → h'.get? c = some o) : IsU P w h' k b := by
  obtain ⟨o, items, n, h1, r⟩ := hb
  exact ⟨o, items, n, hk b o h1, r⟩
theorem SetUR.up {h h' : Heap} (R : SetUR P w h a L es ep t) (ha : ∀ o, h.get? a = some o → h'.get? a = some o) (ht : ∀ p ∈ L, IsU P w h' p.2 p.1) : SetUR P w h' a L es ep t := by
  obtain ⟨o, ho, r⟩ := R.ob
  exact ⟨⟨o, ha o ho, r⟩, R.rows, R.tab, R.nd, ht, R.led, R.room, R.few⟩
/-- rows read in an order -/
theorem rows_order (hr : es.toList = uRows P w L) : ∀ l : List Nat, (∀ i ∈ l, i < L.length) → ∃ L2 : UL, l.filterMap (fun i => es[i]?) = uRows P w L2 ∧ L2 = l.filterMap (fun i => L[i]?) ∧ (L2.map fun p => uh P w p.2) = l.map fun i => (es.map (·.1)).getD i 0
  | [], _ => ⟨[], rfl, rfl, rfl⟩
  | i :: l, h => by
    obtain ⟨L2, e1, e2, e3⟩ := rows_order hr l fun j hj => h j (List.mem_cons_of_mem _ hj)
    have hi := h i List.mem_cons_self
    have hp : L[i]? = some L[i] := List.getElem?_eq_getElem hi
    have he := rows_at hr hp
    refine ⟨L[i] :: L2, ?_, ?_, ?_⟩
    · rw [List.filterMap_cons_some he, e1]
      rfl
    · rw [List.filterMap_cons_some hp, e2]
    · rw [List.map_cons, List.map_cons, e3]
      refine congrArg (· :: _) ?_
      have : (es.map (·.1))[i]? = some (uh P w (L[i]).2) := by rw [Array.getElem?_map, he]; rfl
      rw [Array.getD_eq_getD_getElem?, this]
      rfl
theorem all_order (L : UL) : (List.range L.length).filterMap (fun i => L[i]?) = L := by
  have key : ∀ n, n ≤ L.length → (List.range n).filterMap (fun i => L[i]?) = L.take n := by
    intro n
    induction n with
    | zero => exact fun _ => rfl
    | succ n ih =>
      intro hn
      have hp : L[n]? = some (L[n]'hn) := List.getElem?_eq_getElem hn
      rw [List.range_succ, List.filterMap_append, ih (Nat.le_of_succ_le hn), List.filterMap_cons_some hp, List.take_succ, hp]
      rfl
  rw [key _ (Nat.le_refl _), List.take_length]
/-- the table laid anew -/
theorem relay_u {o : Obj} (ho : s.heap.get? a = some o) (hex : o.ExactSet) (hd : o.data = .set es ep t) (hr : es.toList = uRows P w L) (hsz : t.place.size = es.size) (hdm : t.dummies = #[]) (hfl : es.size ≤ t.mask) (nd : (L.map (·.2)).Nodup)
    (tup : ∀ p ∈ L, IsU P w s.heap p.2 p.1) (ld : w.params.followText "set-order" = true ∨ t.led = true) (few : L.length < 64) {wanted M : Nat} (hw : SetTable.sizeAbove wanted - 1 = M) (hM : MaskOk M) (hw2 : SetTable.sizeAbove wanted ≤ 128) (hn : L.length * 5 < M * 3)
    {Q : Unit → Shared → Prop} (hQ : ∀ h' L' es' ep' t', Heap.SameBut a s.heap h' → SetUR P w h' a L' es' ep' t' → L'.Perm L → Q () { s with heap := h' }) : wpAny (model P w) A (setRelay a wanted) Q E s := by
  have hsl := rows_size hr
  have hfits : t.fits es.size = true := by
    unfold SetTable.fits SetTable.fill
    rw [hdm, Bool.and_eq_true, beq_iff_eq, decide_eq_true_eq]
    exact ⟨hsz, by show t.place.size + 0 ≤ t.mask; omega⟩
  obtain ⟨t', order, e, hp, T, em, el, _, _⟩ := relaid_ok t (hs := es.map (·.1)) (wanted := wanted) hw hM (by rw [Array.size_map, hsl]; omega)
  rw [Array.size_map, hsl] at hp
  obtain ⟨L2, r1, r2, r3⟩ := rows_order hr order.toList fun i hi => List.mem_range.mp (hp.mem_iff.mp hi)
  have pm : L2.Perm L := by
    have z := hp.filterMap fun i => L[i]?
    rw [all_order, ← r2] at z
    exact z
  rw [← r3] at T
  have r1' : (order.filterMap (es[·]?)).toList = uRows P w L2 := by rw [← r1]; simp
  have hs2 := rows_size r1'
  rw [setRelay_eq]
  refine wpAny_bind (wpAny_setState_of ho hd hfits ?_)
  dsimp only
  refine wp_if_neg (by rw [sizeLine_eq]; omega) ?_
  try refine wpAny_bind (wpAny_pure ?_)
  rw [e]
  dsimp only
  refine wpAny_bind ?_
  refine wp_if_neg (by rw [hs2, pm.length_eq, hsl]; simp) ?_
  try refine wpAny_bind (wpAny_pure ?_)
  refine wpAny_pure ?_
  dsimp only
  refine wpAny_storeSet_of ho hd ?_ (by rw [hs2, pm.length_eq, sizeLine_eq]; omega)
  have sb : Heap.SameBut a s.heap (s.heap.update a (Obj.putSet (order.filterMap (es[·]?)) t')) := Heap.SameBut.update ..
  refine hQ _ L2 _ (ep + 1) t' sb ⟨⟨_, store_at ho hd, ⟨hex.1, hex.2.1, hex.2.2⟩, rfl⟩, r1', T, (pm.map (·.2)).nodup_iff.mpr nd, fun p h => isU_but (tup p (pm.mem_iff.mp h)) ho hd sb, by rw [el]; exact ld, ?_, by rw [pm.length_eq]; exact few⟩ pm
  rw [pm.length_eq, em]
  exact hn
theorem tabOk_plain {t : SetTable} {hs : List Int} (T : TabOk t hs) (b : Bool) : TabOk { t with plain := b } hs := ⟨T.ris, T.dm, T.sz, T.mok, T.bd, T.reach⟩
/-- a tuple added -/
theorem add_u (R : SetUR P w s.heap a L es ep t) {x : Addr} {k : UK} (hx : IsU P w s.heap k x) (hu : A.units < cLine) (hfew : L.length + 1 < 64) {Q : Bool → Shared → Prop}
    (hQ : ∀ b h' L' es' ep' t', Heap.SameBut a s.heap h' → SetUR P w h' a L' es' ep' t' → (k ∈ L.map (·.2) → L' = L) → (k ∉ L.map (·.2) → L'.Perm ((x, k) :: L)) → Q b { s with heap := h' }) :
    wpAny (model P w) A (setAddHashed a (.ref x) (uh P w k)) Q E s := by
  obtain ⟨o, ho, hex, hd⟩ := R.ob
  have hsl := rows_size R.rows
  have hroom := R.room
  unfold setAddHashed
  refine wpAny_holding ?_
  rw [show (100000 : Nat) = 99999 + 1 from rfl, setAddHashedIn_succ]
  refine wpAny_bind (wpAny_setState_of ho hd R.fits ?_)
  dsimp only
  refine wp_if_neg (by simp [byScan, Value.scannable]) ?_
  try refine wpAny_bind (wpAny_pure ?_)
  refine wpAny_bind (search_u R hx hu (fun hm => ?_) fun K hm hK hb => ?_)
  · exact wpAny_pure (hQ false s.heap L es ep t (Heap.SameBut.refl a s.heap) R (fun _ => rfl) fun z => absurd hm z)
  dsimp only
  refine wpAny_bind (wpAny_setState_of ho hd R.fits ?_)
  dsimp only
  obtain ⟨q1, q2, q3, q4, q5, _, _, _, q9⟩ := R.tab.put hK hb
  generalize hpt : t.put (way t.mask (uh P w k) K) = pt at q1 q3 q4 q5 q9 ⊢
  obtain ⟨t1, p⟩ := pt
  dsimp only at q1 q3 q4 q5 q9 ⊢
  subst q1
  generalize SetTable.below t.place (way t.mask (uh P w k) K) = p at q2 q3 ⊢
  rw [List.length_map] at q9
  have main : ∀ c : Bool, wpAny (model P w) A (do
      let t := if c then t1 else { t1 with plain := false }
      storeSet a (SetTable.insertAt es p (uh P w k, .ref x)) t
      if !false && t.tooFull then setRelay a (SetTable.grown (es.size + 1))
      return true) Q E s := by
    intro c
    dsimp only
    have hin : (SetTable.insertAt es p (uh P w k, Value.ref x)).toList = uRows P w (L.take p ++ (x, k) :: L.drop p) := by
      rw [SetTable.toList_insertAt, R.rows]
      unfold uRows
      rw [List.map_append, List.map_cons, List.map_take, List.map_drop]
    have hhs : ((L.take p ++ (x, k) :: L.drop p).map fun p => uh P w p.2) = (L.map fun p => uh P w p.2).take p ++ uh P w k :: (L.map fun p => uh P w p.2).drop p := by
      rw [List.map_append, List.map_cons, List.map_take, List.map_drop]
    rw [← hhs] at q3
    have pm : (L.take p ++ (x, k) :: L.drop p).Perm ((x, k) :: L) := by
      have z : (L.take p ++ (x, k) :: L.drop p).Perm ((x, k) :: (L.take p ++ L.drop p)) := List.perm_middle
      rwa [List.take_append_drop] at z
    generalize L.take p ++ (x, k) :: L.drop p = L1 at q3 pm hin
    generalize SetTable.insertAt es p (uh P w k, Value.ref x) = es1 at hin ⊢
    have hlen : L1.length = L.length + 1 := pm.length_eq
    have hes := rows_size hin
    have nd1 : (L1.map (·.2)).Nodup := (pm.map (·.2)).nodup_iff.mpr (by rw [List.map_cons]; exact List.nodup_cons.mpr ⟨hm, R.nd⟩)
    have T2 : TabOk (if c = true then t1 else { t1 with plain := false }) (L1.map fun p => uh P w p.2) := by
      cases c
      · exact tabOk_plain q3 false
      · exact q3
    have m2 : (if c = true then t1 else { t1 with plain := false }).mask = t.mask := by cases c <;> exact q4
    have l2 : (if c = true then t1 else { t1 with plain := false }).led = t.led := by cases c <;> exact q5
    have f2 : (if c = true then t1 else { t1 with plain := false }).fill = L.length + 1 := by cases c <;> exact q9
    generalize (if c = true then t1 else { t1 with plain := false }) = t2 at T2 m2 l2 f2 ⊢
    refine wpAny_bind (wpAny_storeSet_of ho hd ?_ (by rw [hes, hlen, sizeLine_eq]; omega))
    have sb : Heap.SameBut a s.heap (s.heap.update a (Obj.putSet es1 t2)) := Heap.SameBut.update ..
    have ho1 := store_at (es' := es1) (t' := t2) ho hd
    generalize s.heap.update a (Obj.putSet es1 t2) = h1 at sb ho1 ⊢
    have tup1 : ∀ p ∈ L1, IsU P w h1 p.2 p.1 := fun p hp => by
      rcases List.mem_cons.mp (pm.mem_iff.mp hp) with rfl | hp
      · exact isU_but hx ho hd sb
      · exact isU_but (R.tup p hp) ho hd sb
    have ld1 : w.params.followText "set-order" = true ∨ t2.led = true := by rw [l2]; exact R.led
    by_cases hf : t2.tooFull = true
    · rw [if_pos (by simp [hf])]
      have hfull : (L.length + 1) * 5 ≥ t.mask * 3 := by
        have z := hf
        unfold SetTable.tooFull at z
        rwa [decide_eq_true_eq, f2, m2] at z
      have hsz1 : t2.place.size = es1.size := by
        have z := T2.sz
        rw [List.length_map] at z
        rw [z, hes]
      have two : (t.mask = 7 ∧ L.length = 4) ∨ (t.mask = 31 ∧ L.length = 18) := by
        rcases R.tab.mok with e | e | e <;> rw [e] at hroom hfull
        · exact .inl ⟨e, by omega⟩
        · exact .inr ⟨e, by omega⟩
        · omega
      have hms : es1.size ≤ t2.mask := by rw [hes, hlen, m2]; rcases two with ⟨e, e2⟩ | ⟨e, e2⟩ <;> omega
      have go : ∀ M, SetTable.sizeAbove (SetTable.grown (L.length + 1)) - 1 = M → MaskOk M → SetTable.sizeAbove (SetTable.grown (L.length + 1)) ≤ 128 → (L.length + 1) * 5 < M * 3 →
          wpAny (model P w) A (setRelay a (SetTable.grown (L.length + 1))) (fun _ s' => wpAny (model P w) A (pure true) Q E s') E { s with heap := h1 } := fun M b1 b2 b3 b4 =>
        relay_u (s := { s with heap := h1 }) ho1 ⟨hex.1, hex.2.1, hex.2.2⟩ rfl hin hsz1 T2.dm hms nd1 tup1 ld1 (by rw [hlen]; exact hfew) b1 b2 b3 (by rw [hlen]; exact b4) fun h2 L2 es2 ep2 t2 sb2 R2 pm2 =>
          wpAny_pure (hQ true h2 L2 es2 ep2 t2 (sb.trans sb2) R2 (fun z => absurd z hm) fun _ => pm2.trans pm)
      rw [hsl]
      rcases two with ⟨_, e2⟩ | ⟨_, e2⟩
      · exact wpAny_bind (go 31 (by rw [e2, size_20]) (.inr (.inl rfl)) (by rw [e2, size_20]; decide) (by omega))
      · exact wpAny_bind (go 127 (by rw [e2, size_76]) (.inr (.inr rfl)) (by rw [e2, size_76]; decide) (by omega))
    · rw [if_neg (by simp [hf])]
      try refine wpAny_bind (wpAny_pure ?_)
      refine wpAny_pure (hQ true h1 L1 es1 (ep + 1) t2 sb ⟨⟨_, ho1, ⟨hex.1, hex.2.1, hex.2.2⟩, rfl⟩, hin, T2, nd1, tup1, ld1, ?_, by rw [hlen]; exact hfew⟩ (fun z => absurd z hm) fun _ => pm)
      have z := hf
      unfold SetTable.tooFull at z
      rw [decide_eq_true_eq, f2, m2] at z
      rw [hlen, m2]
      omega
  by_cases hpl : t1.plain = true
  · rw [if_pos hpl]
    exact wpAny_bind (hv_tup hx fun c => main c)
  · rw [if_neg hpl]
    exact wpAny_bind (wpAny_pure (main true))
end
end Vl

namespace Vl
open PySem PySem.Spec PyProof.Rows L2
section
variable {P : Program} {w : World} {A : Around} {E : Value → Shared → Prop} {s : Shared} {a : Addr} {L : UL} {es : Array (Int × Value)} {ep : Nat} {t : SetTable}
theorem SetUR.typeIs (R : SetUR P w s.heap a L es ep t) : s.TypeIs (.ref a) "set" := let ⟨o, ho, hx, _⟩ := R.ob; ⟨o, ho, hx.1⟩
/-- set.add of a tuple -/
theorem call_add_u (R : SetUR P w s.heap a L es ep t) {x : Addr} {k : UK} (hx : IsU P w s.heap k x) (hu : A.units + 1 < cLine) (hfew : L.length + 1 < 64) {Q : Value → Shared → Prop}
    (hQ : ∀ tk h' L' es' ep' t', Heap.SameBut a s.heap h' → SetUR P w h' a L' es' ep' t' → (k ∈ L.map (·.2) → L' = L) → (k ∉ L.map (·.2) → L'.Perm ((x, k) :: L)) → Q .none { s with heap := h', toks := tk }) :
    wpAny (model P w) A (call (.builtin "set.add") [.ref a, .ref x]) Q E s := by
  refine wpAny_call_entry F.slot_set_add R.typeIs F.entry_set_add ?_ (F.args_set_add_2 _ _)
  unfold Builtin.«set.add» Builtin.Frozenset.oneOther
  simp only [List.isEmpty_nil, bind_assoc]
  unfold Builtin.Frozenset.addrOf setAdd
  refine wpAny_bind (wpAny_pure ?_)
  try dsimp only
  refine wpAny_bind (wpAny_pure ?_)
  try dsimp only
  refine wpAny_bind ?_
  refine wpAny_holding ?_
  have hu2 : A.in1.units < cLine := by
    first
      | exact hu
      | (show A.units + 1 < cLine; exact hu)
  refine wpAny_bind (wpAny_pyHash_tuple hu2 hx ?_)
  refine add_u (s := { s with toks := s.toks + (k.length + 1) }) R hx hu2 hfew fun b h' L' es' ep' t' sb R' c1 c2 => ?_
  show wpAny _ _ (ret Value.none) _ _ _
  exact wpAny_pure ⟨_, rfl, hQ _ h' L' es' ep' t' sb R' c1 c2⟩
theorem setUR_new {h : Heap} (ho : h.get? a = some { cls := .type "set", dict := none, data := .set #[] 0 (.fresh 0 0 (!w.params.followText "set-order")) }) : SetUR P w h a [] #[] 0 (.fresh 0 0 (!w.params.followText "set-order")) := by
  have tb : TabOk (.fresh 0 0 (!w.params.followText "set-order")) [] := by
    constructor
    · exact List.Pairwise.nil
    · rfl
    · rfl
    · exact .inl rfl
    · intro x hx; cases hx
    · intro i h j hi; cases hi
  constructor
  · exact ⟨_, ho, ⟨rfl, rfl, rfl⟩, rfl⟩
  · rfl
  · exact tb
  · exact List.nodup_nil
  · intro p hp; cases hp
  · show _ ∨ (!w.params.followText "set-order") = true
    cases w.params.followText "set-order"
    · exact .inr rfl
    · exact .inl rfl
  · show 0 * 5 < 7 * 3
    decide
  · show 0 < 64
    decide
/-- the set alone -/
def SetU0 (P : Program) (w : World) (h : Heap) (a : Addr) (L : UL) : Prop := ∃ (es : Array (Int × Value)) (ep : Nat) (t : SetTable), (∃ o, h.get? a = some o ∧ o.ExactSet ∧ o.data = .set es ep t) ∧ es.toList = uRows P w L ∧ TabOk t (L.map fun p => uh P w p.2) ∧ (L.map (·.2)).Nodup ∧
  (w.params.followText "set-order" = true ∨ t.led = true) ∧ L.length * 5 < t.mask * 3 ∧ L.length < 64
theorem SetUR.u0 {h : Heap} (R : SetUR P w h a L es ep t) : SetU0 P w h a L := ⟨es, ep, t, R.ob, R.rows, R.tab, R.nd, R.led, R.room, R.few⟩
theorem SetU0.full {h : Heap} (R : SetU0 P w h a L) (ht : ∀ p ∈ L, IsU P w h p.2 p.1) : ∃ es ep t, SetUR P w h a L es ep t := by
  obtain ⟨es, ep, t, h1, h2, h3, h4, h5, h6, h7⟩ := R
  exact ⟨es, ep, t, h1, h2, h3, h4, ht, h5, h6, h7⟩
def SetUO (P : Program) (w : World) (a : Addr) (L : UL) : HO := .ext fun h => SetU0 P w h a L
theorem setUO_new {H : Hp} {h : Heap} (R : SetU0 P w h a L) : ObjOk P w H h a (SetUO P w a L) := by
  have ⟨es, ep, t, ⟨o, ho, r⟩, q⟩ := R
  refine ⟨R, ⟨o, ho⟩, fun h1 h2 p k => ?_⟩
  have ⟨es', ep', t', ⟨o', ho', r'⟩, q'⟩ := p
  exact ⟨es', ep', t', ⟨o', k o' ho', r'⟩, q'⟩
end
theorem items_vals {P : Program} {w : World} : ∀ {k : UK} {us : List Value}, Vals (k.map kV) us → ItemsAre (mixKind P w) k us
  | [], _, .nil => .nil
  | _ :: _, _, .cons r t => .cons (kV_is r) (items_vals t)
section
variable {X : Cx} {pins : List (Addr × Obj)} {σ : L2.St} {H : Hp} {s : Shared}
theorem inv_isU (I : Inv X pins σ H s) {b : Addr} {k : UK} (h : SqT X.K H b (k.map kV)) : IsU X.prog X.w s.heap k b := by
  obtain ⟨its, r, ⟨o, ho, hc, n, hd⟩, _⟩ := I.tuple h
  exact ⟨o, its.toArray, n, ho, hc, hd, by simpa using items_vals r⟩
/-- what adding y to the set at D may rely on: Nx of the heap behind it -/
def AddOk (X : Cx) (D : Addr) (y : V) (H : Hp) (Nx : Hp → Prop) : Prop := ∀ (s0 : Shared) (H0 : Hp) (scope : Scope) (ce : Env) (fp : List Addr) (pins : List (Addr × Obj)) (σ : L2.St) (s : Shared) (u : Value) (Q : Shared → Prop), Inv (X.blk s0 H0 scope ce fp) pins σ H s → RelV y u →
  (∀ H' s', Inv (X.blk s0 H0 scope ce fp) pins σ H' s' → Nx H' → Q s') → wpAny (model X.prog X.w) X.A (call (.builtin "set.add") [.ref D, u]) (fun _ s' => Q s') (fun _ _ => False) s
theorem SqT.but {K : PySem.W.Frag} {D : Addr} {o o' : HO} {p : Addr} {xs : List V} (hD : H D = some o) (ho : ∀ ys, o ≠ .tup ys) (hf : ∀ c ys, o ≠ .frz c ys) (h : SqT K H p xs) : SqT K (upd H D o') p xs := by
  rcases h with h | h
  · refine .inl ?_
    rcases h with h | ⟨c, h⟩
    · refine .inl ?_
      rw [upd_ne (fun e => ?_)]
      · exact h
      · subst e
        rw [hD] at h
        exact ho xs (Option.some.inj h)
    · refine .inr ⟨c, ?_⟩
      rw [upd_ne (fun e => ?_)]
      · exact h
      · subst e
        rw [hD] at h
        exact hf _ _ (Option.some.inj h)
  · exact .inr h
theorem addOk_u {D x : Addr} {L : UL} {k : UK} {Nx : Hp → Prop} (hu : X.A.units + 1 < cLine) (hD : H D = some (SetUO X.prog X.w D L)) (hL : ∀ p ∈ L, SqT X.K H p.1 (p.2.map kV)) (hx : SqT X.K H x (k.map kV)) (few : L.length + 1 < 64)
    (h : ∀ L', (k ∈ L.map (·.2) → L' = L) → (k ∉ L.map (·.2) → L'.Perm ((x, k) :: L)) → Nx (upd H D (SetUO X.prog X.w D L'))) : AddOk X D (.ref x) H Nx := by
  intro s0 H0 scope ce fp pins σ s u Q I r hQ
  cases r
  have R0 : SetU0 X.prog X.w s.heap D L := (I.hok D _ hD).1
  obtain ⟨es, ep, t, R⟩ := R0.full fun p hp => inv_isU I (hL p hp)
  refine call_add_u R (inv_isU I hx) hu few fun tk h' L' es' ep' t' sb R' c1 c2 => ?_
  have he : ∃ u, h'.get? D = some u := let ⟨o, ho, _⟩ := R'.ob; ⟨o, ho⟩
  exact hQ _ _ (I.write (e := D) (t' := tk) (by rw [hD]; trivial) (.inl rfl) (fun b u hb e => (sb.2 b hb).trans e) he (setUO_new R'.u0)) (h L' c1 c2)
/-- .. of whole numbers and texts -/
theorem addOk_k {D : Addr} {S : L2.Key → Bool} {n : Nat} {k : L2.Key} {Nx : Hp → Prop} (hD : H D = some (SetK X.prog X.w D S n)) (room : n + 1 < scanBound)
    (h : Nx (upd H D (SetK X.prog X.w D (fun j => S j || decide (j = k)) (if S k = true then n else n + 1)))) : AddOk X D (kV k) H Nx := by
  intro s0 H0 scope ce fp pins σ s u Q I r hQ
  refine call_set_add (kV_is r) (key_scan r) (setK_get (X := X.blk s0 H0 scope ce fp) I hD) room fun h' sb new => ?_
  have he : ∃ u, h'.get? D = some u := let ⟨o, _, _, _, ho, _⟩ := new; ⟨o, ho⟩
  exact hQ _ _ (I.write (e := D) (t' := s.toks + 1) (by rw [hD]; trivial) (.inl rfl) (fun b u hb e => (sb.2 b hb).trans e) he (setK_new new)) h
end
end Vl

namespace Vl
open PpSet
open PySem PySem.Spec PyProof.Rows L2
/-- what a new set is tracked as -/
def NewSet (P : Program) (w : World) (O : Addr → HO) : Prop := ∀ (H : Hp) (h : Heap) (D : Addr), h.get? D = some { cls := .type "set", dict := none, data := .set #[] 0 (.fresh 0 0 (!w.params.followText "set-order")) } → ObjOk P w H h D (O D)
theorem newSet_u {P : Program} {w : World} : NewSet P w fun D => SetUO P w D [] := fun H h D e => setUO_new (setUR_new (P := P) e).u0
theorem newSet_k {P : Program} {w : World} : NewSet P w fun D => SetK P w D (fun _ => false) 0 := fun H h D e => by
  refine setK_new ⟨_, #[], 0, _, e, ⟨rfl, rfl, rfl⟩, rfl, ?_, ?_, by decide, by rfl, rfl⟩
  · intro e he
    simp at he
  · intro k
    simp
section
variable {X : Cx}
/-- {elt for target in iter if ..}, O the new set -/
def tSg (X : Cx) (O : Addr → HO) (wi : TI) (g : TG) (tt : TT) (te : TE) (vs : List Nat) : TE := fun σ H Q => wi σ H fun J H1 => ∀ D, H1 D = none → ∃ W : Nat → Nat → Hp → Prop, (∃ m, W 0 m (upd H1 D (O D))) ∧ ∀ i m H, W i m H →
  (J.stop i H ∧ Q (.ref D) H) ∨ (J.go i H ∧ ∃ Nx : Hp → Prop, (∀ H', Nx H' → ∃ m', m' < m ∧ W (i + 1) m' H') ∧ ∀ x H', J.yld i H x H' → g x (wipe σ vs) H' fun σ2 H2 => wipe σ2 vs = wipe σ vs ∧ tt σ2 H2 fun b H3 =>
    if b = true then te σ2 H3 fun y H4 => AddOk X D y H4 Nx else Nx H3)
theorem pe_scg {O : Addr → HO} {elt tg iter : Expr} {ifs : List Expr} {scope : Scope} {own : List (Str × Nat)} {pos : Pos} {wi : TI} {g : TG} {tt : TT} {te : TE} (hO : NewSet X.prog X.w O) (hc : X.calm = true) (hN : X.N.Nodup) (hi : PI X tg iter wi) (ok : BlkOk X.N X.env.scope scope own)
    (hg : ∀ (s : Shared) (H : Hp) (C : Addr) (cl : List (Str × Addr)) (fp : List Addr), PG (X.blk s H scope (compEnvC scope cl C X.env) fp) tg g) (ht : ∀ (s : Shared) (H : Hp) (C : Addr) (cl : List (Str × Addr)) (fp : List Addr), PTs (X.blk s H scope (compEnvC scope cl C X.env) fp) ifs tt)
    (he : ∀ (s : Shared) (H : Hp) (C : Addr) (cl : List (Str × Addr)) (fp : List Addr), PE (X.blk s H scope (compEnvC scope cl C X.env) fp) elt te) (hs : ∀ x, foldedSetIterable iter X.env x = pure x := by intro _; rfl) :
    PE X (.SetComp elt [⟨tg, iter, ifs, 0⟩] scope pos) (tSg X O wi g tt te (own.map (·.2))) := by
  refine ⟨fun pins s σ H Q I h => ?_⟩
  rw [eval_SetComp]
  have caught : ∀ y ∈ scope.names, y.2 = .free → ∃ c, X.env.cells.lookup y.1 = some c := fun y hy e => (ok.free y hy e).elim (fun k => I.ok.has _ (.inl k)) fun k => I.ok.has _ (.inr k)
  refine wpAny_comprehension_free (use := none) rfl hs (closure_ok caught) ok.kind (fun y hy e => by rw [ok.uniq y hy, e]) (thn (hi.run pins s σ H _ I h) fun xv s1 hx => thn hx fun itv s2 h2 => ?_)
  obtain ⟨it, fp, tn, J, H2, rfl, I2, T, st2, f2, q⟩ := h2
  refine newSet_ok (newEnv_comp ?_)
  generalize hD : s2.heap.objs.size = D
  obtain ⟨W, ⟨m0, w0⟩, turn⟩ := q D (I2.hok.fresh (Nat.le_of_eq hD))
  -- behind the new set
  obtain ⟨s3, hs3⟩ : ∃ s3 : Shared, s3 = { s2 with heap := s2.heap.push { cls := .type "set", dict := none, data := .set #[] 0 (.fresh 0 0 (!X.w.params.followText "set-order")) } } := ⟨_, rfl⟩
  have up3 : ∀ b o, s2.heap.get? b = some o → s3.heap.get? b = some o := fun b o e => by rw [hs3]; exact Heap.get?_push_of_some _ e
  have size3 : s3.heap.objs.size = s2.heap.objs.size + 1 := by rw [hs3]; exact Heap.size_push ..
  have I3 : Inv X pins σ (upd H2 D (O D)) s3 := by
    rw [hs3]
    refine I2.laid (t' := s2.toks) (fun b o e => Heap.get?_push_of_some _ e) (Nat.le_of_eq hD) (hO _ _ _ ?_)
    rw [← hD]
    exact Heap.get?_push_size _ rfl
  rw [← hs3]
  have old : ∀ b ∈ fp, b < s2.heap.objs.size := fun b hb => let ⟨o, e, _⟩ := T.obj _ _ st2 b hb; Heap.lt_size e
  have f3 : ∀ b ∈ fp, FpOk X pins (upd H2 D (O D)) b ∧ b < s3.heap.objs.size := fun b hb => by
    have lt := old b hb
    refine ⟨⟨?_, (f2 b hb).2⟩, by rw [size3]; exact Nat.lt_succ_of_lt lt⟩
    rw [upd_ne (by rw [← hD]; exact Nat.ne_of_lt lt)]
    exact (f2 b hb).1
  have st3 : tn 0 s3.heap := T.keep _ _ _ st2 fun b _ o e => up3 b o e
  have I4 := block_start I3 ok hN f3
  show codeAny _ _ (.compStart (.SetComp elt [⟨tg, iter, ifs, 0⟩] scope pos) 0 (.ref it) (.ref D) (compEnvC scope (cellsFrom (s3.heap.objs.size + 1) scope.names (cloFrom X.env.cells scope.names [])) s3.heap.objs.size X.env)) (compPost (model X.prog X.w) X.A X.xe none (EP X pins σ Q) (.ref D) s3.heap.objs.size) { s3 with heap := pushCells (s3.heap.push { cls := .type "dict", data := .dict #[] }) scope.names }
  generalize hcl : cellsFrom (s3.heap.objs.size + 1) scope.names (cloFrom X.env.cells scope.names []) = cl at I4 ⊢
  have pg := hg s3 (upd H2 D (O D)) s3.heap.objs.size cl fp
  have pt := ht s3 (upd H2 D (O D)) s3.heap.objs.size cl fp
  have pe := he s3 (upd H2 D (O D)) s3.heap.objs.size cl fp
  generalize hce : compEnvC scope cl s3.heap.objs.size X.env = ce at I4 pg pt pe ⊢
  have cL : ce.locals = s3.heap.objs.size := by rw [← hce]; rfl
  generalize upd H2 D (O D) = H3 at I3 I4 pg pt pe w0 f3
  have nfp : ∀ b ∈ fp, H3 b = none := fun b hb => (f3 b hb).1.1
  obtain ⟨s4, hs4⟩ : ∃ s4 : Shared, s4 = { s3 with heap := pushCells (s3.heap.push { cls := .type "dict", data := .dict #[] }) scope.names } := ⟨_, rfl⟩
  rw [← hs4] at I4
  rw [← hs4]
  have st4 : tn 0 s4.heap := T.keep _ _ _ st3 fun b _ o e => by rw [hs4]; exact pushCells_keeps _ _ _ _ (Heap.get?_push_of_some _ e)
  have stand : ∀ {σ' : L2.St} {H' : Hp} {s' : Shared}, Inv (X.blk s3 H3 scope ce fp) [] σ' H' s' → (∀ b ∈ fp, H' b = none) → ∀ b ∈ fp, FpOk (X.blk s3 H3 scope ce fp) [] H' b := fun {σ' H' s'} I' hn b hb =>
    ⟨hn b hb, (I'.ok.exf b hb).1, I'.ok.exfs b hb, .inl hb, fun x c e => (I'.ok.exf b hb).2 x c e, fun p hp => absurd (show p ∈ ([] : List (Addr × Obj)) ++ [] from hp) (by simp)⟩
  have loop : codeAny (model X.prog X.w) X.A (.compLoop (.SetComp elt [⟨tg, iter, ifs, 0⟩] scope pos) 0 (.ref it) (.ref D) ce) (compPost (model X.prog X.w) X.A X.xe none (EP X pins σ Q) (.ref D) s3.heap.objs.size) s4 := by
    refine compLoopS_any (fun n s' => ∃ i H', Inv (X.blk s3 H3 scope ce fp) [] (wipe σ (own.map (·.2))) H' s' ∧ tn i s'.heap ∧ (∀ b ∈ fp, H' b = none) ∧ W i n H') ?_ m0 ⟨0, H3, I4, st4, nfp, w0⟩
    rintro n s5 ⟨i, H5, I5, st5, n5, w5⟩
    rcases turn i n H5 w5 with ⟨stop, qq⟩ | ⟨go, Nx, hNx, step⟩
    · refine thnF (T.done (X.blk s3 H3 scope ce fp) rfl rfl rfl hc i [] s5 _ H5 (fun _ _ => False) I5 (stand I5 n5) st5 stop) fun r s6 ⟨hr, I6⟩ => ?_
      subst hr
      have I7 : Inv X pins σ H5 s6 := I3.call' (ch := fp) I6.os I6.base I6.hok I6.bare fun b hb => ⟨(f3 b hb).1.2.2.2.1, (f3 b hb).1.2.1, (f3 b hb).1.2.2.2.2.1, (f3 b hb).1.2.2.2.2.2⟩
      have free : H5 s3.heap.objs.size = none := by rw [← cL]; exact I6.free
      obtain ⟨m, hn, _⟩ := I6.loc
      have hn : s6.heap.Ns ce.locals m := hn
      rw [cL] at hn
      obtain ⟨g0, g1, g2, g3, g4, g5⟩ := I3.fpOk (Nat.le_refl _) free
      exact ⟨m, hn, fun h'' sb => ⟨.ref D, H5, I7.turned (t' := s6.toks) (fun b o hb e => (sb.2 b hb).trans e) g0 g1 g3 g4 g5, rfl, qq⟩⟩
    · refine thnF (T.item (X.blk s3 H3 scope ce fp) rfl rfl rfl hc i [] s5 _ H5 (fun _ _ => False) I5 (stand I5 n5) st5 go) fun r s6 ⟨u, hr, h6⟩ => ?_
      subst hr
      refine thnF h6 fun _ s7 ⟨x, H7, I7, r7, y7, st7, n7⟩ => ?_
      refine thnF (pg.run _ s7 _ H7 x u _ (I7.pinned (stand I7 n7) (T.obj _ _ st7)) r7 (step x H7 y7)) fun _ s8 ⟨σ8, H8, I8, hw8, q8⟩ => ?_
      refine thnF (pt.run _ s8 σ8 H8 _ I8 q8) fun b s9 ⟨H9, I9, q9⟩ => ?_
      have turnEnd : ∀ {s' : Shared} {H' : Hp}, Inv (X.blk s3 H3 scope ce fp) ([] ++ pinsAt fp s7.heap) σ8 H' s' → Nx H' → ∃ m, m < n ∧ ∃ i H', Inv (X.blk s3 H3 scope ce fp) [] (wipe σ (own.map (·.2))) H' s' ∧ tn i s'.heap ∧ (∀ b ∈ fp, H' b = none) ∧ W i m H' := fun {s' H'} I' nx => by
        obtain ⟨m', hm, w'⟩ := hNx H' nx
        have pinned : ∀ b ∈ fp, ∀ o, s7.heap.get? b = some o → s'.heap.get? b = some o ∧ H' b = none := fun b hb o e =>
          let z := I'.pin (b, o) (List.mem_append_right _ (List.mem_append_right _ (mem_pinsAt hb e)))
          ⟨z.1, z.2.1⟩
        refine ⟨m', hm, i + 1, H', (I'.unpinned (pins := [])).weak (by rw [← hw8, wipe_length]) (fun j v e => ?_), T.keep _ _ _ st7 fun b hb o e => (pinned b hb o e).1, fun b hb => ?_, w'⟩
        · rw [← hw8] at e
          exact (wipe_some e).1
        · obtain ⟨o, e, _⟩ := T.obj _ _ st7 b hb
          exact (pinned b hb o e).2
      cases b with
      | false =>
        simp only [Bool.false_eq_true, if_false] at q9 ⊢
        exact turnEnd I9 q9
      | true =>
        simp only [if_true] at q9 ⊢
        refine thnF (pe.run _ s9 σ8 H9 _ I9 q9) fun z s10 ⟨yv, H10, I10, r10, ao⟩ => ?_
        exact wpAny_mono (ao s3 H3 scope ce fp _ σ8 s10 z (fun s' => ∃ m, m < n ∧ ∃ i H', Inv (X.blk s3 H3 scope ce fp) [] (wipe σ (own.map (·.2))) H' s' ∧ tn i s'.heap ∧ (∀ b ∈ fp, H' b = none) ∧ W i m H') I10 r10 fun H' s' I' nx => turnEnd I' nx) (fun _ _ e => e) fun _ _ e => e.elim
  exact codeAny_compStart_set loop (T.self X.A 0 _ _ _ st4 loop)
end
end Vl

namespace Vl
open PySem PySem.Spec PyProof.Rows L2 PySem.W
/-! ### sorted -/
def kPd : L2.Key → PyData
  | .inl i => .int i
  | .inr x => .str x
def uPd (k : UK) : PyData := .tuple (k.map kPd)
theorem vals_each {zs : List (V × PyData)} : ∀ {its : List Value}, Vals (zs.map (·.1)) its → EachIs (fun v (z : V × PyData) => RelV z.1 v) its zs := by
  induction zs with
  | nil => intro its r; cases r; exact .nil
  | cons z zs ih => intro its r; cases r with
    | cons h t => exact .cons h (ih t)
theorem each_vals {α : Type} {f : α → V} : ∀ {its : List Value} {zs : List α}, EachIs (fun v z => RelV (f z) v) its zs → Vals (zs.map f) its
  | _, _, .nil => .nil
  | _, _, .cons h t => .cons h (each_vals t)
section
variable {X : Cx}
/-- sorted(xs), of a list of data that compare -/
def rSortA (K : PySem.W.Frag) : List V → Hp → VK → Prop := fun vs H Q => ∃ (a : Addr) (zs : List (V × PyData)), vs = [.ref a] ∧ SqL K H a (zs.map (·.1)) ∧ (∀ z ∈ zs, Dp K H z.1 z.2) ∧ AllAlike (zs.map (·.2)) ∧ Sortable (zs.map (·.2)) ∧ (∀ z ∈ zs, z.2.depth ≤ 60) ∧
  ∀ p, H p = none → Q (.ref p) (upd H p (.lst ((zs.mergeSort (dataLe false fun z : V × PyData => z.2)).map (·.1))))
theorem cr_sortA (hu : X.A.units + 64 < cLine) : CallR X (.builtin "sorted") (rSortA X.K) := by
  intro pins s σ H vs us Q I r h
  obtain ⟨a, zs, rfl, hs, hd, hal, hk, hdep, q⟩ := h
  obtain ⟨its, rv, pl, hz⟩ := I.list hs
  rw [Vals.ref1 r]
  have e := vals_each rv
  have er : EachIs (fun v (b : V × PyData) => ∃ as, Reads s.heap v b.2 as) its zs := (each_mem e).mono fun v b ⟨h1, h2⟩ => Dp.reads I b.2 b.1 v (hd b h2) h1
  have hlen : zs.length ≤ sizeLine := by rw [List.length_map] at hz; exact hz
  refine sorted_data (A := X.A) (enc := fun z : V × PyData => z.2) pl.isList e er hal hk hlen (fun b hb => by have := hdep b hb; omega) fun out ho eo => ?_
  obtain ⟨c, hc⟩ := sortedAll_at s.heap its out.toArray
  have hp : s.heap.objs.size ≤ s.heap.objs.size + 1 := Nat.le_succ _
  have hn : H (s.heap.objs.size + 1) = none := I.hok.fresh hp
  have rv2 : Vals ((zs.mergeSort (dataLe false fun z : V × PyData => z.2)).map (·.1)) out := each_vals eo
  have hl2 : ((zs.mergeSort (dataLe false fun z : V × PyData => z.2)).map (·.1)).length ≤ sizeLine := by rw [List.length_map, (List.mergeSort_perm _ _).length_eq]; exact hlen
  refine ⟨.ref (s.heap.objs.size + 1), upd H (s.heap.objs.size + 1) (.lst ((zs.mergeSort (dataLe false fun z : V × PyData => z.2)).map (·.1))), I.laid (t' := s.toks) (fun b o e => sortedAll_old e) hp ⟨hl2, out, c, rv2, hc⟩, rfl, q _ hn⟩
theorem uReads {P : Program} {w : World} {h : Heap} {k : UK} {a : Addr} (x : IsU P w h k a) : Reads h (.ref a) (uPd k) [] := by
  obtain ⟨o, items, n, ho, hc, hd, hi⟩ := x
  refine .tuple ho hc hd ?_
  generalize items.toList = l at hi
  induction hi with
  | nil => exact .nil
  | @cons k v ks vs h1 _ ih =>
    have r1 : Reads h v (kPd k) [] := by
      rcases keyIs_shape h1 with ⟨i, t, rfl, rfl⟩ | ⟨x, t, rfl, rfl⟩
      · exact .int i t
      · exact .str x t
    exact ReadsAll.cons (as := []) (bs := []) r1 ih
theorem uDepth : ∀ k : UK, (uPd k).depth ≤ 2 := by
  have h : ∀ k : L2.Key, (kPd k).depth ≤ 1 := fun k => by cases k <;> simp [kPd, PyData.depth]
  intro k
  have e : ∀ l : UK, PyData.depthAll (l.map kPd) ≤ 1 := by
    intro l
    induction l with
    | nil => simp [PyData.depthAll]
    | cons x l ih =>
      rw [List.map_cons, PyData.depthAll]
      have := h x
      omega
  have := e k
  simp only [uPd, PyData.depth]
  omega
/-- sorted(set), of tuples -/
def rSortU (K : PySem.W.Frag) (P : Program) (w : World) : List V → Hp → VK → Prop := fun vs H Q => ∃ (a : Addr) (L : UL), vs = [.ref a] ∧ H a = some (SetUO P w a L) ∧ (∀ p ∈ L, SqT K H p.1 (p.2.map kV)) ∧ AllAlike (L.map fun p => uPd p.2) ∧ (∀ p ∈ L, p.2 ≠ []) ∧
  ∀ (L' : UL) (p : Addr), L'.Perm L → (L'.map (·.2)).Nodup → L'.Pairwise (fun x y => dataLe false (fun p : Addr × UK => uPd p.2) x y = true) → H p = none → Q (.ref p) (upd H p (.lst (L'.map fun q => V.ref q.1)))
theorem cr_sortU (hc : X.calm = true) (hu : X.A.units + 64 < cLine) : CallR X (.builtin "sorted") (rSortU X.K X.prog X.w) := by
  intro pins s σ H vs us Q I r h
  obtain ⟨a, L, rfl, ha, hk, hal, hne, q⟩ := h
  have R0 : SetU0 X.prog X.w s.heap a L := (I.hok a _ ha).1
  obtain ⟨es, ep, t, R⟩ := R0.full fun p hp => inv_isU I (hk p hp)
  rw [Vals.ref1 r]
  obtain ⟨o, ho, hex, hd⟩ := R.ob
  have hsz := rows_size R.rows
  have few := R.few
  refine Calls.call_function_entry kind_sorted plain_sorted entry_sorted (args_sorted1 _) ?_
  unfold Builtin.«sorted»
  refine wpAny_bind (m := checkCount "sorted" 1 1 _) (wpAny_pure ?_)
  refine wpAny_bind (collect_set (A := X.A.in1) (I.ok.hd hc) ⟨o, ho, hex.1, hd⟩ R.fits (by unfold scanBound; omega) R.tab.ris R.led fun s1 vs k1 hz g1 o1 pm => ?_)
  have hes : es.toList.map (·.2) = L.map fun q => Value.ref q.1 := by
    rw [R.rows]
    unfold uRows
    rw [List.map_map]
    rfl
  rw [hes] at pm
  obtain ⟨L1, pL, rfl⟩ := perm_lift (fun q : Addr × UK => Value.ref q.1) pm L rfl
  have hl1 : L1.length < 64 := by rw [pL.length_eq]; exact few
  refine wpAny_bind (wpAny_newList ?_ (by rw [List.length_map, sizeLine_eq]; omega))
  have hoL : (s1.heap.push (seqObj "list" (L1.map fun q => Value.ref q.1).toArray 0)).get? s1.heap.objs.size = some (seqObj "list" (L1.map fun q => Value.ref q.1).toArray 0) := Heap.get?_push_size _ rfl
  have up : ∀ q ∈ L1, IsU X.prog X.w (s1.heap.push (seqObj "list" (L1.map fun q => Value.ref q.1).toArray 0)) q.2 q.1 := fun q hq => isU_up (R.tup q (pL.mem_iff.mp hq)) fun b u e => Heap.get?_push_of_some _ (k1 b u e)
  have e : EachIs (fun v (b : Addr × UK) => v = Value.ref b.1) (L1.map fun q => Value.ref q.1) L1 := by
    clear hoL up pm pL hl1
    induction L1 with
    | nil => exact .nil
    | cons x l ih => exact .cons rfl ih
  have er : EachIs (fun v (b : Addr × UK) => ∃ as, Reads (s1.heap.push (seqObj "list" (L1.map fun q => Value.ref q.1).toArray 0)) v (uPd b.2) as ∧ s1.heap.objs.size ∉ as) (L1.map fun q => Value.ref q.1) L1 :=
    (each_mem e).mono fun v b ⟨h1, h2⟩ => ⟨[], by rw [h1]; exact uReads (up b h2), by simp⟩
  have hal1 : AllAlike (L1.map fun b => uPd b.2) := fun d hd d' hd' => hal d ((pL.map _).mem_iff.mp hd) d' ((pL.map _).mem_iff.mp hd')
  have hs1 : Sortable (L1.map fun b => uPd b.2) := .inl fun d hd => by
    obtain ⟨p, hp, rfl⟩ := List.mem_map.mp hd
    have := hne p (pL.mem_iff.mp hp)
    unfold uPd
    cases e : p.2 with
    | nil => exact absurd e this
    | cons x r => exact ⟨kPd x, r.map kPd, rfl⟩
  refine wpAny_bind (wpAny_holding (list_sort_data (A := X.A.in1) (enc := fun b : Addr × UK => uPd b.2) (s := { s1 with heap := s1.heap.push (seqObj "list" (L1.map fun q => Value.ref q.1).toArray 0) }) hoL e er hal1 hs1 (by rw [sizeLine_eq]; omega) (fun b _ => ?_) fun out hlen eo => ?_))
  · have := uDepth b.2
    show X.A.units + 1 + 1 + _ < _
    omega
  obtain ⟨c, hcc⟩ := sortedHeap_at (vs := L1.map fun q => Value.ref q.1) (out := out.toArray) hoL
  have pm2 := List.mergeSort_perm L1 (dataLe false fun b : Addr × UK => uPd b.2)
  have pw : (L1.mergeSort (dataLe false fun b : Addr × UK => uPd b.2)).Pairwise (fun x y => dataLe false (fun p : Addr × UK => uPd p.2) x y = true) := sort_pairwise (sortLe_total (listOrd itemOrd) false fun b : Addr × UK => keyToks (uPd b.2)) L1
  have hn : H s1.heap.objs.size = none := I.hok.fresh hz
  have eo2 : EachIs (fun v (b : Addr × UK) => RelV (V.ref b.1) v) out (L1.mergeSort (dataLe false fun b : Addr × UK => uPd b.2)) := eo.mono fun v b h => by rw [h]; rfl
  have rv := each_vals eo2
  have keep : ∀ b u, s.heap.get? b = some u → (sortedHeap (s1.heap.push (seqObj "list" (L1.map fun q => Value.ref q.1).toArray 0)) s1.heap.objs.size (L1.map fun q => Value.ref q.1) out.toArray).get? b = some u := fun b u e => by
    have q1 := k1 b u e
    have lt := Heap.lt_size q1
    rw [sortedHeap_old (Nat.ne_of_lt lt) (by rw [size_push']; exact Nat.lt_succ_of_lt lt)]
    exact Heap.get?_push_of_some _ q1
  have hlen2 : ((L1.mergeSort (dataLe false fun b : Addr × UK => uPd b.2)).map fun q => V.ref q.1).length ≤ sizeLine := by rw [List.length_map, pm2.length_eq, sizeLine_eq]; omega
  generalize (L1.mergeSort (dataLe false fun b : Addr × UK => uPd b.2)) = L2 at pm2 pw eo eo2 rv hlen2
  have J : Inv X pins σ (upd H s1.heap.objs.size (.lst (L2.map fun q => V.ref q.1))) { s with heap := sortedHeap (s1.heap.push (seqObj "list" (L1.map fun q => Value.ref q.1).toArray 0)) s1.heap.objs.size (L1.map fun q => Value.ref q.1) out.toArray, gens := s1.gens, drawn := s1.drawn, toks := s1.toks } :=
    I.call (ch := []) (Un.laid keep hz hn) (I.hok.laid keep hz ⟨hlen2, out, c, rv, hcc⟩) (by rw [g1]; exact I.bare) (fun _ z => nomatch z)
  have e2 : ({ s1 with heap := sortedHeap (s1.heap.push (seqObj "list" (L1.map fun q => Value.ref q.1).toArray 0)) s1.heap.objs.size (L1.map fun q => Value.ref q.1) out.toArray } : Shared) = { s with heap := sortedHeap (s1.heap.push (seqObj "list" (L1.map fun q => Value.ref q.1).toArray 0)) s1.heap.objs.size (L1.map fun q => Value.ref q.1) out.toArray, gens := s1.gens, drawn := s1.drawn, toks := s1.toks } := by
    cases s1
    cases s
    cases o1
    rfl
  refine wpAny_pure ⟨_, rfl, ?_⟩
  rw [e2]
  exact ⟨.ref _, _, J, rfl, q L2 _ (pm2.trans pL) (((pm2.trans pL).map (·.2)).nodup_iff.mpr R.nd) pw hn⟩
/-- len(set), of tuples; of whole numbers and texts -/
def rLenU (P : Program) (w : World) : List V → Hp → VK → Prop := fun vs H Q => ∃ a, vs = [.ref a] ∧ ((∃ L, H a = some (SetUO P w a L) ∧ Q (.int L.length) H) ∨ ∃ S n, H a = some (SetK P w a S n) ∧ Q (.int (n : Nat)) H)
theorem cr_lenU : CallR X (.builtin "len") (rLenU X.prog X.w) := by
  intro pins s σ H vs us Q I r h
  obtain ⟨a, rfl, h⟩ := h
  rw [Vals.ref1 r]
  rcases h with ⟨L, ha, q⟩ | ⟨S, n, ha, q⟩
  · obtain ⟨es, ep, t, ⟨o, ho, hx, hd⟩, hr, T, _, _, hroom, few⟩ := (I.hok a _ ha).1
    have hl := rows_size hr
    have hf : t.fits es.size = true := by
      have h1 : t.place.size = L.length := by
        have := T.sz
        rwa [List.length_map] at this
      unfold SetTable.fits SetTable.fill
      rw [T.dm, Bool.and_eq_true, beq_iff_eq, decide_eq_true_eq]
      refine ⟨h1.trans hl.symm, ?_⟩
      show t.place.size + 0 ≤ t.mask
      omega
    refine call_len_set ho hx hd hf (by rw [hl]; omega) ⟨.int (L.length : Nat), H, I.tok _, ?_, q⟩
    rw [← hl]
    exact ⟨_, rfl⟩
  · obtain ⟨o, es, ep, t, ho, hx, hd, _, _, hb, hf, hn⟩ := setK_get I ha
    subst hn
    refine call_len_set ho hx hd hf (by unfold scanBound at hb; omega) ⟨.int (es.size : Nat), H, I.tok _, ⟨_, rfl⟩, q⟩
end
end Vl

namespace Vl
open PySem PySem.Spec PyProof.Rows L2
/-! ### set(xs), xs a list of tuples of whole numbers and texts -/
/-- what the set holds behind i items -/
structure Had (ks : UL) (i : Nat) (L : UL) : Prop where
  sub : ∀ p ∈ L, p ∈ ks
  all : ∀ p ∈ ks.take i, p.2 ∈ L.map (·.2)
  len : L.length ≤ i
theorem Had.next {ks L L' : UL} {i : Nat} {x : Addr} {k : UK} (g : Had ks i L) (h : ks[i]? = some (x, k)) (c1 : k ∈ L.map (·.2) → L' = L) (c2 : k ∉ L.map (·.2) → L'.Perm ((x, k) :: L)) : Had ks (i + 1) L' := by
  have tk : ks.take (i + 1) = ks.take i ++ [(x, k)] := by rw [List.take_add_one, h]; rfl
  by_cases c : k ∈ L.map (·.2)
  · rw [c1 c]
    refine ⟨g.sub, fun p hp => ?_, Nat.le_succ_of_le g.len⟩
    rw [tk] at hp
    rcases List.mem_append.mp hp with hp | hp
    · exact g.all p hp
    · rw [List.mem_singleton.mp hp]
      exact c
  · have pm := c2 c
    refine ⟨fun p hp => ?_, fun p hp => ?_, by rw [pm.length_eq]; exact Nat.succ_le_succ g.len⟩
    · rcases List.mem_cons.mp (pm.mem_iff.mp hp) with e | hp
      · rw [e]
        exact List.mem_of_getElem? h
      · exact g.sub p hp
    · rw [(pm.map (·.2)).mem_iff, List.map_cons, List.mem_cons]
      rw [tk] at hp
      rcases List.mem_append.mp hp with hp | hp
      · exact .inr (g.all p hp)
      · rw [List.mem_singleton.mp hp]
        exact .inl rfl
abbrev Old (h0 h : Heap) : Prop := ∀ b o, h0.get? b = some o → h.get? b = some o
/-- the set so far -/
def SoFar (P : Program) (w : World) (h0 : Heap) (S : Addr) (ks : UL) (i : Nat) (h : Heap) : Prop := Old h0 h ∧ ∃ L es ep t, SetUR P w h S L es ep t ∧ Had ks i L
section
variable {P : Program} {w : World} {A : Around} {E : Value → Shared → Prop} {s : Shared} {h0 : Heap} {S : Addr} {ks : UL}
theorem SoFar.up {i : Nat} {h h' : Heap} (q : SoFar P w h0 S ks i h) (hk : ∀ p ∈ ks, IsU P w h0 p.2 p.1) (o : Old h0 h') (hS : ∀ o, h.get? S = some o → h'.get? S = some o) : SoFar P w h0 S ks i h' := by
  obtain ⟨_, L, es, ep, t, R, g⟩ := q
  exact ⟨o, L, es, ep, t, R.up hS fun p hp => isU_up (hk p (g.sub p hp)) o, g⟩
theorem upd_u {I : Addr} {fp wr : List Addr} {G : Array GenState → Array GenState → Prop} {n : Nat} {Pv : Nat → Value → Prop} {St : Nat → Shared → Prop} {R : Result → Shared → Prop}
    (W : WalksS P w A.in1 I fp wr G n Pv St) (hSf : S ∉ fp) (hn : n = ks.length) (hfew : ks.length < 64) (hval : ∀ i v, Pv i v → ∃ p, ks[i]? = some p ∧ v = .ref p.1)
    (hk : ∀ p ∈ ks, IsU P w h0 p.2 p.1) (hS0 : h0.get? S = none) (hw0 : ∀ b ∈ wr, h0.get? b = none) (hu : A.in1.units < cLine)
    (m : Nat) : ∀ (i : Nat) (s : Shared), i + m = n → St i s → SoFar P w h0 S ks i s.heap → (∀ s', Moved (S :: wr) G s s' → SoFar P w h0 S ks n s'.heap → R (.ok (.ret .none)) s') →
      codeAny (model P w) A (.builtin "set.update.loop" ⟨[.ref S, .ref I], []⟩) R s := by
  have nw : S ∉ wr := fun z => hSf (W.sub _ z)
  have wide : ∀ b ∈ wr, b ∈ S :: wr := fun b z => List.mem_cons_of_mem _ z
  have old : ∀ {s s' : Shared}, Moved wr G s s' → Old h0 s.heap → Old h0 s'.heap := fun mv o b u e => mv.heap b u (fun z => by rw [hw0 b z] at e; cases e) (o b u e)
  have far : ∀ {i : Nat} {s s' : Shared}, Moved wr G s s' → SoFar P w h0 S ks i s.heap → SoFar P w h0 S ks i s'.heap := fun mv q => q.up hk (old mv q.1) fun o e => mv.heap S o nw e
  induction m with
  | zero =>
    intro i s e hst hq hR
    obtain rfl : i = n := e
    refine codeAny_builtin F.entry_set_update_loop ?_
    rw [Around.under_plainId F.plain_set_update_loop _]
    refine wpAny_bind (m := pyNext (.ref I)) (W.done s _ _ hst fun s' mv => ?_)
    show wpAny _ A.in1 (ret Value.none) _ _ s'
    exact wpAny_pure (hR s' (mv.mono wide) (far mv hq))
  | succ m ih =>
    intro i s e hst hq hR
    have lt : i < n := by omega
    refine codeAny_builtin F.entry_set_update_loop ?_
    rw [Around.under_plainId F.plain_set_update_loop _]
    refine wpAny_bind (m := pyNext (.ref I)) (W.item i s _ _ lt hst fun v s1 hP hst1 mv => ?_)
    obtain ⟨⟨x, k⟩, hp, rfl⟩ := hval i v hP
    obtain ⟨o1, L, es, ep, t, R1, g⟩ := far mv hq
    have hx : IsU P w s1.heap k x := isU_up (hk _ (List.mem_of_getElem? hp)) o1
    refine wpAny_bind (m := holding [Value.ref x] (setAdd S (.ref x))) (wpAny_holding ?_)
    unfold setAdd
    refine wpAny_holding (wpAny_bind (wpAny_pyHash_tuple hu hx ?_))
    refine add_u (s := { s1 with toks := s1.toks + (k.length + 1) }) R1 hx hu (by have := g.len; omega) fun b h2 L2 es2 ep2 t2 sb R2 c1 c2 => ?_
    have o2 : Old h0 h2 := fun b u z => (sb.2 b fun y => by rw [y, hS0] at z; cases z).trans (o1 b u z)
    refine wpAny_pure ⟨plainId_quiet F.plain_set_update_loop _, ih (i + 1) _ (by omega) (W.frame _ s1 _ _ hst1 (Nat.le_add_right _ _) fun b hb u z => ?_) ⟨o2, L2, es2, ep2, t2, R2, g.next hp c1 c2⟩ fun s3 mv3 hq3 => ?_⟩
    · rw [sb.2 b fun y => hSf (y ▸ hb)]
      exact z
    · refine hR s3 (Moved.trans W.gtrans ((mv.mono wide).then_heap (Nat.le_add_right _ _) fun b u hb z => ?_) mv3) hq3
      rw [sb.2 b fun y => hb (y ▸ List.mem_cons_self)]
      exact z
end
section
variable {P : Program} {w : World} {A : Around} {E : Value → Shared → Prop} {s : Shared}
/-- an empty set, new -/
abbrev ob0 (w : World) : Obj := { cls := .type "set", dict := none, data := .set #[] 0 (.fresh 0 0 (!w.params.followText "set-order")) }
/-- the new set, filled from the list -/
theorem init_u {l : Addr} {items : Array Value} (ks : UL) (hh : A.handled = none) (hl : s.heap.IsList l items) (hit : items.toList = ks.map fun p => Value.ref p.1) (hk : ∀ p ∈ ks, IsU P w s.heap p.2 p.1) (hfew : ks.length < 64) (hu : A.units + 1 < cLine) {Q : PySem.Fin → Shared → Prop}
    (h : ∀ (h' : Heap) (tk : Nat), SoFar P w s.heap s.heap.objs.size ks ks.length h' → wpAny (model P w) A (ret Value.none) Q E { s with heap := h', toks := tk }) :
    wpAny (model P w) A (Builtin.«set.__init__» ⟨[.ref s.heap.objs.size, .ref l], []⟩) Q E { s with heap := s.heap.push (ob0 w) } := by
  have lt : l < s.heap.objs.size := by
    obtain ⟨o, e, _⟩ := hl
    exact Heap.lt_size e
  have free : ∀ b, s.heap.objs.size ≤ b → s.heap.get? b = none := fun b hb => by
    cases q : s.heap.get? b with
    | none => rfl
    | some o => exact absurd (Nat.lt_of_lt_of_le (Heap.lt_size q) hb) (Nat.lt_irrefl _)
  have sz : (s.heap.push (ob0 w)).objs.size = s.heap.objs.size + 1 := Heap.size_push ..
  have at0 : (s.heap.push (ob0 w)).get? s.heap.objs.size = some (ob0 w) := Heap.get?_push_size _ rfl
  have l1 : (s.heap.push (ob0 w)).IsList l items := hl.push _
  have n : items.size = ks.length := by
    have q := congrArg List.length hit
    rwa [Array.length_toList, List.length_map] at q
  obtain ⟨ol, hol, hcl, nl, hdl⟩ := hl
  obtain ⟨oc, od, oda, osl⟩ := ol
  simp only at hcl hdl
  subst hcl hdl
  have hol' : (s.heap.push (ob0 w)).get? l = some { cls := .type "list", dict := od, data := .seq items nl, slots := osl } := Heap.get?_push_of_some _ hol
  have x1 := F.sub_list_set
  have x2 := F.sub_list_frozenset
  have x3 : (Value.type "list" == Value.type "dict") = false := by decide
  unfold Builtin.«set.__init__» noKeywords Builtin.Frozenset.updateFrom
  generalize hPI : pyIter = PI
  wp_walk
  subst hPI
  refine wpAny_pyIter_list l1 (wpAny_bind (wpAny_runValue ?_))
  have hh1 : A.in1.handled = none := by simp [hh]
  have ne : l ≠ (s.heap.push (ob0 w)).objs.size := by rw [sz]; exact Nat.ne_of_lt (Nat.lt_succ_of_lt lt)
  have out : s.heap.objs.size ∉ [(s.heap.push (ob0 w)).objs.size, l] := by
    rw [sz]
    simp only [List.mem_cons, List.not_mem_nil, or_false, not_or]
    exact ⟨Nat.ne_of_lt (Nat.lt_succ_self _), Nat.ne_of_gt lt⟩
  refine upd_u ((Walks.list hh1 _ l ne items).toS) (h0 := s.heap) (ks := ks) out n hfew (fun i v hv => ?_) hk (free _ (Nat.le_refl _)) (fun b hb => free b (by rw [List.mem_singleton.mp hb, sz]; exact Nat.le_succ _)) hu items.size 0 _ (by omega) ⟨⟨_, Heap.get?_push_size _ rfl, rfl, rfl⟩, l1.push _⟩ ⟨fun b o e => Heap.get?_push_of_some _ (Heap.get?_push_of_some _ e), [], _, _, _, setUR_new (Heap.get?_push_of_some _ at0), ⟨fun p hp => (by cases hp), fun p hp => (by simp at hp), Nat.le_refl _⟩⟩ fun s' mv hq => ?_
  · have q : items.toList[i]? = some v := by rw [Array.getElem?_toList]; exact hv
    rw [hit, List.getElem?_map] at q
    obtain ⟨p, q1, q2⟩ := Option.map_eq_some_iff.mp q
    exact ⟨p, q1, q2.symm⟩
  · obtain ⟨h', g', d', tk', os'⟩ := s'
    have eg : g' = s.gens := mv.gens
    have ed : d' = s.drawn := mv.drawn
    have eo : os' = s.os := mv.os
    subst eg ed eo
    rw [n] at hq
    exact wpAny_pure (h h' tk' hq)
/-- set(xs) -/
theorem call_set_u {l : Addr} {items : Array Value} (ks : UL) (hh : A.handled = none) (hl : s.heap.IsList l items) (hit : items.toList = ks.map fun p => Value.ref p.1) (hk : ∀ p ∈ ks, IsU P w s.heap p.2 p.1) (hfew : ks.length < 64) (hu : A.units + 3 < cLine) {Q : Value → Shared → Prop}
    (h : ∀ (h' : Heap) (tk : Nat), SoFar P w s.heap s.heap.objs.size ks ks.length h' → Q (.ref s.heap.objs.size) { s with heap := h', toks := tk }) :
    wpAny (model P w) A (call (.type "set") [.ref l]) Q E s := by
  obtain ⟨c, tl, hmro⟩ := F.called_set.mro
  have y1 := F.called_set.made
  have y2 := F.called_set.sub
  have y3 := F.called_set.notType
  have y4 := F.called_set.canCreate
  have y5 := F.typeCall_set_1 (.ref l)
  have y6 := F.called_set.init.lookup
  have y7 := F.called_set.init.bind (.ref s.heap.objs.size)
  refine wpAny_call (codeAny_of_tree ?_)
  show wpAny _ _ (callAny (.type "set") _) _ _ _
  refine wpAny_pure ⟨Code.quiet_builtin _ (by decide +kernel), codeAny_builtin F.entry_type_call ?_⟩
  rw [Around.under_plain (weight_type_call_type "set" [.ref l] []) rfl]
  repeat (any_goals (first | assumption | wp_step))
  refine codeAny_mono (code_set_led1 (.ref l) (E := E) (Q₁ := fun v s1 => v = .ref s.heap.objs.size ∧ s1 = { s with heap := s.heap.push (ob0 w) }) ⟨rfl, rfl⟩) fun r s1 hr => ?_
  cases r with
  | error e => exact hr
  | ok fl => cases fl with
    | ret v =>
      obtain ⟨rfl, rfl⟩ := hr
      have at0 : (s.heap.push (ob0 w)).get? s.heap.objs.size = some (ob0 w) := Heap.get?_push_size _ rfl
      have ty : Shared.TypeIs { s with heap := s.heap.push (ob0 w) } (.ref s.heap.objs.size) "set" := ⟨_, at0, rfl⟩
      repeat (any_goals (first | assumption | wp_step))
      refine codeAny_mono (codeAny_call_builtin (R := wants (fun v s2 => v = .none ∧ ∃ h' tk, s2 = { s with heap := h', toks := tk } ∧ SoFar P w s.heap s.heap.objs.size ks ks.length h') E) F.called_set.init.plain F.entry_set_init (check_set_init_1 ty ?_)) fun r2 s2 hr2 => ?_
      · refine init_u ks (by simp [hh]) hl hit hk hfew (by simp; omega) fun h' tk q => ?_
        exact wpAny_pure ⟨rfl, h', tk, rfl, q⟩
      · cases r2 with
        | error e => exact hr2
        | ok fl2 => cases fl2 with
          | ret v =>
            obtain ⟨rfl, h', tk, rfl, q⟩ := hr2
            repeat (any_goals (first | assumption | wp_step))
            exact h h' tk q
          | _ => exact hr2.elim
    | _ => exact hr.elim
end
section
variable {X : Cx}
theorem vals_refs : ∀ {ks : UL} {us : List Value}, Vals (ks.map fun p => V.ref p.1) us → us = ks.map fun p => Value.ref p.1
  | [], _, .nil => rfl
  | p :: ks, _, .cons r t => by
    cases r
    rw [vals_refs t]
    rfl
/-- set(xs), xs a list of tuples -/
def rSetOfU (K : PySem.W.Frag) (P : Program) (w : World) : List V → Hp → VK → Prop := fun xs H Q => ∃ (l : Addr) (ks : UL), xs = [V.ref l] ∧ SqL K H l (ks.map fun p => V.ref p.1) ∧ (∀ p ∈ ks, SqT K H p.1 (p.2.map kV)) ∧ ks.length < 64 ∧
  ∀ a L, H a = none → Had ks ks.length L → Q (.ref a) (upd H a (SetUO P w a L))
theorem cr_setOfU (hc : X.calm = true) (hu : X.A.units + 64 < cLine) : CallR X (.type "set") (rSetOfU X.K X.prog X.w) := by
  intro pins s σ H xs us Q I r h
  obtain ⟨l, ks, rfl, hl, hk, hf, q⟩ := h
  rw [Vals.ref1 r]
  obtain ⟨its, rv, pl, hz⟩ := I.list hl
  refine call_set_u (P := X.prog) (w := X.w) ks (I.ok.hd hc) pl.isList (by simpa using vals_refs rv) (fun p hp => inv_isU I (hk p hp)) hf (by omega) fun h' tk ⟨o, L, es, ep, t, R, g⟩ => ?_
  exact ⟨.ref s.heap.objs.size, upd H s.heap.objs.size (SetUO X.prog X.w s.heap.objs.size L), I.laid (t' := tk) o (Nat.le_refl _) (setUO_new R.u0), rfl, q _ L (I.hok.fresh (Nat.le_refl _)) g⟩
end
end Vl

namespace Vl
open PySem PySem.Spec PyProof.Rows L2
/-! ### comprehensions -/
section
variable {K : PySem.W.Frag} {B : Bs} {σ σ2 : L2.St} {G H G2 H2 G4 H4 : Hp} {Γ Γ2 Γ4 : Gm} {vs : List Nat}
/-- less known of the slots -/
theorem EnvOk.more (e : EnvOk K B G H σ2 Γ) (hl : σ2.length = σ.length) (w : ∀ (i : Nat) x, σ2[i]? = some (some x) → σ[i]? = some (some x)) : EnvOk K B G H σ Γ := by
  refine ⟨e.len.trans hl, e.gh, e.g0, e.gn, e.fr, fun i d q => ?_, fun i c q => ?_, fun i j c c' l q1 q2 z1 z2 => ?_, fun i l q => ?_, e.wd.step (Same.refl _) (fun a m g => g) (fun a m u q => q) rfl rfl (fun _ _ h => ⟨h, fun x y => w _ _ y⟩) (fun i c a q1 q2 => ?_) rfl fun _ _ h => .inl h⟩
  · obtain ⟨v, h1, h2⟩ := e.im i d q
    exact ⟨v, w _ _ h1, h2⟩
  · obtain ⟨l, o, h1, h2⟩ := e.ow i c q
    exact ⟨l, o, w _ _ h1, h2⟩
  · obtain ⟨l1, _, h1, _⟩ := e.ow i c q1
    obtain ⟨l2, _, h2, _⟩ := e.ow j c' q2
    have e1 := w _ _ h1
    have e2 := w _ _ h2
    rw [z1] at e1
    rw [z2] at e2
    cases e1
    cases e2
    exact e.sep i j c c' l q1 q2 h1 h2
  · obtain ⟨h1, h2⟩ := e.bo i l q
    exact ⟨w _ _ h1, h2⟩
  · obtain ⟨l, _, h1, _⟩ := e.ow i c q1
    have e1 := w _ _ h1
    rw [q2] at e1
    cases e1
    exact e.wd.sp i c _ q1 h1
theorem EnvOk.wipes (e : EnvOk K B G H σ Γ) (cl : Cln vs Γ) : EnvOk K B G H (wipe σ vs) Γ := by
  have out : ∀ (i : Nat) s, Γ.sl[i]? = some s → s ≠ .un → (wipe σ vs)[i]? = σ[i]? := fun i s q n => wipe_out fun z => n (cl i z s q)
  refine ⟨by rw [wipe_length]; exact e.len, e.gh, e.g0, e.gn, e.fr, fun i d q => ?_, fun i c q => ?_, fun i j c c' l q1 q2 z1 z2 => ?_, fun i l q => ?_, e.wd.step (Same.refl _) (fun a m g => g) (fun a m u q => q) rfl rfl (fun i _ h => ⟨h, fun x y => by rw [out i _ h (fun z => by cases z)]; exact y⟩) (fun i c a q1 q2 => e.wd.sp i c a q1 (by rw [← out i _ q1 (fun z => by cases z)]; exact q2)) rfl fun _ _ h => .inl h⟩
  · obtain ⟨v, h1, h2⟩ := e.im i d q
    exact ⟨v, by rw [out i _ q (fun z => by cases z)]; exact h1, h2⟩
  · obtain ⟨l, o, h1, h2⟩ := e.ow i c q
    exact ⟨l, o, by rw [out i _ q (fun z => by cases z)]; exact h1, h2⟩
  · rw [out i _ q1 (fun z => by cases z)] at z1
    rw [out j _ q2 (fun z => by cases z)] at z2
    exact e.sep i j c c' l q1 q2 z1 z2
  · obtain ⟨h1, c, h2⟩ := e.bo i l q
    exact ⟨by rw [out i _ h2 (fun z => by cases z)]; exact h1, c, h2⟩
theorem wipe_eq_out {i : Nat} (e : wipe σ2 vs = wipe σ vs) (h : i ∉ vs) : σ2[i]? = σ[i]? := by
  rw [← wipe_out (σ := σ2) h, e, wipe_out h]
/-- what was evaluated in the block, said of the slots behind it -/
theorem EvP.blk (q : EvP K B σ2 G2 H2 Γ2 G4 H4 Γ4) (nb : ∀ v ∈ vs, ∀ l, B.bo ≠ some (v, l)) (hw : wipe σ2 vs = wipe σ vs) (ho : ∀ (i : Nat) c, Γ2.sl[i]? = some (.ow c) → Γ.sl[i]? = some (.ow c)) (hs : ∀ (i : Nat), i ∉ vs → Γ2.sl[i]? = Γ.sl[i]?) (cl : Cln vs Γ) (ea : Γ2.as = Γ.as) :
    EvP K B σ G2 H2 Γ G4 H4 (wipeD Γ4 vs) := by
  have n1 : ∀ (i : Nat) c, Γ.sl[i]? = some (.ow c) → i ∉ vs := fun i c e z => by have z2 := cl i z _ e; cases z2
  refine ⟨?_, q.gg, q.gn, fun a o ha n m => q.hh a o ha (fun i c e => ?_) (by rw [ea]; exact m), fun i => ⟨fun ⟨c, e⟩ => ?_, fun ⟨c, e⟩ => ?_⟩, by rw [← ea]; exact q.as⟩
  · have e1 := (q.env.dull nb).wipes (wipeD_cln Γ4 vs)
    rw [hw] at e1
    exact e1.more (wipe_length _ _) fun i x z => (wipe_some z).1
  · have e1 := ho i c e
    rw [wipe_eq_out hw (n1 i c e1)]
    exact n i c e1
  · have ni := n1 i c e
    obtain ⟨c', z⟩ := (q.sh i).mp ⟨c, by rw [hs i ni]; exact e⟩
    exact ⟨c', by rw [wipeD_out ni]; exact z⟩
  · obtain ⟨ni, z⟩ := wipeD_ow e
    obtain ⟨c', z⟩ := (q.sh i).mpr ⟨c, z⟩
    exact ⟨c', ho i c' z⟩
/-- a cell that no slot holds, changed -/
theorem EvP.poke {G0 H0 : Hp} {Γ0 : Gm} (p : EvP K B σ G0 H0 Γ0 G H Γ) {D : Addr} {o : HO} (h0 : H0 D = none) (g : G D = none) (n : ∀ (i : Nat) c, Γ.sl[i]? = some (.ow c) → σ[i]? ≠ some (some (.ref D))) (bh : B.H D = none) (na : D ∉ Γ.as) :
    EvP K B σ G0 H0 Γ0 G (upd H D o) Γ := by
  have e := p.env
  refine ⟨⟨e.len, fun a u q => ?_, e.g0, e.gn, fun a u q nn mm => ?_, e.im, fun i c q => ?_, e.sep, e.bo, e.wd.step (Same.refl _) (fun a m g => g) (fun a m u q => by rw [upd_ne fun z => na (by rw [← z]; exact m)]; exact q) rfl rfl (fun _ _ h => ⟨h, fun _ h => h⟩) e.wd.sp rfl fun _ _ h => .inl h⟩, p.gg, p.gn, fun a u q nn mm => ?_, p.sh, p.as⟩
  · rw [upd_ne (ne_of_none q g)]; exact e.gh a u q
  · rw [upd_ne (ne_of_none q bh)]; exact e.fr a u q nn mm
  · obtain ⟨l, o', q1, q2, q3, q4, q5⟩ := e.ow i c q
    have ne : l ≠ D := fun z => n i c q (by rw [q1, z])
    exact ⟨l, o', q1, q2, by rw [upd_ne ne]; exact q3, q4, q5⟩
  · rw [upd_ne (ne_of_none q h0)]; exact p.hh a u q nn mm
end
/-! the target of a block -/
structure Tgt (vs : List Nat) (σ : L2.St) (Γ : Gm) (σ' : L2.St) (Γ' : Gm) : Prop where
  w : wipe σ' vs = wipe σ vs
  o : ∀ (i : Nat) c, Γ'.sl[i]? = some (.ow c) → Γ.sl[i]? = some (.ow c)
  s : ∀ (i : Nat), i ∉ vs → Γ'.sl[i]? = Γ.sl[i]?
  a : Γ'.as = Γ.as
theorem Tgt.refl {vs : List Nat} {σ : L2.St} {Γ : Gm} : Tgt vs σ Γ σ Γ := ⟨rfl, fun _ _ h => h, fun _ _ => rfl, rfl⟩
theorem Tgt.trans {vs : List Nat} {σ σ1 σ2 : L2.St} {Γ Γ1 Γ2 : Gm} (a : Tgt vs σ Γ σ1 Γ1) (b : Tgt vs σ1 Γ1 σ2 Γ2) : Tgt vs σ Γ σ2 Γ2 := ⟨b.w.trans a.w, fun i c h => a.o i c (b.o i c h), fun i h => (b.s i h).trans (a.s i h), b.a.trans a.a⟩
theorem wipe_set {σ : L2.St} {i : Nat} {x : Option V} : ∀ {vs : List Nat}, i ∈ vs → wipe (σ.set i x) vs = wipe σ vs
  | [], h => by cases h
  | v :: vs, h => by
    unfold wipe
    by_cases e : i ∈ vs
    · rw [wipe_set e]
    · rcases List.mem_cons.mp h with z | z
      · subst z
        have key : ∀ us : List Nat, i ∉ us → wipe (σ.set i x) us = (wipe σ us).set i x := by
          intro us
          induction us with
          | nil => exact fun _ => rfl
          | cons u us ih =>
            intro n
            unfold wipe
            rw [ih fun z => n (List.mem_cons_of_mem _ z), List.set_comm _ _ (fun z => n (by rw [z]; exact List.mem_cons_self))]
        rw [key vs e, List.set_set]
      · exact absurd z e
def lGv (K : PySem.W.Frag) (tk : Tk) (vs : List Nat) (T : TGD) : TG := fun v σ H Q => ∃ (B : Bs) (R : ExD) (Γ : Gm) (G : Hp) (d : D) (Φ : Gm → Prop), tk B R ∧ EnvOk K B G H σ Γ ∧ Rep K G v d ∧ T d Γ Φ ∧ ∀ σ' Γ', EnvOk K B G H σ' Γ' → Tgt vs σ Γ σ' Γ' → Φ Γ' → Q σ' H
def lGsv (K : PySem.W.Frag) (tk : Tk) (vs : List Nat) (T : TGsD) : TGs := fun us σ H Q => ∃ (B : Bs) (R : ExD) (Γ : Gm) (G : Hp) (ds : List D) (Φ : Gm → Prop), tk B R ∧ EnvOk K B G H σ Γ ∧ Reps K G us ds ∧ T ds Γ Φ ∧ ∀ σ' Γ', EnvOk K B G H σ' Γ' → Tgt vs σ Γ σ' Γ' → Φ Γ' → Q σ' H
def PGV (X : Cx) (tk : Tk) (vs : List Nat) (tg : Expr) (T : TGD) : Prop := PG X tg (lGv X.K tk vs T)
def PGVs (X : Cx) (tk : Tk) (vs : List Nat) (tg : List Expr) (T : TGsD) : Prop := PGs X tg (lGsv X.K tk vs T)
section
variable {X : Cx} {tk : Tk} {vs : List Nat} {e : Expr} {pos : Pos}
theorem pgv_name (i : Nat) {x : Str} (hv : i ∈ vs) (nb : NbT tk i) (hN : X.N.Nodup) (hi : X.N[i]? = some x := by rfl) (hx : Loc X.env.scope x := by first | exact Or.inl rfl | exact Or.inr rfl) (hf : X.fn x = true ∨ X.env.scope.names.lookup x = some .local := by first | exact .inl rfl | exact .inr rfl) :
    PGV X tk vs (.Name x pos) (gNameD i) :=
  pg_imp (pg_name hN hi hx hf) fun v σ H Q ⟨B, R, Γ, G, d, Φ, t, en, r, h, k⟩ => k _ _ (en.setIm (nb B R t) r) ⟨wipe_set hv, fun j c q => by
    rcases gset_at q with ⟨_, _, z⟩ | ⟨_, z⟩
    · cases z
    · exact z, fun j hj => List.getElem?_set_ne (fun z => hj (by rw [← z]; exact hv)), rfl⟩ h
theorem pgvs_nil : PGVs X tk vs [] gNilD := pgs_imp pgs_nil fun v σ H Q ⟨B, R, Γ, G, ds, Φ, t, en, r, ⟨h1, h2⟩, k⟩ => by
  subst h1
  cases r
  exact ⟨rfl, k σ Γ en Tgt.refl h2⟩
theorem pgvs_cons {es : List Expr} {t : TGD} {u : TGsD} (h1 : PGV X tk vs e t) (h2 : PGVs X tk vs es u) (hs : (assignEach (e :: es) X.env).map (·.2) = assign e X.env :: (assignEach es X.env).map (·.2) := by rfl) : PGVs X tk vs (e :: es) (gConsD t u) :=
  pgs_imp (pgs_cons h1 h2 hs) fun us σ H Q ⟨B, R, Γ, G, ds, Φ, t, en, r, h, k⟩ => by
    cases r with
    | nil => exact h.elim
    | cons r1 r2 => exact ⟨_, _, rfl, B, R, Γ, G, _, _, t, en, r1, h, fun σ' Γ' en' s h' => ⟨B, R, Γ', G, _, Φ, t, en', r2, h', fun σ2 Γ2 en2 s2 h2 => k σ2 Γ2 en2 (s.trans s2) h2⟩⟩
theorem pgv_tup {es : List Expr} {k : Nat} {u : TGsD} {n : Nat} (hc : X.calm = true) (h : PGVs X tk vs es u) (hn : (assignEach es X.env).length = n := by rfl) (hst : (assignEach es X.env).findIdx? (·.1) = none := by rfl) : PGV X tk vs (.Tuple es k pos) (gTupD n u) := by
  refine ⟨fun pins s σ H v w Q I r hw => ?_⟩
  obtain ⟨B, R, Γ, G, d, Φ, t, en, rd, h1, kk⟩ := hw
  cases rd with
  | tup hp l rr => exact (pg_tup hc h hn hst).run pins s σ H _ w Q I r ⟨_, _, rfl, same_t en.gh hp, by rw [rr.length]; exact h1.1, B, R, Γ, G, _, Φ, t, en, rr, h1.2, kk⟩
  | lst hp l rr => exact (L2.pg_lst hc h hn hst).run pins s σ H _ w Q I r ⟨_, _, rfl, SqL.of (en.gh _ _ hp), by rw [rr.length]; exact h1.1, B, R, Γ, G, _, Φ, t, en, rr, h1.2, kk⟩
  | _ => exact h1.elim
end
/-- the wishes within a block: nothing is raised -/
abbrev TkB (bs : Option Nat) : Tk := fun B R => R = nvr ∧ ∀ i l, B.bo = some (i, l) → bs = some i
def TkBs (tk : Tk) (bs : Option Nat) : Prop := ∀ B R, tk B R → ∀ i l, B.bo = some (i, l) → bs = some i
theorem tkBs_S {X : Cx} {bs : Option Nat} : TkBs (TkS X bs) bs := fun _ _ t => t.2
theorem tkBs_B {bs : Option Nat} : TkBs (TkB bs) bs := fun _ _ t => t.2
theorem nbB {bs : Option Nat} {i : Nat} (h : bs ≠ some i) : NbT (TkB bs) i := fun B R t l q => h (t.2 i l q)
theorem tkB_ok {X : Cx} {bs : Option Nat} : TkOk X (TkB bs) := fun _ _ h => tk0_ok h.1
/-- the tests of a comprehension -/
def PFTs (X : Cx) (tk : Tk) (ifs : List Expr) (T : TTD) : Prop := PTs X ifs (lT X.K tk T)
def tYesD : TTD := fun _ Γ Φ => Φ true Γ
theorem pfts_nil {X : Cx} {tk : Tk} : PFTs X tk [] tYesD := ⟨fun pins s σ H Q I ⟨B, R, Γ, G, Φ, t, en, h, k⟩ => pts_nil.run pins s σ H Q I (k true G H Γ (EvP.refl en) h)⟩
theorem pfts_one {X : Cx} {tk : Tk} {c : Expr} {T : TTD} (h : PFT X tk c T) : PFTs X tk [c] T := pts_one h
theorem wipe_idem (σ : L2.St) (vs : List Nat) : wipe (wipe σ vs) vs = wipe σ vs := by
  have key : ∀ (us : List Nat) (τ : L2.St), (∀ v ∈ us, τ[v]? = some none ∨ τ[v]? = none) → wipe τ us = τ := by
    intro us
    induction us with
    | nil => exact fun τ _ => rfl
    | cons u us ih =>
      intro τ hτ
      unfold wipe
      rw [ih τ fun v hv => hτ v (List.mem_cons_of_mem _ hv)]
      apply List.ext_getElem?
      intro j
      rw [List.getElem?_set]
      by_cases z : u = j
      · subst z
        rw [if_pos rfl]
        rcases hτ u List.mem_cons_self with w | w
        · rw [w, if_pos (List.getElem?_eq_some_iff.mp w).1]
        · rw [w, if_neg]
          rw [List.getElem?_eq_none_iff] at w
          omega
      · rw [if_neg z]
  refine key vs (wipe σ vs) fun v hv => ?_
  cases q : (wipe σ vs)[v]? with
  | none => exact .inr rfl
  | some o => cases o with
    | none => exact .inl rfl
    | some y => exact absurd hv (wipe_some q).2
/-- [elt for target in iter if ..] -/
def lcF (g : TGD) (tt : TTD) (te : TF) (vs : List Nat) (Φ : Cl → Gm → Prop) : List D → List D → Gm → Prop
  | [], acc, Γ => Φ (.lst acc) Γ
  | d :: ds, acc, Γ => g d Γ fun Γ2 => tt nvr Γ2 fun b Γ3 => if b = true then te nvr Γ3 fun y Γ4 => acc.length < sizeLine ∧ lcF g tt te vs Φ ds (acc ++ [y]) (wipeD Γ4 vs) else lcF g tt te vs Φ ds acc (wipeD Γ3 vs)
def tLcD (it : TAD) (g : TGD) (tt : TTD) (te : TF) (vs : List Nat) : TOD := fun R Γ Φ => it R Γ fun ds Γ1 => nOw vs Γ1 = true ∧ lcF g tt te vs Φ ds [] (wipeD Γ1 vs)
theorem lcF_inv {g : TGD} {tt : TTD} {te : TF} {vs : List Nat} {Φ : Cl → Gm → Prop} {ds : List D} {Γ1 : Gm} (h : lcF g tt te vs Φ ds [] (wipeD Γ1 vs)) : ∃ P : Nat → List D → Gm → Prop, P 0 [] (wipeD Γ1 vs) ∧
    (∀ (i : Nat) d acc Γ', ds[i]? = some d → P i acc Γ' → g d Γ' fun Γ2 => tt nvr Γ2 fun b Γ3 => if b = true then te nvr Γ3 fun y Γ4 => acc.length < sizeLine ∧ P (i + 1) (acc ++ [y]) (wipeD Γ4 vs) else P (i + 1) acc (wipeD Γ3 vs)) ∧
    ∀ acc Γ', P ds.length acc Γ' → Φ (.lst acc) Γ' := by
  refine ⟨fun i acc Γ => lcF g tt te vs Φ (ds.drop i) acc Γ, h, fun i d acc Γ' e p => ?_, fun acc Γ' p => ?_⟩
  · have hi := (List.getElem?_eq_some_iff.mp e).1
    have e2 : ds.drop i = d :: ds.drop (i + 1) := by
      rw [List.drop_eq_getElem_cons hi]
      congr 1
      exact (List.getElem?_eq_some_iff.mp e).2
    replace p : lcF g tt te vs Φ (ds.drop i) acc Γ' := p
    rw [e2] at p
    exact p
  · replace p : lcF g tt te vs Φ (ds.drop ds.length) acc Γ' := p
    rw [List.drop_length] at p
    exact p
section
variable {X : Cx} {tk : Tk} {bs : Option Nat} {elt tg iter : Expr} {ifs : List Expr} {scope : Scope} {own : List (Str × Nat)} {pos : Pos} {it : TAD} {g : TGD} {tt : TTD} {te : TF}
theorem lc_read {X : Cx} (own : List (Str × Nat)) (tb : TkBs tk bs) (hb : ∀ p ∈ own, bs ≠ some p.2) {σ : L2.St} {H : Hp} {Q : VK} (h : lO X.K tk (tLcD it g tt te (own.map (·.2))) σ H Q) :
    tLc (lI X.K tk it) (lGv X.K (TkB bs) (List.map (fun x : Str × Nat => x.2) own) g) (lT X.K (TkB bs) tt) (lE X.K (TkB bs) te) (own.map (·.2)) σ H Q := by
  obtain ⟨B, R, Γ, G, Φ, t, en, h, kk⟩ := h
  refine ⟨B, R, Γ, G, _, t, en, h, fun J G1 H1 Γ1 ds p1 iok ⟨no, hF⟩ D hD => ?_⟩
  obtain ⟨P, h0, hst, hd⟩ := lcF_inv hF
  have bo := tb B R t
  have nb : ∀ v ∈ own.map (·.2), ∀ l, B.bo ≠ some (v, l) := fun v hv l q => by
    obtain ⟨p, hp, rfl⟩ := List.mem_map.mp hv
    exact hb p hp (bo _ _ q)
  have tB : TkB bs B nvr := ⟨rfl, bo⟩
  generalize own.map (·.2) = vs at *
  have e1 := p1.env
  have gD1 : G1 D = none := e1.gh.free hD
  have bD : B.H D = none := e1.bhNone hD
  have e1w : EnvOk X.K B G1 H1 σ (wipeD Γ1 vs) := e1.dull nb
  have nmD : D ∉ Γ1.as := e1.wd.out hD
  have pw : EvP X.K B σ G1 H1 Γ1 G1 H1 (wipeD Γ1 vs) := ⟨e1w, Same.refl _, fun _ _ q => .inl q, fun _ _ q _ _ => q, fun i => ⟨fun ⟨c, q⟩ => ⟨c, by rw [wipeD_out fun z => nOw_ok no z q]; exact q⟩, fun ⟨c, q⟩ => ⟨c, (wipeD_ow q).2⟩⟩, [], by simp [wipeD], fun _ h => by cases h⟩
  have nD1 : ∀ (i : Nat) c, (wipeD Γ1 vs).sl[i]? = some (.ow c) → σ[i]? ≠ some (some (.ref D)) := e1w.noOw hD
  refine ⟨fun i m H' => m = ds.length - i ∧ i ≤ ds.length ∧ ∃ G' Γ' acc ys, EvP X.K B σ G1 H1 (wipeD Γ1 vs) G' H' Γ' ∧ Cln vs Γ' ∧ P i acc Γ' ∧ H' D = some (.lst ys) ∧ D ∉ Γ'.as ∧ G' D = none ∧ ys.length ≤ sizeLine ∧ Reps X.K G' ys acc,
    ⟨ds.length, by simp, Nat.zero_le _, G1, wipeD Γ1 vs, [], [], e1w.cell hD, wipeD_cln Γ1 vs, h0, upd_same, nmD, gD1, Nat.zero_le _, .nil⟩, ?_⟩
  rintro i m H' ⟨rfl, hle, G', Γ', acc, ys, p', cl, hP, hD', nmD', gD', hz, rr⟩
  have nD' : ∀ (i : Nat) c, Γ'.sl[i]? = some (.ow c) → σ[i]? ≠ some (some (.ref D)) := fun i c q => by
    obtain ⟨c', q'⟩ := (p'.sh i).mpr ⟨c, q⟩
    exact nD1 i c' q'
  by_cases hlt : i < ds.length
  · refine .inr ⟨iok.1 i H' (p'.gg.trans p'.env.gh) hlt, fun H2 => ∃ G2 Γ2 acc ys, EvP X.K B σ G1 H1 (wipeD Γ1 vs) G2 H2 Γ2 ∧ Cln vs Γ2 ∧ P (i + 1) acc Γ2 ∧ H2 D = some (.lst ys) ∧ D ∉ Γ2.as ∧ G2 D = none ∧ ys.length ≤ sizeLine ∧ Reps X.K G2 ys acc, fun H2 z => ⟨ds.length - (i + 1), by omega, rfl, hlt, z⟩, fun x H2 hy => ?_⟩
    obtain ⟨d, G2, hdi, ex, rd⟩ := iok.2.2 i G' H' x H2 p'.gg p'.env.gh hlt hy
    have pe := p'.env.ext ex
    have e2 := pe.env
    have hD2 : H2 D = some (.lst ys) := pe.hh D _ hD' nD' nmD'
    have gD2 : G2 D = none := by
      cases q : G2 D with
      | none => rfl
      | some o => rcases ex.gn D o q with z | z
                  · rw [gD'] at z; cases z
                  · rw [hD'] at z; cases z
    refine ⟨B, nvr, Γ', G2, d, _, tB, e2.wipes cl, rd, hst i d acc Γ' hdi hP, fun σ2 Γ2 en2 tg2 h2 => ⟨tg2.w.trans (wipe_idem σ vs), B, nvr, Γ2, G2, _, tB, en2, h2, fun b G3 H3 Γ3 p3 h3 => ?_⟩⟩
    have hw2 : wipe σ2 vs = wipe σ vs := tg2.w.trans (wipe_idem σ vs)
    have noB : ∀ {GX HX : Hp} {ΓX : Gm}, EvP X.K B σ2 G2 H2 Γ2 GX HX ΓX → EvP X.K B σ G1 H1 (wipeD Γ1 vs) GX HX (wipeD ΓX vs) ∧ HX D = some (.lst ys) ∧ D ∉ (wipeD ΓX vs).as ∧ GX D = none := fun {GX HX ΓX} q => by
      refine ⟨(p'.trans pe).trans (q.blk nb hw2 tg2.o tg2.s cl tg2.a), q.hh D _ hD2 (fun j c e => ?_) (by rw [tg2.a]; exact nmD'), q.nas hD2 (by rw [tg2.a]; exact nmD'), ?_⟩
      · have e2 := tg2.o j c e
        rw [wipe_eq_out hw2 fun z => by have z2 := cl j z _ e2; cases z2]
        exact nD' j c e2
      · cases w : GX D with
        | none => rfl
        | some o => rcases q.gn D o w with z | z
                    · rw [gD2] at z; cases z
                    · rw [hD2] at z; cases z
    cases b with
    | false =>
      refine iteF ?_
      obtain ⟨a1, a2, am, a3⟩ := noB p3
      exact ⟨G3, _, acc, ys, a1, wipeD_cln _ _, by simpa using h3, a2, am, a3, hz, rr.mono (ex.gg.trans p3.gg)⟩
    | true =>
      refine iteT ?_
      have h3 : te nvr Γ3 fun y Γ4 => acc.length < sizeLine ∧ P (i + 1) (acc ++ [y]) (wipeD Γ4 vs) := by simpa using h3
      refine ⟨B, nvr, Γ3, G3, _, tB, p3.env, h3, fun y G4 H4 Γ4 dy p4 ry ⟨hs4, hP4⟩ => ?_⟩
      obtain ⟨a1, a2, am, a3⟩ := noB (p3.trans p4)
      have lacc : ys.length = acc.length := rr.length
      refine ⟨ys, a2, by rw [lacc]; exact hs4, G4, _, acc ++ [dy], ys ++ [y], a1.poke hD a3 (fun j c e => ?_) bD am, wipeD_cln _ _, hP4, upd_same, am, a3, ?_, (rr.mono ((ex.gg.trans p3.gg).trans p4.gg)).append (.cons ry .nil)⟩
      · obtain ⟨c', e'⟩ := (a1.sh j).mpr ⟨c, e⟩
        exact nD1 j c' e'
      · rw [List.length_append, lacc]
        exact hs4
  · have ei : i = ds.length := by omega
    subst ei
    refine .inl ⟨iok.2.1 _ H' (p'.gg.trans p'.env.gh) rfl, kk (.ref D) G' H' Γ' (.lst acc) (p1.trans (pw.trans p')) ⟨D, _, rfl, gD', hD', ⟨ys, rfl, hz, rr⟩, p1.back hD, nmD'⟩ (hd acc Γ' hP)⟩
theorem po_lc (own : List (Str × Nat)) (hc : X.calm = true) (hN : X.N.Nodup) (tb : TkBs tk bs) (hb : ∀ p ∈ own, bs ≠ some p.2) (hi : PFI X tk tg iter it) (ok : BlkOk X.N X.env.scope scope own)
    (hg : ∀ (s : Shared) (H : Hp) (C : Addr) (cl : List (Str × Addr)) (fp : List Addr), PGV (X.blk s H scope (compEnvC scope cl C X.env) fp) (TkB bs) (own.map (·.2)) tg g)
    (ht : ∀ (s : Shared) (H : Hp) (C : Addr) (cl : List (Str × Addr)) (fp : List Addr), PFTs (X.blk s H scope (compEnvC scope cl C X.env) fp) (TkB bs) ifs tt)
    (he : ∀ (s : Shared) (H : Hp) (C : Addr) (cl : List (Str × Addr)) (fp : List Addr), PF (X.blk s H scope (compEnvC scope cl C X.env) fp) (TkB bs) elt te) (hs : ∀ x, foldedSetIterable iter X.env x = pure x := by intro _; rfl) :
    PFO X tk (.ListComp elt [⟨tg, iter, ifs, 0⟩] scope pos) (tLcD it g tt te (own.map (·.2))) :=
  pe_imp (pe_lc (g := lGv X.K (TkB bs) (List.map (fun x : Str × Nat => x.2) own) g) (tt := lT X.K (TkB bs) tt) (te := lE X.K (TkB bs) te) hc hN hi ok hg ht he hs) fun σ H Q h => lc_read own tb hb h
/-- name = [..], the name a local, on one line -/
theorem pfs_setLc (i : Nat) {y : Str} {py spos : Pos} (own : List (Str × Nat)) (nb : NbT tk i) (hc : X.calm = true) (hN : X.N.Nodup) (tb : TkBs tk bs) (hb : ∀ p ∈ own, bs ≠ some p.2) (hi : PFI X tk tg iter it) (ok : BlkOk X.N X.env.scope scope own)
    (hg : ∀ (s : Shared) (H : Hp) (C : Addr) (cl : List (Str × Addr)) (fp : List Addr), PGV (X.blk s H scope (compEnvC scope cl C X.env) fp) (TkB bs) (own.map (·.2)) tg g)
    (ht : ∀ (s : Shared) (H : Hp) (C : Addr) (cl : List (Str × Addr)) (fp : List Addr), PFTs (X.blk s H scope (compEnvC scope cl C X.env) fp) (TkB bs) ifs tt)
    (he : ∀ (s : Shared) (H : Hp) (C : Addr) (cl : List (Str × Addr)) (fp : List Addr), PF (X.blk s H scope (compEnvC scope cl C X.env) fp) (TkB bs) elt te) (hy : X.N[i]? = some y := by rfl) (hyl : X.env.scope.names.lookup y = some .local := by rfl)
    (hsw : swapsWith (.ListComp elt [⟨tg, iter, ifs, 0⟩] scope pos) (some (.Name y py)) spos.line X.env = pure true := by rfl) (hs : ∀ x, foldedSetIterable iter X.env x = pure x := by intro _; rfl) :
    PFS X tk (.Assign [.Name y py] (.ListComp elt [⟨tg, iter, ifs, 0⟩] scope pos) spos) (tSetO i (tLcD it g tt te (own.map (·.2)))) :=
  ps_imp (ps_setLc (g := lGv X.K (TkB bs) (List.map (fun x : Str × Nat => x.2) own) g) (tt := lT X.K (TkB bs) tt) (te := lE X.K (TkB bs) te) hc hN hy hyl hsw hi ok hg ht he hs) fun D' σ H h => lc_read own tb hb (asg_coreO nb h)
theorem fz_core {T : TOD} {σ : L2.St} {H : Hp} {Q : VK} (h : lE X.K tk (tFz T) σ H Q) : lO X.K tk T σ H Q := by
  obtain ⟨B, R, Γ, G, Φ, t, en, h, k⟩ := h
  refine ⟨B, R, Γ, G, _, t, en, h, fun v G1 H1 Γ1 c p f h1 => ?_⟩
  obtain ⟨G2, p2, r2⟩ := EvP.fz en p f
  exact k v G2 H1 Γ1 _ p2 r2 h1
theorem pfs_setLcF (i : Nat) {y : Str} {py spos : Pos} (own : List (Str × Nat)) (nb : NbT tk i) (hc : X.calm = true) (hN : X.N.Nodup) (tb : TkBs tk bs) (hb : ∀ p ∈ own, bs ≠ some p.2) (hi : PFI X tk tg iter it) (ok : BlkOk X.N X.env.scope scope own)
    (hg : ∀ (s : Shared) (H : Hp) (C : Addr) (cl : List (Str × Addr)) (fp : List Addr), PGV (X.blk s H scope (compEnvC scope cl C X.env) fp) (TkB bs) (own.map (·.2)) tg g)
    (ht : ∀ (s : Shared) (H : Hp) (C : Addr) (cl : List (Str × Addr)) (fp : List Addr), PFTs (X.blk s H scope (compEnvC scope cl C X.env) fp) (TkB bs) ifs tt)
    (he : ∀ (s : Shared) (H : Hp) (C : Addr) (cl : List (Str × Addr)) (fp : List Addr), PF (X.blk s H scope (compEnvC scope cl C X.env) fp) (TkB bs) elt te) (hy : X.N[i]? = some y := by rfl) (hyl : X.env.scope.names.lookup y = some .local := by rfl)
    (hsw : swapsWith (.ListComp elt [⟨tg, iter, ifs, 0⟩] scope pos) (some (.Name y py)) spos.line X.env = pure true := by rfl) (hs : ∀ x, foldedSetIterable iter X.env x = pure x := by intro _; rfl) :
    PFS X tk (.Assign [.Name y py] (.ListComp elt [⟨tg, iter, ifs, 0⟩] scope pos) spos) (tSetD i (tFz (tLcD it g tt te (own.map (·.2))))) :=
  ps_imp (ps_setLc (g := lGv X.K (TkB bs) (List.map (fun x : Str × Nat => x.2) own) g) (tt := lT X.K (TkB bs) tt) (te := lE X.K (TkB bs) te) hc hN hy hyl hsw hi ok hg ht he hs) fun D' σ H h => lc_read own tb hb (fz_core (asg_core nb h))
end
end Vl

namespace Vl
open PySem PySem.Spec PyProof.Rows L2 PySem.W
/-! ### sorted, len of a set that stands in the call -/
def kD : L2.Key → D
  | .inl i => .int i
  | .inr x => .str x
def tupD (k : UK) : D := .tup (k.map kD)
theorem rep_kD {K : PySem.W.Frag} {G : Hp} {v : V} {k : L2.Key} (r : Rep K G v (kD k)) : v = kV k := by
  cases k with
  | inl i => cases r; rfl
  | inr x => cases r; rfl
theorem kD_rep {K : PySem.W.Frag} {G : Hp} (k : L2.Key) : Rep K G (kV k) (kD k) := by
  cases k with
  | inl i => exact .int i
  | inr x => exact .str x
theorem reps_kD {K : PySem.W.Frag} {G : Hp} : ∀ {xs : List V} {k : UK}, Reps K G xs (k.map kD) → xs = k.map kV
  | [], [], _ => rfl
  | _ :: _, _ :: _, .cons h t => by rw [List.map_cons, rep_kD h, reps_kD t]
theorem kDs_rep {K : PySem.W.Frag} {G : Hp} : ∀ k : UK, Reps K G (k.map kV) (k.map kD)
  | [] => .nil
  | x :: k => .cons (kD_rep x) (kDs_rep k)
theorem rep_tupD {K : PySem.W.Frag} {G : Hp} {v : V} {k : UK} (r : Rep K G v (tupD k)) : ∃ p, v = .ref p ∧ SqT K G p (k.map kV) ∧ k.length ≤ sizeLine := by
  unfold tupD at r
  cases r with
  | tup h l rr =>
    have e := reps_kD rr
    subst e
    exact ⟨_, rfl, h, by rw [List.length_map] at l; exact l⟩
theorem kD_inj : ∀ {a b : L2.Key}, kD a = kD b → a = b
  | .inl _, .inl _, h => by cases h; rfl
  | .inr _, .inr _, h => by cases h; rfl
  | .inl _, .inr _, h => by cases h
  | .inr _, .inl _, h => by cases h
def uLe (a b : UK) : Bool := dataLe false uPd a b
section
variable {X : Cx} {tk : Tk} {it : TAD} {iter : Expr} {ifs : List Expr} {scope : Scope} {pos p p2 px py : Pos} {x : Str} {k : Nat}
/-- sorted({x for x in ..}), tuples of whole numbers and texts -/
def tSortSet (i : Nat) (it : TAD) : TOD := fun R Γ Φ => it R Γ fun ds Γ1 => Nat.blt i Γ1.sl.length = true ∧ ∃ ks : List UK, ds = ks.map tupD ∧ ks.length < 64 ∧ AllAlike (ks.map uPd) ∧ (∀ k ∈ ks, k ≠ []) ∧
  ∀ rs : List UK, rs.Nodup → (∀ k, k ∈ rs ↔ k ∈ ks) → rs.Pairwise (fun a b => uLe a b = true) → Φ (.lst (rs.map tupD)) Γ1
theorem wipe1_set {σ : L2.St} {i : Nat} {v : V} : wipe ((wipe σ [i]).set i (some v)) [i] = wipe σ [i] := by
  show ((σ.set i none).set i (some v)).set i none = σ.set i none
  rw [List.set_set, List.set_set]
theorem po_sortSet (i : Nat) (hr : Room k X.A) (hc : X.calm = true) (hN : X.N.Nodup) (hm : X.mg "sorted" = none) (hi : PFI X tk (.Name x px) iter it) (ok : BlkOk X.N X.env.scope scope [(x, i)])
    (hg : ∀ (s : Shared) (H : Hp) (C : Addr) (cl : List (Str × Addr)) (fp : List Addr), PG (X.blk s H scope (compEnvC scope cl C X.env) fp) (.Name x px) (gName i))
    (he : ∀ (s : Shared) (H : Hp) (C : Addr) (cl : List (Str × Addr)) (fp : List Addr), PE (X.blk s H scope (compEnvC scope cl C X.env) fp) (.Name x py) (tVar i)) (hi2 : X.N[i]? = some x := by rfl) (hs : ∀ x, foldedSetIterable iter X.env x = pure x := by intro _; rfl)
    (hg2 : Gl X "sorted" := by rfl) (hs2 : starEach [.SetComp (.Name x py) [⟨.Name x px, iter, [], 0⟩] scope p2] X.env = (false, eval (.SetComp (.Name x py) [⟨.Name x px, iter, [], 0⟩] scope p2) X.env) :: starEach [] X.env := by rfl) :
    PFO X tk (.Call (.Name "sorted" p) [.SetComp (.Name x py) [⟨.Name x px, iter, [], 0⟩] scope p2] [] pos) (tSortSet i it) := by
  have u64 := hu64 hr
  refine pe_imp (pe_callB (cr_sortU hc u64) hg2 hm (by decide +kernel) (pa_cons (pe_scg newSet_u hc hN hi ok hg (fun _ _ _ _ _ => pts_nil) he hs) pa_nil hs2) (by decide) (by decide) hs2) fun σ H Q ⟨B, R, Γ, G, Φ, t, en, h, kk⟩ => ?_
  refine ⟨B, R, Γ, G, _, t, en, h, fun J G1 H1 Γ1 ds p1 iok ⟨hΓ, ks, hds, few, hal, hne, hΦ⟩ D hD => ?_⟩
  subst hds
  have e1 := p1.env
  have gD1 : G1 D = none := e1.gh.free hD
  have bD : B.H D = none := e1.bhNone hD
  have nmD : D ∉ Γ1.as := e1.wd.out hD
  have nD1 : ∀ (i : Nat) c, Γ1.sl[i]? = some (.ow c) → σ[i]? ≠ some (some (.ref D)) := e1.noOw hD
  refine ⟨fun n m H' => m = ks.length - n ∧ n ≤ ks.length ∧ ∃ G' L, EvP X.K B σ G1 H1 Γ1 G' H' Γ1 ∧ H' D = some (SetUO X.prog X.w D L) ∧ G' D = none ∧ (∀ p ∈ L, SqT X.K G' p.1 (p.2.map kV) ∧ p.2.length ≤ sizeLine) ∧ (∀ k, k ∈ L.map (·.2) ↔ k ∈ ks.take n) ∧ L.length ≤ n,
    ⟨ks.length, by simp, Nat.zero_le _, G1, [], e1.cell hD, upd_same, gD1, fun p hp => (by cases hp), fun k => by simp, Nat.le_refl _⟩, ?_⟩
  rintro n m H' ⟨rfl, hle, G', L, p', hD', gD', hL, hk, hlen⟩
  by_cases hlt : n < ks.length
  · refine .inr ⟨iok.1 n H' (p'.gg.trans p'.env.gh) (by rw [List.length_map]; exact hlt), fun H2 => ∃ G' L, EvP X.K B σ G1 H1 Γ1 G' H2 Γ1 ∧ H2 D = some (SetUO X.prog X.w D L) ∧ G' D = none ∧ (∀ p ∈ L, SqT X.K G' p.1 (p.2.map kV) ∧ p.2.length ≤ sizeLine) ∧ (∀ k, k ∈ L.map (·.2) ↔ k ∈ ks.take (n + 1)) ∧ L.length ≤ n + 1, fun H2 z => ⟨ks.length - (n + 1), by omega, rfl, hlt, z⟩, fun v H2 hy => ?_⟩
    obtain ⟨d, G2, hd, ex, rd⟩ := iok.2.2 n G' H' v H2 p'.gg p'.env.gh (by rw [List.length_map]; exact hlt) hy
    rw [List.getElem?_map, List.getElem?_eq_getElem hlt] at hd
    cases hd
    obtain ⟨q, rfl, hq, hql⟩ := rep_tupD rd
    have pe := p'.env.ext ex
    have pA := p'.trans pe
    have hD2 : H2 D = some (SetUO X.prog X.w D L) := pe.hh D _ hD' nD1 nmD
    have gD2 : G2 D = none := by
      cases w : G2 D with
      | none => rfl
      | some o => rcases ex.gn D o w with z | z
                  · rw [gD'] at z; cases z
                  · rw [hD'] at z; cases z
    have gh2 : Same G2 H2 := pe.env.gh
    have li : i < σ.length := by
      rw [← e1.len]
      exact Nat.le_of_ble_eq_true hΓ
    refine ⟨wipe1_set, ?_⟩
    simp only [tYes, ↓reduceIte]
    refine ⟨.ref q, List.getElem?_set_self (by rw [wipe_length]; exact li), ?_⟩
    refine addOk_u (by omega) hD2 (fun r hr => same_t gh2 (same_t pe.gg (hL r hr).1)) (same_t gh2 hq) (by omega) fun L' c1 c2 => ?_
    have tk1 : ks.take (n + 1) = ks.take n ++ [ks[n]] := by rw [List.take_add_one, List.getElem?_eq_getElem hlt]; rfl
    have pB := pA.poke (o := SetUO X.prog X.w D L') hD gD2 nD1 bD nmD
    refine ⟨G2, L', pB, upd_same, gD2, ?_⟩
    by_cases c : ks[n] ∈ L.map (·.2)
    · rw [c1 c]
      refine ⟨fun r hr => ⟨same_t pe.gg (hL r hr).1, (hL r hr).2⟩, fun k => ?_, by omega⟩
      rw [hk k, tk1, List.mem_append, List.mem_singleton]
      refine ⟨.inl, fun z => z.elim id fun z => ?_⟩
      rw [z]
      exact (hk _).mp c
    · have pm := c2 c
      refine ⟨fun r hr => ?_, fun k => ?_, by rw [pm.length_eq, List.length_cons]; omega⟩
      · rcases List.mem_cons.mp (pm.mem_iff.mp hr) with rfl | hr
        · exact ⟨hq, hql⟩
        · exact ⟨same_t pe.gg (hL r hr).1, (hL r hr).2⟩
      · rw [(pm.map (·.2)).mem_iff, List.map_cons, List.mem_cons, hk k, tk1, List.mem_append, List.mem_singleton]
        exact ⟨fun z => z.symm, fun z => z.symm⟩
  · have en : n = ks.length := by omega
    subst en
    refine .inl ⟨iok.2.1 _ H' (p'.gg.trans p'.env.gh) (by rw [List.length_map]), ?_⟩
    rw [List.take_length] at hk
    refine ⟨D, L, rfl, hD', fun r hr => same_t p'.env.gh (hL r hr).1, fun d hd d' hd' => ?_, fun r hr => hne _ ((hk _).mp (List.mem_map.mpr ⟨r, hr, rfl⟩)), fun L' p pm nd pw hp => ?_⟩
    · obtain ⟨r, hr, rfl⟩ := List.mem_map.mp hd
      obtain ⟨r', hr', rfl⟩ := List.mem_map.mp hd'
      exact hal _ (List.mem_map.mpr ⟨_, (hk _).mp (List.mem_map.mpr ⟨r, hr, rfl⟩), rfl⟩) _ (List.mem_map.mpr ⟨_, (hk _).mp (List.mem_map.mpr ⟨r', hr', rfl⟩), rfl⟩)
    · have pC := p'.trans (p'.env.cell (o := .lst (L'.map fun q => V.ref q.1)) hp)
      have gp : G' p = none := p'.env.gh.free hp
      have hl' : L'.length ≤ sizeLine := by rw [pm.length_eq]; exact Nat.le_trans hlen (Nat.le_trans (Nat.le_of_lt few) (by decide))
      have rps : ∀ l : UL, (∀ r ∈ l, SqT X.K G' r.1 (r.2.map kV) ∧ r.2.length ≤ sizeLine) → Reps X.K G' (l.map fun q => V.ref q.1) ((l.map (·.2)).map tupD) := by
        intro l
        induction l with
        | nil => exact fun _ => .nil
        | cons r l ih => exact fun h => .cons (.tup (h r List.mem_cons_self).1 (by rw [List.length_map]; exact (h r List.mem_cons_self).2) (kDs_rep r.2)) (ih fun q hq => h q (List.mem_cons_of_mem _ hq))
      refine kk (.ref p) G' _ Γ1 (.lst ((L'.map (·.2)).map tupD)) (p1.trans pC) ⟨p, _, rfl, gp, upd_same, ⟨_, rfl, by rw [List.length_map]; exact hl', rps L' fun r hr => hL r (pm.mem_iff.mp hr)⟩, (p1.trans p').back hp, (p1.trans p').env.wd.out hp⟩ (hΦ _ nd (fun k => ?_) ((List.pairwise_map (f := fun p : Addr × UK => p.2) (R := fun a b => uLe a b = true)).mpr pw))
      · rw [(pm.map (·.2)).mem_iff]
        exact hk k
end
end Vl

namespace Vl
open PySem PySem.Spec PyProof.Rows L2
/-! ### raise -/
def WU (X : Cx) : WX := fun c d σ H => ∃ B R, Takes X (ExOk X.K B R) ∧ ExOk X.K B R c d σ H
theorem takesU {X : Cx} : Takes X (WU X) := fun u s' ⟨a, B, sI, pins, σ, H, cls, d, e, I, nb, up, sky, na, os, ag, B', R, t, w⟩ => t u s' ⟨a, B, sI, pins, σ, H, cls, d, e, I, nb, up, sky, na, os, ag, w⟩
/-- an own exception class over ValueError, without own __init__ -/
structure ExCl (K : PySem.W.Frag) (mg : Str → Option Value) (c : Str) : Prop where
  q : PySem.W.excIn K (He.ga K c) He.veBase "ValueError.__new__" = true
  k : PySem.W.keepIn K (.ref (He.ga K c)) = true
  s : PySem.W.subIn K (.ref (He.ga K c)) (.type "BaseException") = some true
  t : PySem.W.typeIn K (.ref (He.ga K c)) = some (.type "type")
  g : mg c = some (.ref (He.ga K c))
def tRaiseD (c : Str) : TSD := fun R _ Γ => R c none Γ
section
variable {X : Cx} {tk : Tk} {pos p p2 pos' : Pos} {j : Nat} {x m : Str}
theorem pfs_raise (hc : X.calm = true) (tw : TkOk X tk) (C : ExCl X.K X.mg x) (hg : Gl X x := by rfl) (hdb : (x == ("__debug__" : Str)) = false := by decide) : PFS X tk (.Raise (some (.Call (.Name x p) [.Constant (.str m) j p2] [] pos)) none pos') (tRaiseD x) :=
  ps_imp (ps_raise hc takesU (pmk_own PySem.F.excBase_ValueError C.q C.g C.k (raises_own C.s C.t) hg hdb)) fun D' σ H ⟨B, R, Γ, G, D, t, en, h, _⟩ => ⟨B, R, tw B R t, x, none, G, Γ, rfl, en, trivial, h⟩
end
/-! ### try -/
def cvOf (K : PySem.W.Frag) (x : Str) : Value := .ref (He.ga K x)
/-- what the table of classes says -/
def ExTab (K : PySem.W.Frag) (exL : List Str) (sub : Str → Str → Bool) (x : Str) (cv : Value) : Prop := ∀ c ∈ exL, PySem.W.exmOne K (.ref (He.ga K c)) cv = some (sub c x)
def tTryD (exL : List Str) (sub : Str → Str → Bool) (x : Str) (T Th : TSD) : TSD := fun R D Γ => T (fun c pl Γ' => c ∈ exL ∧ pl = none ∧ if sub c x = true then Th nvr D Γ' else R c none Γ') D Γ
def tTryAs (exL : List Str) (sub : Str → Str → Bool) (x : Str) (i : Nat) (T : TSD) (Th : Addr → Str → TSD) : TSD := fun R D Γ => T (fun c pl Γ' => c ∈ exL ∧ pl = none ∧ if sub c x = true then ∀ a : Addr, Th a c nvr ⟨fun Γ2 => D.nx (Γ2.set i .un), D.rt, fun Γ2 => D.bk (Γ2.set i .un), fun Γ2 => D.ct (Γ2.set i .un)⟩ (Γ'.set i (.im (.ptr (.ref a)))) else R c none Γ') D Γ
section
variable {X : Cx} {bs : Option Nat} {body suite : List Stmt} {b₀ : Stmt} {np pos pos' : Pos} {x n : Str} {cv : Value} {exL : List Str} {sub : Str → Str → Bool} {T Th : TSD} {Ta : Addr → Str → TSD}
/-- the body of a try -/
def PFBody (X : Cx) (bs : Option Nat) (body : List Stmt) (T : TSD) : Prop := ∀ (pn : List (Addr × Obj)) (xe : Value → Shared → Prop), PassesOwn (model X.prog X.w) X.A X.env xe → PFSs (X.tr pn xe) (TkS (X.tr pn xe) bs) body T
def tbW (X : Cx) (bs : Option Nat) (T : TSD) (W : WX) : TS := fun D' σ H => ∃ (B : Bs) (R : ExD) (Γ : Gm) (G : Hp) (D : EndsD), (∀ c d σ H, ExOk X.K B R c d σ H → W c d σ H) ∧ (∀ i l, B.bo = some (i, l) → bs = some i) ∧ EnvOk X.K B G H σ Γ ∧ T R D Γ ∧ EnX X.K B D D'
theorem PFBody.tb (h : PFBody X bs body T) (W : WX) (pn : List (Addr × Obj)) (xe : Value → Shared → Prop) (tk : Takes (X.tr pn xe) W) (po : PassesOwn (model X.prog X.w) X.A X.env xe) : PSs (X.tr pn xe) body (tbW X bs T W) :=
  pss_imp (h pn xe po) fun D' σ H ⟨B, R, Γ, G, D, hw, hb, en, q, e⟩ => ⟨B, R, Γ, G, D, ⟨tk.imp hw, hb⟩, en, q, e⟩
theorem pfs_try (hc : Names X x cv) (tab : ExTab X.K exL sub x cv) (hb : PFBody X bs body T)
    (hsu : ∀ (a : Addr) (oe : Obj) (c : Str) (pn : List (Addr × Obj)), c ∈ exL → Zc (.ref (He.ga X.K c)) none oe → (∃ vs, oe.data = .fields vs) → PFSs (X.suite a ((a, oe) :: pn)) (TkB bs) (b₀ :: suite) Th) (hs : X.stack = X.env :: X.outer := by rfl) (hf : X.env.frame = some X.env.locals := by rfl) :
    PFS X (TkS X bs) (.Try body [.ExceptHandler (some (.Name x np)) none (b₀ :: suite) pos'] [] [] pos) (tTryD exL sub x T Th) := by
  refine ps_imp (ps_try_only (tb := tbW X bs T) (ts := fun a cls d D' σ H => ∃ c, cls = .ref (He.ga X.K c) ∧ d = none ∧ c ∈ exL ∧ lS X.K (TkB bs) Th D' σ H) hs hf hc takesU (fun W pn xe tk po => hb.tb W pn xe tk po) fun a oe cls d pn hz hd => ?_) fun D' σ H ⟨B, R, Γ, G, D, t, en, h, e⟩ => ?_
  · refine ⟨fun pins s σ H D I ⟨c, e1, e2, hm, h⟩ => ?_⟩
    subst e1 e2
    exact (hsu a oe c pn hm hz hd).run pins s σ H D I h
  · refine ⟨B, fun c pl Γ' => c ∈ exL ∧ pl = none ∧ if sub c x = true then Th nvr D Γ' else R c none Γ', Γ, G, D, fun cls d σ' H' ⟨c, pl, G', Γ', e1, en', hp, hm, hpl, hq⟩ => ?_, t.2, en, h, e⟩
    subst e1 hpl
    cases d with
    | some dd => exact hp.elim
    | none =>
      refine ⟨sub c x, tab c hm, fun hb a _ => ?_, fun hb => ?_⟩
      · rw [if_pos hb] at hq
        exact ⟨c, rfl, rfl, hm, B, nvr, Γ', G', D, ⟨rfl, t.2⟩, en', hq, e⟩
      · rw [if_neg (by rw [hb]; decide)] at hq
        exact ⟨B, R, t.1, c, none, G', Γ', rfl, en', trivial, hq⟩
theorem pfs_tryAs (i : Nat) (nb : bs ≠ some i) (hN : X.N.Nodup) (hc : Names X x cv) (tab : ExTab X.K exL sub x cv) (hb : PFBody X bs body T)
    (hsu : ∀ (a : Addr) (oe : Obj) (c : Str) (pn : List (Addr × Obj)), c ∈ exL → Zc (.ref (He.ga X.K c)) none oe → (∃ vs, oe.data = .fields vs) → PFSs (X.suite a ((a, oe) :: pn)) (TkB bs) (b₀ :: suite) (Ta a c)) (hi : X.N[i]? = some n := by rfl) (hln : X.env.kindOf n = some .local := by rfl) (hs : X.stack = X.env :: X.outer := by rfl) (hf : X.env.frame = some X.env.locals := by rfl) :
    PFS X (TkS X bs) (.Try body [.ExceptHandler (some (.Name x np)) (some n) (b₀ :: suite) pos'] [] [] pos) (tTryAs exL sub x i T Ta) := by
  refine ps_imp (ps_try_as (tb := tbW X bs T) (ts := fun a cls d D' σ H => ∃ c, cls = .ref (He.ga X.K c) ∧ d = none ∧ c ∈ exL ∧ lS X.K (TkB bs) (Ta a c) D' σ H) hs hf hN hi hln hc takesU (fun W pn xe tk po => hb.tb W pn xe tk po) fun a oe cls d pn hz hd => ?_) fun D' σ H ⟨B, R, Γ, G, D, t, en, h, e⟩ => ?_
  · refine ⟨fun pins s σ H D I ⟨c, e1, e2, hm, h⟩ => ?_⟩
    subst e1 e2
    exact (hsu a oe c pn hm hz hd).run pins s σ H D I h
  · refine ⟨B, fun c pl Γ' => c ∈ exL ∧ pl = none ∧ if sub c x = true then ∀ a : Addr, Ta a c nvr ⟨fun Γ2 => D.nx (Γ2.set i .un), D.rt, fun Γ2 => D.bk (Γ2.set i .un), fun Γ2 => D.ct (Γ2.set i .un)⟩ (Γ'.set i (.im (.ptr (.ref a)))) else R c none Γ', Γ, G, D, fun cls d σ' H' ⟨c, pl, G', Γ', e1, en', hp, hm, hpl, hq⟩ => ?_, t.2, en, h, e⟩
    subst e1 hpl
    have nbi : ∀ l, B.bo ≠ some (i, l) := fun l q => nb (t.2 i l q)
    cases d with
    | some dd => exact hp.elim
    | none =>
      refine ⟨sub c x, tab c hm, fun hb a _ => ?_, fun hb => ?_⟩
      · rw [if_pos hb] at hq
        refine ⟨c, rfl, rfl, hm, B, nvr, _, G', _, ⟨rfl, t.2⟩, en'.setIm nbi (.ptr (.ref a)), hq a, ?_⟩
        exact ⟨fun σ2 G2 H2 Γ2 e2 h2 => e.nx _ _ _ _ (e2.un nbi none) h2, fun v r σ2 G2 H2 Γ2 e2 rr h2 => e.rt v r σ2 G2 H2 Γ2 e2 rr h2, fun σ2 G2 H2 Γ2 e2 h2 => e.bk _ _ _ _ (e2.un nbi none) h2, fun σ2 G2 H2 Γ2 e2 h2 => e.ct _ _ _ _ (e2.un nbi none) h2⟩
      · rw [if_neg (by rw [hb]; decide)] at hq
        exact ⟨B, R, t.1, c, none, G', Γ', rfl, en', trivial, hq⟩
end
/-! ### isinstance of what a handler holds -/
def tIsE (i : Nat) (a : Addr) (b : Bool) : TF := fun _ Γ Φ => Γ.sl[i]? = some (.im (.ptr (.ref a))) ∧ Φ (.bl b) Γ
section
variable {X : Cx} {bs : Option Nat} {a : Addr} {oe : Obj} {pn : List (Addr × Obj)} {c x e : Str} {pos p p1 p2 : Pos} {b : Bool}
theorem pf_isE (i : Nat) (C : ExcC X.K (He.ga X.K c)) (hz : Zc (.ref (He.ga X.K c)) none oe) (hd : ∃ vs, oe.data = .fields vs) (hm : X.mg "isinstance" = none) (hx : X.mg x = some (.ref (He.ga X.K x))) (hk : PySem.W.kitOne X.K (.ref (He.ga X.K c)) (.ref (He.ga X.K x)) = some b)
    (hN : X.N[i]? = some e := by rfl) (hv : Vis X.env.scope e := by first | exact Or.inl rfl | exact Or.inr (Or.inl rfl) | exact Or.inr (Or.inr rfl)) (hd1 : (e == ("__debug__" : Str)) = false := by decide) (hcd : (e == ("__classdict__" : Str)) = false := by decide)
    (hg : Gl X "isinstance" := by rfl) (hgx : Gl X x := by rfl) (hdx : (x == ("__debug__" : Str)) = false := by decide)
    (hs : starEach [.Name e p1, .Name x p2] X.env = (false, eval (.Name e p1) X.env) :: starEach [.Name x p2] X.env := by rfl) (hpl : (backTo pos (starEach [.Name x p2] X.env)).any (·.1) = false := by rfl) :
    PF (X.suite a ((a, oe) :: pn)) (TkB bs) (.Call (.Name "isinstance" p) [.Name e p1, .Name x p2] [] pos) (tIsE i a b) := by
  refine pe_imp (pe_callB (X := X.suite a ((a, oe) :: pn)) (call_isE C hz hd) hg hm (by decide +kernel) (pa_cons (pe_var hN hv hd1 hcd) (pa_cons (pe_glob (v := .ref (He.ga X.K x)) hgx hx rfl hdx) pa_nil)) (by decide) (by decide) hs hpl) fun σ H Q ⟨B, R, Γ, G, Φ, t, en, ⟨h1, h2⟩, kk⟩ => ?_
  obtain ⟨v, q1, q2⟩ := en.im i _ h1
  cases q2
  exact ⟨.ref a, q1, _, _, b, rfl, (fun u r => r), hk, kk (.bl b) G H Γ _ (EvP.refl en) (.bl b) h2⟩
/-- .. of a built-in class -/
theorem pf_isEB (i : Nat) {T : String} (C : ExcC X.K (He.ga X.K c)) (hz : Zc (.ref (He.ga X.K c)) none oe) (hd : ∃ vs, oe.data = .fields vs) (hm : X.mg "isinstance" = none) (hx : X.mg x = none) (hk : PySem.W.kitOne X.K (.ref (He.ga X.K c)) (.type T) = some b) (hvb : bootBuiltins x = some (.type T) := by decide +kernel) (hn : x ≠ "__name__" := by decide)
    (hN : X.N[i]? = some e := by rfl) (hv : Vis X.env.scope e := by first | exact Or.inl rfl | exact Or.inr (Or.inl rfl) | exact Or.inr (Or.inr rfl)) (hd1 : (e == ("__debug__" : Str)) = false := by decide) (hcd : (e == ("__classdict__" : Str)) = false := by decide)
    (hg : Gl X "isinstance" := by rfl) (hgx : Gl X x := by rfl) (hdx : (x == ("__debug__" : Str)) = false := by decide)
    (hs : starEach [.Name e p1, .Name x p2] X.env = (false, eval (.Name e p1) X.env) :: starEach [.Name x p2] X.env := by rfl) (hpl : (backTo pos (starEach [.Name x p2] X.env)).any (·.1) = false := by rfl) :
    PF (X.suite a ((a, oe) :: pn)) (TkB bs) (.Call (.Name "isinstance" p) [.Name e p1, .Name x p2] [] pos) (tIsE i a b) := by
  refine pe_imp (pe_callB (X := X.suite a ((a, oe) :: pn)) (call_isE C hz hd) hg hm (by decide +kernel) (pa_cons (pe_var hN hv hd1 hcd) (pa_cons (pe_bltn (v := .ty T) hgx hx hvb rfl hn hdx) pa_nil)) (by decide) (by decide) hs hpl) fun σ H Q ⟨B, R, Γ, G, Φ, t, en, ⟨h1, h2⟩, kk⟩ => ?_
  obtain ⟨v, q1, q2⟩ := en.im i _ h1
  cases q2
  exact ⟨.ref a, q1, _, _, b, rfl, (fun u r => r), hk, kk (.bl b) G H Γ _ (EvP.refl en) (.bl b) h2⟩
end
end Vl

namespace Vl
open PySem PySem.Spec PyProof.Rows L2
/-! ### instances -/
theorem RepF.look {K : PySem.W.Frag} {G : Hp} {f : Str} : ∀ {xs : List (Str × V)} {fs : List (Str × D)} {d : D}, RepF K G xs fs → fs.lookup f = some d → ∃ v, xs.lookup f = some v ∧ Rep K G v d
  | _, _, _, .nil, h => by cases h
  | (k, v) :: xs, (_, e) :: fs, d, .cons h t, q => by
    rw [List.lookup_cons] at q ⊢
    cases z : f == k with
    | true =>
      rw [z] at q
      cases q
      exact ⟨v, rfl, h⟩
    | false =>
      rw [z] at q
      exact t.look q
theorem RepF.lookN {K : PySem.W.Frag} {G : Hp} {f : Str} : ∀ {xs : List (Str × V)} {fs : List (Str × D)}, RepF K G xs fs → fs.lookup f = none → xs.lookup f = none
  | _, _, .nil, _ => rfl
  | (k, v) :: xs, (_, e) :: fs, .cons h t, q => by
    rw [List.lookup_cons] at q ⊢
    cases z : f == k with
    | true => rw [z] at q; cases q
    | false =>
      rw [z] at q
      exact t.lookN q
theorem RepF.length {K : PySem.W.Frag} {G : Hp} : ∀ {xs : List (Str × V)} {fs : List (Str × D)}, RepF K G xs fs → xs.length = fs.length
  | _, _, .nil => rfl
  | _, _, .cons _ t => congrArg (· + 1) t.length
/-- f = d among the fields -/
def putD (f : Str) (d : D) : List (Str × D) → List (Str × D)
  | [] => [(f, d)]
  | (g, x) :: r => if g = f then (g, d) :: r else (g, x) :: putD f d r
theorem RepF.put {K : PySem.W.Frag} {G : Hp} {f : Str} {v : V} {d : D} (r : Rep K G v d) : ∀ {xs : List (Str × V)} {fs : List (Str × D)}, RepF K G xs fs → RepF K G (putF f v xs) (putD f d fs)
  | _, _, .nil => .cons r .nil
  | (g, x) :: xs, (_, y) :: fs, .cons h t => by
    unfold putF putD
    by_cases e : g = f
    · rw [if_pos e, if_pos e]
      exact .cons r t
    · rw [if_neg e, if_neg e]
      exact .cons h (t.put r)
section
variable {X : Cx} {tk : Tk} {e o : Expr} {T U : TF} {pos pos' p : Pos} {f : Str}
/-- e.f -/
def tFldD (cs : List Str) (f : Str) (T : TF) : TF := fun R Γ Φ => T R Γ fun d Γ' => match d with
  | .obj c fs => c ∈ cs ∧ ∃ v, fs.lookup f = some v ∧ Φ v Γ'
  | _ => False
def FldOk (K : PySem.W.Frag) (cs : List Str) (f : Str) : Prop := ∀ c ∈ cs, Cls K (He.ga K c) ∧ NoAttr K (He.ga K c) f
theorem pf_fld {cs : List Str} (F : FldOk X.K cs f) (he : PF X tk e T) (hb : attributeBase e f X.env (eval e X.env) = eval e X.env := by rfl) : PF X tk (.Attribute e f pos) (tFldD cs f T) :=
  pe_imp (pe_fld he hb) fun σ H Q ⟨B, R, Γ, G, Φ, t, en, h, kk⟩ => ⟨B, R, Γ, G, _, t, en, h, fun v G1 H1 Γ1 d p1 r1 h1 => by
    cases r1 with
    | obj hp rf =>
      obtain ⟨hm, d2, h2, h3⟩ := h1
      obtain ⟨v2, q1, q2⟩ := rf.look h2
      obtain ⟨c1, c2⟩ := F _ hm
      exact ⟨_, _, _, _, v2, rfl, p1.env.gh _ _ hp, c1, c2, q1, kk v2 G1 H1 Γ1 d2 p1 q2 h3⟩
    | _ => exact h1.elim⟩
/-- own.f -/
def tFldO (cs : List Str) (i : Nat) (f : Str) : TF := fun _ Γ Φ => match Γ.sl[i]? with
  | some (.ow (.ins c fs)) => c ∈ cs ∧ ∃ v, fs.lookup f = some v ∧ Φ v Γ
  | _ => False
theorem pf_fldO (i : Nat) {x : Str} {px : Pos} {cs : List Str} (F : FldOk X.K cs f) (hN : X.N[i]? = some x := by rfl) (hx : Vis X.env.scope x := by first | exact Or.inl rfl | exact Or.inr (Or.inl rfl) | exact Or.inr (Or.inr rfl)) (hd : (x == ("__debug__" : Str)) = false := by decide) (hcd : (x == ("__classdict__" : Str)) = false := by decide)
    (hb : attributeBase (.Name x px) f X.env (eval (.Name x px) X.env) = eval (.Name x px) X.env := by rfl) : PF X tk (.Attribute (.Name x px) f pos) (tFldO cs i f) :=
  pe_imp (pe_fld (pe_var hN hx hd hcd) hb) fun σ H Q ⟨B, R, Γ, G, Φ, t, en, h, kk⟩ => by
    unfold tFldO at h
    split at h
    · rename_i c fs q
      obtain ⟨l, o, a1, a2, a3, ⟨dx, xs, a4, a5⟩, _⟩ := en.ow i _ q
      subst a4
      obtain ⟨hm, d2, h2, h3⟩ := h
      obtain ⟨v2, q1, q2⟩ := a5.look h2
      obtain ⟨c1, c2⟩ := F _ hm
      exact ⟨.ref l, a1, l, _, _, _, v2, rfl, a3, c1, c2, q1, kk v2 G H Γ d2 (EvP.refl en) q2 h3⟩
    · exact h.elim
/-- own.f = e -/
def tSetFld (cs : List Str) (i : Nat) (f : Str) (T : TF) : TSD := fun R D Γ => T R Γ fun d Γ' => match Γ'.sl[i]? with
  | some (.ow (.ins c fs)) => c ∈ cs ∧ fs.length < 1000 ∧ D.nx (Γ'.set i (.ow (.ins c (putD f d fs))))
  | _ => False
theorem pfs_setFld (i : Nat) {x : Str} {px : Pos} {cs : List Str} (F : FldOk X.K cs f) (he : PF X tk e T) (hN : X.N[i]? = some x := by rfl) (hx : Vis X.env.scope x := by first | exact Or.inl rfl | exact Or.inr (Or.inl rfl) | exact Or.inr (Or.inr rfl)) (hd : (x == ("__debug__" : Str)) = false := by decide) (hcd : (x == ("__classdict__" : Str)) = false := by decide)
    (hs : swapsWith e (some (.Attribute (.Name x px) f pos')) pos.line X.env = pure false := by rfl) : PFS X tk (.Assign [.Attribute (.Name x px) f pos'] e pos) (tSetFld cs i f T) :=
  ps_imp (ps_fld (pe_var hN hx hd hcd) he hs) fun D' σ H ⟨B, R, Γ, G, D, t, en, h, ex⟩ => ⟨B, R, Γ, G, _, t, en, h, fun v G1 H1 Γ1 d p1 r1 h1 => by
    split at h1
    · rename_i c fs q
      obtain ⟨l, o, a1, a2, a3, ⟨dx, xs, a4, a5⟩, a6⟩ := p1.env.ow i _ q
      subst a4
      obtain ⟨hm, hl, h2⟩ := h1
      obtain ⟨c1, c2⟩ := F _ hm
      refine ⟨.ref l, a1, l, _, dx, xs, rfl, a3, c1, c2, by rw [a5.length]; exact hl, ex.nx _ _ _ _ (p1.env.write (c' := .ins c (putD f d fs)) q a1 ⟨dx, _, rfl, a5.put r1⟩).env h2⟩
    · exact h1.elim⟩
end
end Vl

namespace Vl
open PySem PySem.Spec PyProof.Rows L2 ClX
/-! ### C(..), o.m(..) -/
section
variable {X : Cx} {CX : CXT} {k : Nat} {f C : Addr} {fd : FuncData} {ps : List Str} {sp : Sp} {E : L2.St → XK} {x m : Str} {p pos apos : Pos} {e o : Expr} {es : List Expr} {ta : TE} {t : TA}
theorem run_makeS {pins : List (Addr × Obj)} {σ : L2.St} {H : Hp} {s : Shared} {Q : VK} {us : List Value} {vs : List V} (M : Mk X.K C f) (F : FnOk X.prog X.w X.K X.mg X.base CX k f fd ps sp) (hr : Room (k + 1) X.A) (hb : Binds X.K fd ps []) (hx : PassesAt CX X σ (E σ)) (I : Inv X pins σ H s) (r : Vals vs us)
    (h : ∀ x dx, H x = none → H dx = none → dx ≠ x → sp (.ref x :: vs) (upd (upd H dx (.own x)) x (.ins C dx [])) (fun v H2 => v = .non ∧ Q (.ref x) H2) (E σ)) : wpAny (model X.prog X.w) X.A (call (.ref C) us) (EP X pins σ Q) X.xe s := by
  have n1 : H (s.heap.objs.size + 1) = none := I.hok.fresh (Nat.le_succ _)
  have n2 : H s.heap.objs.size = none := I.hok.fresh (Nat.le_refl _)
  have hq := h _ _ n1 n2 (Nat.ne_of_lt (Nat.lt_succ_self _))
  have I2 := Inv.made (C := C) I
  have rv : Vals (V.ref (s.heap.objs.size + 1) :: vs) (Value.ref (s.heap.objs.size + 1) :: us) := .cons rfl r
  have hl : (Value.ref (s.heap.objs.size + 1) :: us).length = ps.length := rv.length.symm.trans (F.len _ _ _ _ hq)
  have bd := hb _ (Value.ref (s.heap.objs.size + 1) :: us) I2.kIn (by rw [List.append_nil]; exact hl)
  rw [List.append_nil] at bd
  refine wpAny_call (make_map (f := f) I.kIn M.makes M.init (beq_iff_eq.mp M.fn) (codeAny_mono (F.run _ X.stack _ _ _ _ _ _ (E σ) (hr.make C us []) (I2.env0.make C us []) bd rv hq) fun r s' q => ?_))
  cases r with
  | error e => exact hx pins _ _ e s' I2 q
  | ok fl =>
    cases fl with
    | ret u =>
      obtain ⟨v, H', I3, rv, rfl, q3⟩ := I2.after q
      exact ⟨rv, ⟨V.ref (s.heap.objs.size + 1), H', I3, rfl, q3⟩⟩
    | next => exact False.elim q
    | brk => exact False.elim q
    | cont => exact False.elim q
end
section
variable {X : Cx} {k : Nat} {f C : Addr} {fd : FuncData} {ps : List Str} {sp : Sp} {x m : Str} {p pos apos : Pos} {e o : Expr} {es : List Expr} {ta : TE} {t : TA}
theorem pe_makeG (M : Mk X.K C f) (F : FnOk X.prog X.w X.K X.mg X.base (L2.CX X.prog X.w) k f fd ps sp) (hr : Room (k + 1) X.A) (hg : Gl X x) (hm : X.mg x = some (.ref C)) (hb : Binds X.K fd ps []) (ha : PA X (e :: es) t)
    (hdb : (x == ("__debug__" : Str)) = false) (he : starEach (e :: es) X.env = (false, eval e X.env) :: starEach es X.env) (hpl : (backTo pos (starEach es X.env)).any (·.1) = false) :
    PE X (.Call (.Name x p) (e :: es) [] pos) (fun σ H Q => t σ H fun vs H1 => ∃ W : WX, Takes X W ∧ ∀ x dx, H1 x = none → H1 dx = none → dx ≠ x → sp (.ref x :: vs) (upd (upd H1 dx (.own x)) x (.ins C dx [])) (fun v H2 => v = .non ∧ Q (.ref x) H2) (WE W σ)) :=
  ⟨fun pins s σ H Q I h => wpAny_Call_Name_kw (ld_glob I hg hm (PySem.W.callWith_K (h₀ := X.base) I.ok.mod.kin M.kp (thn (ha.run pos pins s σ H _ I h) fun us s1 ⟨vs, H1, I1, r, W, tw, q⟩ => ⟨I1.kIn, run_makeS (E := WE W) M F hr hb (passAt tw σ) I1 r q⟩) he hpl) hdb)⟩
/-- a method by what it does: where it stands, its promise -/
def MethAt (P : Program) (w : World) (K : PySem.W.Frag) (mg : Str → Option Value) (base : Heap) (j : Nat) (C : Addr) (m : Str) (sp : Sp) : Prop := ∃ k f fd ps, k ≤ j ∧ Meth K C m f ∧ FnOk P w K mg base (L2.CX P w) k f fd ps sp ∧ Binds K fd ps []
theorem pe_methG {pl : Sem Bool} (hr : Room k X.A) (he : PE X o ta) (ha : PA X (e :: es) t) (hst : starEach (e :: es) X.env = (false, eval e X.env) :: starEach es X.env) (hpl : (backTo pos (starEach es X.env)).any (·.1) = false)
    (ht : eval (.Call (.Attribute o m apos) (e :: es) [] pos) X.env = (do
      let ov ← eval o X.env
      standAt apos.atName
      let (f, first) ← holding [ov] (getMethod ov m pl)
      callWith pos f first (backTo pos (starEach (e :: es) X.env)) (backToKw pos (keywordEach [] X.env)))) :
    PE X (.Call (.Attribute o m apos) (e :: es) [] pos) (fun σ H Q => ta σ H fun x H1 => ∃ a C dx fs sp, x = .ref a ∧ H1 a = some (.ins C dx fs) ∧ fs.lookup m = none ∧ Cls X.K C ∧ MethAt X.prog X.w X.K X.mg X.base k C m sp ∧
      t σ H1 fun vs H2 => ∃ W : WX, Takes X W ∧ sp (.ref a :: vs) H2 Q (WE W σ)) := by
  refine ⟨fun pins s σ H Q I h => PySem.W.methodCall_KW (pl := pl) (thn (he.run pins s σ H _ I h) fun u s1 ⟨x, H1, I1, rx, a, C, dx, fs, sp, ex, ea, l, c, ⟨k1, f, fd, ps, hk, hm, F, hb⟩, q⟩ => ?_) ht⟩
  subst ex
  obtain rfl : u = Value.ref a := rx
  refine getmeth_ok I1 ea c hm l ?_
  exact PySem.W.callWith_K (first := [.ref a]) (h₀ := X.base) I1.ok.mod.kin hm.kp (thn (ha.run pos pins s1 σ H1 _ I1 q) fun us s2 ⟨vs, H2, I2, r, W, tw, q2⟩ => ⟨I2.kIn, run_fnS (E := WE W) (us := .ref a :: us) (vs := .ref a :: vs) F (hr.mono hk) hb (passAt tw σ) I2 (.cons rfl r) q2⟩) hst hpl
theorem pe_methG0 {pl : Sem Bool} (hr : Room k X.A) (he : PE X o ta)
    (ht : eval (.Call (.Attribute o m apos) [] [] pos) X.env = (do
      let ov ← eval o X.env
      standAt apos.atName
      let (f, first) ← holding [ov] (getMethod ov m pl)
      callWith pos f first (backTo pos (starEach [] X.env)) (backToKw pos (keywordEach [] X.env)))) :
    PE X (.Call (.Attribute o m apos) [] [] pos) (fun σ H Q => ta σ H fun x H1 => ∃ a C dx fs sp, x = .ref a ∧ H1 a = some (.ins C dx fs) ∧ fs.lookup m = none ∧ Cls X.K C ∧ MethAt X.prog X.w X.K X.mg X.base k C m sp ∧ ∃ W : WX, Takes X W ∧ sp [.ref a] H1 Q (WE W σ)) := by
  refine ⟨fun pins s σ H Q I h => PySem.W.methodCall_KW (pl := pl) (thn (he.run pins s σ H _ I h) fun u s1 ⟨x, H1, I1, rx, a, C, dx, fs, sp, ex, ea, l, c, ⟨k1, f, fd, ps, hk, hm, F, hb⟩, W, tw, q⟩ => ?_) ht⟩
  subst ex
  obtain rfl : u = Value.ref a := rx
  refine getmeth_ok I1 ea c hm l ?_
  exact PySem.W.callWith_K0 (first := [.ref a]) I1.kIn hm.kp (run_fnS (E := WE W) (us := [.ref a]) (vs := [.ref a]) F (hr.mono hk) hb (passAt tw σ) I1 (.cons rfl .nil) q)
end
/-- a class that can be made -/
structure Maker (P : Program) (w : World) (K : PySem.W.Frag) (mg : Str → Option Value) (base : Heap) (k : Nat) (x : Str) (ps : List Str) (sp : SpD) : Prop where
  ex : ∃ f fd, FnV P w K mg base k f fd ps sp ∧ Binds K fd ps [] ∧ Mk K (He.ga K x) f
  g : mg x = some (.ref (He.ga K x))
def tMakeO (n : Nat) (c : Str) (sp : SpD) (U : TAD) : TOD := fun R Γ Φ => U R Γ fun ds Γ' => ds.length + 1 = n ∧ sp (.ow (.ins c []) :: ds.map .im) (fun r c' => r = .im .non ∧ match c' with
  | some c1 => Φ c1 Γ'
  | none => False) (fun nm pl _ => R nm pl Γ')
section
variable {X : Cx} {tk : Tk} {k j n : Nat} {ps : List Str} {sp : SpD} {x : Str} {p pos : Pos} {e : Expr} {es : List Expr} {U : TAD}
theorem po_make (C : Maker X.prog X.w X.K X.mg X.base k x ps sp) (tw : TkOk X tk) (hr : Room j X.A) (hk : k + 1 ≤ j) (ha : PFA X tk (e :: es) U) (hg : Gl X x := by rfl) (hn : ps.length = n := by rfl)
    (hdb : (x == ("__debug__" : Str)) = false := by decide) (he : starEach (e :: es) X.env = (false, eval e X.env) :: starEach es X.env := by rfl) (hpl : (backTo pos (starEach es X.env)).any (·.1) = false := by rfl) : PFO X tk (.Call (.Name x p) (e :: es) [] pos) (tMakeO n x sp U) := by
  subst hn
  obtain ⟨f, fd, F, hb, M⟩ := C.ex
  refine pe_imp (pe_makeG M F (hr.mono hk) hg C.g hb ha hdb he hpl) fun σ H Q ⟨B, R, Γ, G, Φ, t, en, h, kk⟩ => ⟨B, R, Γ, G, _, t, en, h, fun vs G1 H1 Γ1 ds p1 r1 ⟨h1, h2⟩ => ⟨ExOk X.K B R, tw B R t, fun a dx na nd ne => ?_⟩⟩
  have gn1 : G1 a = none := p1.env.gh.free na
  have gd1 : G1 dx = none := p1.env.gh.free nd
  have up : ∀ b u, H1 b = some u → upd (upd H1 dx (.own a)) a (.ins (He.ga X.K x) dx []) b = some u := fun b u q => by rw [upd_ne (ne_of_none q na), upd_ne (ne_of_none q nd)]; exact q
  have s0 : Same G1 (upd (upd H1 dx (.own a)) a (.ins (He.ga X.K x) dx [])) := fun b u q => up b u (p1.env.gh b u q)
  have ext : ∀ {c' : Option Cl} {G' H' : Hp}, PostR X.K G1 (upd (upd H1 dx (.own a)) a (.ins (He.ga X.K x) dx [])) (some a) G' H' c' → Ext G1 H1 G' H' := fun {c' G' H'} q => by
    refine ⟨q.gg, fun b u z => q.hh b u (up b u z) fun w => ?_, q.gh, fun b u z => ?_⟩
    · cases w
      rw [na] at z
      cases z
    · rcases q.gn b u z with w | w
      · exact .inl w
      · refine .inr ?_
        cases y : H1 b with
        | none => rfl
        | some v => rw [up b v y] at w; cases w
  refine ⟨G1, .ow (.ins x []) :: ds.map .im, _, _, by rw [List.length_cons, r1.length]; exact h1, s0, .cons ⟨a, _, rfl, gn1, upd_same, dx, [], rfl, .nil⟩ (AsOk.ims' r1), h2, fun v r c' G' H' q rr hq => ?_, fun nm pl c' G' H' dd q pq hq => ?_⟩
  · obtain ⟨e1, e2⟩ := hq
    subst e1
    cases rr
    obtain ⟨c1, o, rfl, b1, b2, b3⟩ := q.bo a rfl
    exact ⟨rfl, kk (.ref a) G' H' Γ1 c1 (p1.trans (p1.env.ext (ext q))) ⟨a, o, rfl, b1, b2, b3, p1.back na, p1.env.wd.out na⟩ e2⟩
  · exact ⟨nm, pl, G', Γ1, rfl, (p1.env.ext (ext q)).env, pq, hq⟩
/-- o.m(..), o frozen -/
def MethV (P : Program) (w : World) (K : PySem.W.Frag) (mg : Str → Option Value) (base : Heap) (j : Nat) (c m : Str) (n : Nat) (sp : SpD) : Prop := Cls K (He.ga K c) ∧ MethAt P w K mg base j (He.ga K c) m (liftSp K n sp)
def tMethD (n : Nat) (m : Str) (sp : Str → Option SpD) (T : TF) (U : TAD) : TF := fun R Γ Φ => T R Γ fun d Γ1 => match d with
  | .obj c fs => fs.lookup m = none ∧ ∃ s, sp c = some s ∧ U R Γ1 fun ds Γ2 => ds.length + 1 = n ∧ s (.im (.obj c fs) :: ds.map .im) (fun r _ => Φ r.d Γ2) (fun nm pl _ => R nm pl Γ2)
  | _ => False
theorem pf_meth {o : Expr} {m : Str} {apos : Pos} {T : TF} {sps : Str → Option SpD} {pl : Sem Bool} (M : ∀ c s, sps c = some s → MethV X.prog X.w X.K X.mg X.base j c m n s) (tw : TkOk X tk) (hr : Room j X.A) (ho : PF X tk o T) (ha : PFA X tk (e :: es) U)
    (hst : starEach (e :: es) X.env = (false, eval e X.env) :: starEach es X.env := by rfl) (hpl : (backTo pos (starEach es X.env)).any (·.1) = false := by rfl)
    (ht : eval (.Call (.Attribute o m apos) (e :: es) [] pos) X.env = (do
      let ov ← eval o X.env
      standAt apos.atName
      let (f, first) ← holding [ov] (getMethod ov m pl)
      callWith pos f first (backTo pos (starEach (e :: es) X.env)) (backToKw pos (keywordEach [] X.env))) := by rfl) : PF X tk (.Call (.Attribute o m apos) (e :: es) [] pos) (tMethD n m sps T U) :=
  pe_imp (pe_methG hr ho ha hst hpl ht) fun σ H Q ⟨B, R, Γ, G, Φ, t, en, h, kk⟩ => ⟨B, R, Γ, G, _, t, en, h, fun v G1 H1 Γ1 d p1 r1 h1 => by
    cases r1 with
    | obj hp rf =>
      obtain ⟨hl, s, hs, h2⟩ := h1
      obtain ⟨c1, c2⟩ := M _ s hs
      refine ⟨_, _, _, _, _, rfl, p1.env.gh _ _ hp, rf.lookN hl, c1, c2, B, R, Γ1, G1, _, t, p1.env, h2, fun vs G2 H2 Γ2 ds p2 r2 h3 => ⟨ExOk X.K B R, tw B R t, ?_⟩⟩
      exact call_im (tk := tk) (X := X) (ds := .obj _ _ :: ds) (Φ := fun r Γ => Φ r.d Γ) p2.env (.cons ((Rep.obj hp rf).mono p2.gg) r2) h3 fun v r G' H' p3 q hr => by
        obtain ⟨G3, p4, r4⟩ := ret_fr p2.env p3 rfl q
        exact kk v G3 H' Γ2 _ ((p1.trans p2).trans p4) r4 hr
    | _ => exact h1.elim⟩
theorem pf_meth0 {o : Expr} {m : Str} {apos : Pos} {T : TF} {sps : Str → Option SpD} {pl : Sem Bool} (M : ∀ c s, sps c = some s → MethV X.prog X.w X.K X.mg X.base j c m n s) (tw : TkOk X tk) (hr : Room j X.A) (ho : PF X tk o T)
    (ht : eval (.Call (.Attribute o m apos) [] [] pos) X.env = (do
      let ov ← eval o X.env
      standAt apos.atName
      let (f, first) ← holding [ov] (getMethod ov m pl)
      callWith pos f first (backTo pos (starEach [] X.env)) (backToKw pos (keywordEach [] X.env))) := by rfl) : PF X tk (.Call (.Attribute o m apos) [] [] pos) (tMethD n m sps T tNilD) :=
  pe_imp (pe_methG0 hr ho ht) fun σ H Q ⟨B, R, Γ, G, Φ, t, en, h, kk⟩ => ⟨B, R, Γ, G, _, t, en, h, fun v G1 H1 Γ1 d p1 r1 h1 => by
    cases r1 with
    | obj hp rf =>
      obtain ⟨hl, s, hs, h2⟩ := h1
      obtain ⟨c1, c2⟩ := M _ s hs
      refine ⟨_, _, _, _, _, rfl, p1.env.gh _ _ hp, rf.lookN hl, c1, c2, ExOk X.K B R, tw B R t, ?_⟩
      exact call_im (tk := tk) (X := X) (ds := [.obj _ _]) (Φ := fun r Γ => Φ r.d Γ) p1.env (.cons (.obj hp rf) .nil) h2 fun v r G' H' p3 q hr => by
        obtain ⟨G3, p4, r4⟩ := ret_fr p1.env p3 rfl q
        exact kk v G3 H' Γ1 _ (p1.trans p4) r4 hr
    | _ => exact h1.elim⟩
end
/-! ### isinstance of an own class, a class's constant -/
structure IsiC (K : PySem.W.Frag) (cs : List Str) (sub : Str → Str → Bool) (x : Str) : Prop where
  cl : ∀ c ∈ cs, Cls K (He.ga K c) ∧ PySem.W.findIn K (.ref (He.ga K c)) "__class__" = some (some (.builtin "object.__class__")) ∧ PySem.W.mroIn K (He.ga K c) (.type "object") = some true ∧ PySem.W.kitOne K (.ref (He.ga K c)) (.ref (He.ga K x)) = some (sub c x)
  sp : PySem.W.specialIn K (.builtin "object.__class__") "__get__" = some (some (.builtin "getset_descriptor.__get__"))
  tk : PySem.W.takesIn K (.builtin "object.__class__") = some true
  ty : ∀ n ∈ ["NoneType", "bool", "int", "str", "tuple", "list", "dict"], PySem.W.kitOne K (.type n) (.ref (He.ga K x)) = some false
def dIsiC (cs : List Str) (sub : Str → Str → Bool) (x : Str) (d : D) (k : D → Prop) : Prop := match d with
  | .obj c _ => c ∈ cs ∧ k (.bl (sub c x))
  | d => match d.tyn with
    | some _ => k (.bl false)
    | none => False
def tIsiC (cs : List Str) (sub : Str → Str → Bool) (x : Str) (T : TF) : TF := fun R Γ Φ => T R Γ fun d Γ' => dIsiC cs sub x d fun r => Φ r Γ'
section
variable {X : Cx} {tk : Tk} {e : Expr} {T : TF} {pos p p2 : Pos} {x : Str} {cs : List Str} {sub : Str → Str → Bool}
theorem pf_isiC (C : IsiC X.K cs sub x) (hm : X.mg "isinstance" = none) (hm2 : X.mg x = some (.ref (He.ga X.K x))) (hb : PF X tk e T) (hg : Gl X "isinstance" := by rfl) (hg2 : Gl X x := by rfl) (hdb : (x == ("__debug__" : Str)) = false := by decide)
    (hs : starEach [e, .Name x p2] X.env = (false, eval e X.env) :: starEach [.Name x p2] X.env := by rfl) (hpl : (backTo pos (starEach [.Name x p2] X.env)).any (·.1) = false := by rfl) : PF X tk (.Call (.Name "isinstance" p) [e, .Name x p2] [] pos) (tIsiC cs sub x T) :=
  pe_imp (pe_callB call_isi hg hm (by decide +kernel) (pa_cons hb (pa_cons (pe_glob (v := .ref (He.ga X.K x)) hg2 hm2 rfl hdb) pa_nil) hs) (by decide) (by decide) hs hpl) fun σ H Q ⟨B, R, Γ, G, Φ, t, en, h, kk⟩ => ⟨B, R, Γ, G, _, t, en, h, fun v G1 H1 Γ1 d p1 r1 h1 => by
    have other : ∀ {n : String}, d.tyn = some n → Φ (.bl false) Γ1 → rIsi X.K [v, .ref (He.ga X.K x)] H1 Q := fun {n} hn hq =>
      ⟨v, .ref _, .type n, .ref _, false, rfl, .own _, r1.tyx p1.env.gh hn, C.ty n (tyn_mem hn), kk (.bl false) G1 H1 Γ1 _ p1 (.bl false) hq⟩
    cases d with
    | obj c fs =>
      obtain ⟨hc, hq⟩ := h1
      cases r1 with
      | obj hp rf =>
        obtain ⟨c1, c2, c3, c4⟩ := C.cl c hc
        exact ⟨_, .ref _, .ref (He.ga X.K c), .ref _, _, rfl, .own _, .base (.ins (p1.env.gh _ _ hp) c1 c2 C.sp C.tk c3), c4, kk (.bl _) G1 H1 Γ1 _ p1 (.bl _) hq⟩
    | ro xs => exact h1.elim
    | ptr v => exact h1.elim
    | cls c => exact h1.elim
    | _ => exact other rfl h1⟩
/-- C.f, a whole number -/
structure CConst (K : PySem.W.Frag) (mg : Str → Option Value) (c f : Str) (i : Int) : Prop where
  rd : ∃ mc u, CRead K (He.ga K c) mc ∧ CVal K (He.ga K c) mc f (.int i) u
  g : mg c = some (.ref (He.ga K c))
theorem pf_cconst {f : Str} {i : Int} (C : CConst X.K X.mg x f i) (hg : Gl X x := by rfl) (hdb : (x == ("__debug__" : Str)) = false := by decide) (hb : attributeBase (.Name x p) f X.env (eval (.Name x p) X.env) = eval (.Name x p) X.env := by rfl) : PF X tk (.Attribute (.Name x p) f pos) (tCD (.int i)) := by
  obtain ⟨mc, u, c1, c2⟩ := C.rd
  exact pe_imp (pe_cval (pe_glob (v := .ref (He.ga X.K x)) hg C.g rfl hdb) hb) fun σ H Q ⟨B, R, Γ, G, Φ, t, en, h, kk⟩ => ⟨_, mc, _, u, rfl, c1, c2, kk (.int i) G H Γ _ (EvP.refl en) (.int i) h⟩
end
end Vl

namespace Vl
open PySem PySem.Spec PyProof.Rows L2 ClX
/-! ### C.m(..), m a classmethod; cls(..) -/
section
variable {X : Cx} {k : Nat} {f C pr g : Addr} {mc : Value} {fd : FuncData} {ps : List Str} {sp : Sp} {x m : Str} {p pos apos : Pos} {e o : Expr} {es : List Expr} {ta : TE} {t : TA}
theorem run_cmS {CX : CXT} {E : L2.St → XK} {pins : List (Addr × Obj)} {σ : L2.St} {H : Hp} {s : Shared} {q : Addr} {Q : VK} {us : List Value} {vs : List V} (F : FnOk X.prog X.w X.K X.mg X.base CX k g fd ps sp) (hr : Room k X.A) (hb : Binds X.K fd ps []) (hx : PassesAt CX X σ (E σ))
    (I : Inv X ((q, PySem.W.methodObj (.ref g) (.ref C)) :: pins) σ H s) (r : Vals vs us) (h : sp (.ref C :: vs) H Q (E σ)) : wpAny (model X.prog X.w) X.A (call (.ref q) us) (EP X pins σ Q) X.xe s := by
  have rv : Vals (V.ref C :: vs) (Value.ref C :: us) := .cons rfl r
  have hl : (Value.ref C :: us).length = ps.length := rv.length.symm.trans (F.len _ _ _ _ h)
  have b := hb s (Value.ref C :: us) I.kIn (by rw [List.append_nil]; exact hl)
  rw [List.append_nil] at b
  have z : wpAny (model X.prog X.w) X.A (call (.ref q) us) (EP X ((q, PySem.W.methodObj (.ref g) (.ref C)) :: pins) σ Q) X.xe s := by
    refine wpAny_call (PySem.W.method_call (pin_at I) (codeAny_mono (F.run X.A X.stack s H _ _ _ _ (E σ) hr I.env0 b rv h) fun r s' hq => ?_))
    cases r with
    | error e => exact hx _ H s e s' I hq
    | ok fl =>
      cases fl with
      | ret u => exact I.after hq
      | next => exact False.elim hq
      | brk => exact False.elim hq
      | cont => exact False.elim hq
  exact thn z fun _ _ y => unpinE y
theorem pe_cmethG {pl : Sem Bool} (he : PE X o ta) (r : CRead X.K C mc) (c : CMet X.K C mc m pr g) (F : FnOk X.prog X.w X.K X.mg X.base (L2.CX X.prog X.w) k g fd ps sp) (hr : Room k X.A) (hb : Binds X.K fd ps []) (ha : PA X (e :: es) t)
    (hst : starEach (e :: es) X.env = (false, eval e X.env) :: starEach es X.env) (hpl : (backTo pos (starEach es X.env)).any (·.1) = false)
    (ht : eval (.Call (.Attribute o m apos) (e :: es) [] pos) X.env = (do
      let ov ← eval o X.env
      standAt apos.atName
      let (f, first) ← holding [ov] (getMethod ov m pl)
      callWith pos f first (backTo pos (starEach (e :: es) X.env)) (backToKw pos (keywordEach [] X.env)))) :
    PE X (.Call (.Attribute o m apos) (e :: es) [] pos) (fun σ H Q => ta σ H fun x H1 => x = .ref C ∧ t σ H1 fun vs H2 => ∃ W : WX, Takes X W ∧ sp (.ref C :: vs) H2 Q (WE W σ)) := by
  refine ⟨fun pins s σ H Q I h => PySem.W.methodCall_KW (pl := pl) (thn (he.run pins s σ H _ I h) fun u s1 ⟨x, H1, I1, rx, ex, q⟩ => ?_) ht⟩
  subst ex
  obtain rfl : u = Value.ref C := rx
  refine getmethcm_ok I1 r c fun s2 I2 => ?_
  exact callwith_cm I2 (base_none I1 (Nat.le_refl _)) c.fi (thn (ha.run pos _ s2 σ H1 _ I2 q) fun us s3 ⟨vs, H2, I3, rv, W, tw, q2⟩ => ⟨⟨pin_at I3, I3.kIn⟩, run_cmS (E := WE W) F hr hb (passAt tw σ) I3 rv q2⟩) hst hpl
end
/-- a classmethod -/
structure CMethV (P : Program) (w : World) (K : PySem.W.Frag) (mg : Str → Option Value) (base : Heap) (k : Nat) (c m : Str) (ps : List Str) (sp : SpD) : Prop where
  ex : ∃ mc pr g fd, CRead K (He.ga K c) mc ∧ CMet K (He.ga K c) mc m pr g ∧ FnV P w K mg base k g fd ps sp ∧ Binds K fd ps []
  g : mg c = some (.ref (He.ga K c))
def tCMethD (n : Nat) (c : Str) (sp : SpD) (U : TAD) : TF := fun R Γ Φ => U R Γ fun ds Γ' => ds.length + 1 = n ∧ sp (.im (.cls c) :: ds.map .im) (fun r _ => Φ r.d Γ') (fun nm pl _ => R nm pl Γ')
section
variable {X : Cx} {tk : Tk} {k j n : Nat} {ps : List Str} {sp : SpD} {x m : Str} {p pos apos : Pos} {e : Expr} {es : List Expr} {U : TAD} {T : TF}
theorem pf_cmeth {pl : Sem Bool} (C : CMethV X.prog X.w X.K X.mg X.base k x m ps sp) (tw : TkOk X tk) (hr : Room j X.A) (hk : k ≤ j) (ha : PFA X tk (e :: es) U) (hg : Gl X x := by rfl) (hn : ps.length = n := by rfl) (hdb : (x == ("__debug__" : Str)) = false := by decide)
    (hst : starEach (e :: es) X.env = (false, eval e X.env) :: starEach es X.env := by rfl) (hpl : (backTo pos (starEach es X.env)).any (·.1) = false := by rfl)
    (ht : eval (.Call (.Attribute (.Name x p) m apos) (e :: es) [] pos) X.env = (do
      let ov ← eval (.Name x p) X.env
      standAt apos.atName
      let (f, first) ← holding [ov] (getMethod ov m pl)
      callWith pos f first (backTo pos (starEach (e :: es) X.env)) (backToKw pos (keywordEach [] X.env))) := by rfl) : PF X tk (.Call (.Attribute (.Name x p) m apos) (e :: es) [] pos) (tCMethD n x sp U) := by
  subst hn
  obtain ⟨mc, pr, g, fd, r, c, F, hb⟩ := C.ex
  exact pe_imp (pe_cmethG (pe_glob (v := .ref (He.ga X.K x)) hg C.g rfl hdb) r c F (hr.mono hk) hb ha hst hpl ht) fun σ H Q ⟨B, R, Γ, G, Φ, t, en, h, kk⟩ => ⟨rfl, B, R, Γ, G, _, t, en, h, fun vs G2 H2 Γ2 ds p2 r2 h3 => ⟨ExOk X.K B R, tw B R t,
    call_im (tk := tk) (X := X) (ds := .cls x :: ds) (Φ := fun r Γ => Φ r.d Γ) p2.env (.cons (.cls x) r2) h3 fun v r G' H' p3 q hr => by
        obtain ⟨G3, p4, r4⟩ := ret_fr p2.env p3 rfl q
        exact kk v G3 H' Γ2 _ (p2.trans p4) r4 hr⟩⟩
end
/-- cls(..): the slot holds a class -/
def tMakeC (n i : Nat) (mk : Str → Option SpD) (U : TAD) : TOD := fun R Γ Φ => ∃ c sp, Γ.sl[i]? = some (.im (.cls c)) ∧ mk c = some sp ∧ tMakeO n c sp U R Γ Φ
section
variable {X : Cx} {tk : Tk} {k j n : Nat} {ps : List Str} {sp : SpD} {x : Str} {p pos : Pos} {e : Expr} {es : List Expr} {U : TAD}
/-- what C(..) leaves -/
theorem make_core {Q : VK} {W : List V → Hp → Prop} {sp : SpD} {x : Str} {σ : L2.St} {H : Hp} (tw : TkOk X tk) (h : lO X.K tk (tMakeO n x sp U) σ H Q) : lA X.K tk U σ H fun vs H1 => ∃ W : WX, Takes X W ∧ ∀ a dx, H1 a = none → H1 dx = none → dx ≠ a → liftSp X.K n sp (.ref a :: vs) (upd (upd H1 dx (.own a)) a (.ins (He.ga X.K x) dx [])) (fun v H2 => v = .non ∧ Q (.ref a) H2) (WE W σ) := by
  obtain ⟨B, R, Γ, G, Φ, t, en, h, kk⟩ := h
  refine ⟨B, R, Γ, G, _, t, en, h, fun vs G1 H1 Γ1 ds p1 r1 ⟨h1, h2⟩ => ⟨ExOk X.K B R, tw B R t, fun a dx na nd ne => ?_⟩⟩
  have gn1 : G1 a = none := p1.env.gh.free na
  have up : ∀ b u, H1 b = some u → upd (upd H1 dx (.own a)) a (.ins (He.ga X.K x) dx []) b = some u := fun b u q => by rw [upd_ne (ne_of_none q na), upd_ne (ne_of_none q nd)]; exact q
  have s0 : Same G1 (upd (upd H1 dx (.own a)) a (.ins (He.ga X.K x) dx [])) := fun b u q => up b u (p1.env.gh b u q)
  have ext : ∀ {c' : Option Cl} {G' H' : Hp}, PostR X.K G1 (upd (upd H1 dx (.own a)) a (.ins (He.ga X.K x) dx [])) (some a) G' H' c' → Ext G1 H1 G' H' := fun {c' G' H'} q => by
    refine ⟨q.gg, fun b u z => q.hh b u (up b u z) fun w => ?_, q.gh, fun b u z => ?_⟩
    · cases w
      rw [na] at z
      cases z
    · rcases q.gn b u z with w | w
      · exact .inl w
      · refine .inr ?_
        cases y : H1 b with
        | none => rfl
        | some v => rw [up b v y] at w; cases w
  refine ⟨G1, .ow (.ins x []) :: ds.map .im, _, _, by rw [List.length_cons, r1.length]; exact h1, s0, .cons ⟨a, _, rfl, gn1, upd_same, dx, [], rfl, .nil⟩ (AsOk.ims' r1), h2, fun v r c' G' H' q rr hq => ?_, fun nm pl c' G' H' dd q pq hq => ?_⟩
  · obtain ⟨e1, e2⟩ := hq
    subst e1
    cases rr
    obtain ⟨c1, o, rfl, b1, b2, b3⟩ := q.bo a rfl
    exact ⟨rfl, kk (.ref a) G' H' Γ1 c1 (p1.trans (p1.env.ext (ext q))) ⟨a, o, rfl, b1, b2, b3, p1.back na, p1.env.wd.out na⟩ e2⟩
  · exact ⟨nm, pl, G', Γ1, rfl, (p1.env.ext (ext q)).env, pq, hq⟩
theorem po_makeC (i : Nat) {mk : Str → Option SpD} (M : ∀ c sp, mk c = some sp → ∃ ps, ps.length = n ∧ Maker X.prog X.w X.K X.mg X.base k c ps sp) (tw : TkOk X tk) (hr : Room j X.A) (hk : k + 1 ≤ j) (ha : PFA X tk (e :: es) U) (hN : X.N[i]? = some x := by rfl) (hv : Vis X.env.scope x := by first | exact Or.inl rfl | exact Or.inr (Or.inl rfl) | exact Or.inr (Or.inr rfl))
    (hdb : (x == ("__debug__" : Str)) = false := by decide) (hcd : (x == ("__classdict__" : Str)) = false := by decide) (he : starEach (e :: es) X.env = (false, eval e X.env) :: starEach es X.env := by rfl) (hpl : (backTo pos (starEach es X.env)).any (·.1) = false := by rfl) : PFO X tk (.Call (.Name x p) (e :: es) [] pos) (tMakeC n i mk U) := by
  refine ⟨fun pins s σ H Q I h => ?_⟩
  obtain ⟨B, R, Γ, G, Φ, t, en, ⟨c, sp, hΓ, hm, h⟩, kk⟩ := h
  obtain ⟨ps, hn, C⟩ := M c sp hm
  subst hn
  obtain ⟨f, fd, F, hb, Mk⟩ := C.ex
  obtain ⟨v, e1, e2⟩ := en.im i _ hΓ
  cases e2
  have core := make_core (W := fun _ _ => True) (n := ps.length) tw (Q := Q) (σ := σ) (H := H) ⟨B, R, Γ, G, Φ, t, en, h, kk⟩
  refine wpAny_Call_Name_kw (thn ((pe_var (pos := p) hN hv hdb hcd).run pins s σ H (fun v H1 => v = .ref (He.ga X.K c) ∧ H1 = H) I ⟨_, e1, rfl, rfl⟩) fun u s1 ⟨v, H1, I1, r1, q1⟩ => ?_)
  obtain ⟨rfl, rfl⟩ := q1
  cases r1
  exact PySem.W.callWith_K (h₀ := X.base) I1.ok.mod.kin Mk.kp (thn (ha.run pos pins s1 σ _ _ I1 core) fun us s2 ⟨vs, H2, I2, r, W, tw, q⟩ => ⟨I2.kIn, run_makeS (E := WE W) Mk F (hr.mono hk) hb (passAt tw σ) I2 r q⟩) he hpl
end
/-! ### list(..), [..] * n, sorted(..) -/
section
variable {X : Cx} {tk : Tk} {e : Expr} {T : TF} {pos p px : Pos} {x : Str} {k : Nat}
/-- list(e) -/
def tListO (T : TF) : TOD := fun R Γ Φ => T R Γ fun d Γ' => match d with
  | .tup ds => Φ (.lst ds) Γ'
  | .lst ds => Φ (.lst ds) Γ'
  | .ro ds => Φ (.lst ds) Γ'
  | _ => False
theorem po_list (hm : X.mg "list" = none) (he : PF X tk e T) (hg : Gl X "list" := by rfl) (hs : starEach [e] X.env = (false, eval e X.env) :: starEach [] X.env := by rfl) : PFO X tk (.Call (.Name "list" p) [e] [] pos) (tListO T) :=
  pe_imp (pe_callTy call_list_of hg hm (by decide +kernel) (pa_cons he pa_nil hs) (by decide) (by decide) hs) fun σ H Q ⟨B, R, Γ, G, Φ, t, en, h, kk⟩ => ⟨B, R, Γ, G, _, t, en, h, fun v G1 H1 Γ1 d p1 r1 h1 => by
    cases r1 with
    | tup hp l rr => exact ⟨_, _, rfl, .inr (same_t p1.env.gh hp), fun q hq => kk (.ref q) G1 _ Γ1 (.lst _) (p1.trans (p1.env.cell hq)) ⟨q, _, rfl, p1.env.gh.free hq, upd_same, ⟨_, rfl, l, rr⟩, p1.back hq, p1.env.wd.out hq⟩ h1⟩
    | lst hp l rr => exact ⟨_, _, rfl, .inl (SqL.of (p1.env.gh _ _ hp)), fun q hq => kk (.ref q) G1 _ Γ1 (.lst _) (p1.trans (p1.env.cell hq)) ⟨q, _, rfl, p1.env.gh.free hq, upd_same, ⟨_, rfl, l, rr⟩, p1.back hq, p1.env.wd.out hq⟩ h1⟩
    | ro hp l rr => exact ⟨_, _, rfl, .inl (same_l p1.env.gh hp), fun q hq => kk (.ref q) G1 _ Γ1 (.lst _) (p1.trans (p1.env.cell hq)) ⟨q, _, rfl, p1.env.gh.free hq, upd_same, ⟨_, rfl, l, rr⟩, p1.back hq, p1.env.wd.out hq⟩ h1⟩
    | _ => exact h1.elim⟩
/-- list(own) -/
def tListOw (i : Nat) : TOD := fun _ Γ Φ => match Γ.sl[i]? with
  | some (.ow (.lst ds)) => Φ (.lst ds) Γ
  | _ => False
theorem po_listO (i : Nat) (hm : X.mg "list" = none) (hN : X.N[i]? = some x := by rfl) (hx : Vis X.env.scope x := by first | exact Or.inl rfl | exact Or.inr (Or.inl rfl) | exact Or.inr (Or.inr rfl)) (hd : (x == ("__debug__" : Str)) = false := by decide) (hcd : (x == ("__classdict__" : Str)) = false := by decide)
    (hg : Gl X "list" := by rfl) (hs : starEach [.Name x px] X.env = (false, eval (.Name x px) X.env) :: starEach [] X.env := by rfl) : PFO X tk (.Call (.Name "list" p) [.Name x px] [] pos) (tListOw i) :=
  pe_imp (pe_callTy call_list_of hg hm (by decide +kernel) (pa_cons (pe_var hN hx hd hcd) pa_nil hs) (by decide) (by decide) hs rfl) fun σ H Q ⟨B, R, Γ, G, Φ, t, en, h, kk⟩ => by
    unfold tListOw at h
    split at h
    · rename_i ds q
      obtain ⟨l, o, a1, a2, a3, ⟨xs, a4, a5, a6⟩, _⟩ := en.ow i _ q
      subst a4
      exact ⟨.ref l, a1, l, xs, rfl, .inl (SqL.of a3), fun r hr => kk (.ref r) G _ Γ (.lst ds) (en.cell hr) ⟨r, _, rfl, en.gh.free hr, upd_same, ⟨xs, rfl, a5, a6⟩, hr, en.wd.out hr⟩ h⟩
    · exact h.elim
end
end Vl

namespace Vl
open PySem PySem.Spec PyProof.Rows L2 PySem.W
/-! ### is True, is None; [..] * n -/
def vBase : V → Bool
  | .non => true
  | .bl _ => true
  | .int _ => true
  | .str _ => true
  | .ref _ => true
  | _ => false
def rIsB (neg : Bool) : R2 := fun x y H Q => vBase x = true ∧ ∃ b, y = .bl b ∧ Q (.bl (if neg then !decide (x = .bl b) else decide (x = .bl b))) H
def rIsN (neg : Bool) : R2 := fun x y H Q => vBase x = true ∧ y = .non ∧ Q (.bl (if neg then !decide (x = .non) else decide (x = .non))) H
section
variable {X : Cx}
theorem op_isB : OpR X (compareOp .Is) (rIsB false) := by
  intro pins s σ H x y v u Q I rx ry h
  obtain ⟨hb, b, rfl, q⟩ := h
  cases ry
  cases x with
  | non => cases rx; exact wpAny_pure ⟨.bl _, H, I, rfl, q⟩
  | bl c => cases rx; exact wpAny_pure ⟨.bl _, H, I, by cases b <;> cases c <;> rfl, q⟩
  | int i => obtain ⟨t, rfl⟩ := rx; exact wpAny_pure ⟨.bl _, H, I, rfl, q⟩
  | str i => obtain ⟨t, rfl⟩ := rx; exact wpAny_pure ⟨.bl _, H, I, rfl, q⟩
  | ref a => cases rx; exact wpAny_pure ⟨.bl _, H, I, rfl, q⟩
  | _ => cases hb
theorem op_isNotB : OpR X (compareOp .IsNot) (rIsB true) := by
  intro pins s σ H x y v u Q I rx ry h
  obtain ⟨hb, b, rfl, q⟩ := h
  cases ry
  cases x with
  | non => cases rx; exact wpAny_pure ⟨.bl _, H, I, rfl, q⟩
  | bl c => cases rx; exact wpAny_pure ⟨.bl _, H, I, by cases b <;> cases c <;> rfl, q⟩
  | int i => obtain ⟨t, rfl⟩ := rx; exact wpAny_pure ⟨.bl _, H, I, rfl, q⟩
  | str i => obtain ⟨t, rfl⟩ := rx; exact wpAny_pure ⟨.bl _, H, I, rfl, q⟩
  | ref a => cases rx; exact wpAny_pure ⟨.bl _, H, I, rfl, q⟩
  | _ => cases hb
theorem op_isNo : OpR X (compareOp .Is) (rIsN false) := by
  intro pins s σ H x y v u Q I rx ry h
  obtain ⟨hb, rfl, q⟩ := h
  cases ry
  cases x with
  | non => cases rx; exact wpAny_pure ⟨.bl _, H, I, rfl, q⟩
  | bl c => cases rx; exact wpAny_pure ⟨.bl _, H, I, rfl, q⟩
  | int i => obtain ⟨t, rfl⟩ := rx; exact wpAny_pure ⟨.bl _, H, I, rfl, q⟩
  | str i => obtain ⟨t, rfl⟩ := rx; exact wpAny_pure ⟨.bl _, H, I, rfl, q⟩
  | ref a => cases rx; exact wpAny_pure ⟨.bl _, H, I, rfl, q⟩
  | _ => cases hb
theorem op_isNotNo : OpR X (compareOp .IsNot) (rIsN true) := by
  intro pins s σ H x y v u Q I rx ry h
  obtain ⟨hb, rfl, q⟩ := h
  cases ry
  cases x with
  | non => cases rx; exact wpAny_pure ⟨.bl _, H, I, rfl, q⟩
  | bl c => cases rx; exact wpAny_pure ⟨.bl _, H, I, rfl, q⟩
  | int i => obtain ⟨t, rfl⟩ := rx; exact wpAny_pure ⟨.bl _, H, I, rfl, q⟩
  | str i => obtain ⟨t, rfl⟩ := rx; exact wpAny_pure ⟨.bl _, H, I, rfl, q⟩
  | ref a => cases rx; exact wpAny_pure ⟨.bl _, H, I, rfl, q⟩
  | _ => cases hb
end
/-- is, is not: the right side True, False, None -/
def dIs (neg : Bool) (a b : D) (k : D → Prop) : Prop := match b with
  | .bl c => (match a with
    | .ptr _ => False
    | a => k (.bl (if neg then !(match a with
      | .bl d => d == c
      | _ => false) else (match a with
      | .bl d => d == c
      | _ => false))))
  | .non => (match a with
    | .ptr _ => False
    | a => k (.bl (if neg then !(match a with
      | .non => true
      | _ => false) else (match a with
      | .non => true
      | _ => false))))
  | _ => False
theorem rep_base {K : PySem.W.Frag} {G : Hp} {v : V} {d : D} (r : Rep K G v d) (h : ∀ w, d ≠ .ptr w) : vBase v = true := by
  cases r <;> first | rfl | exact absurd rfl (h _)
theorem opd_isAll {K : PySem.W.Frag} {neg : Bool} : OpD K (fun x y H Q => rIsB neg x y H Q ∨ rIsN neg x y H Q) (dIs neg) := by
  intro G H x y a b k Q s ra rb h o
  have key : ∀ w, a ≠ .ptr w := fun w e => by
    subst e
    cases b <;> exact h.elim
  have hb := rep_base ra key
  cases rb with
  | bl c =>
    refine .inl ⟨hb, c, rfl, ?_⟩
    cases ra with
    | bl d =>
      have e : decide ((V.bl d) = .bl c) = (d == c) := by cases d <;> cases c <;> rfl
      rw [e]
      exact o.here s (.bl _) h
    | ptr w => exact absurd rfl (key _)
    | _ => exact o.here s (.bl _) h
  | non =>
    refine .inr ⟨hb, rfl, ?_⟩
    cases ra with
    | ptr w => exact absurd rfl (key _)
    | _ => exact o.here s (.bl _) h
  | _ => exact h.elim
section
variable {X : Cx} {tk : Tk} {a b : Expr} {Ta Tb : TF} {pos : Pos}
theorem pf_is (ha : PF X tk a Ta) (hb : PF X tk b Tb) : PF X tk (.Compare a [.Is] [b] pos) (tBin (dIs false) Ta Tb) := pf_cmp (op_isB.or op_isNo) opd_isAll ha hb (nomark _)
theorem pf_isNot (ha : PF X tk a Ta) (hb : PF X tk b Tb) : PF X tk (.Compare a [.IsNot] [b] pos) (tBin (dIs true) Ta Tb) := pf_cmp (op_isNotB.or op_isNotNo) opd_isAll ha hb (nomark _)
theorem pft_is (ha : PF X tk a Ta) (hb : PF X tk b Tb) : PFT X tk (.Compare a [.Is] [b] pos) (tBinT (dIs false) Ta Tb) := pft_cmp (op_isB.or op_isNo) opd_isAll ha hb (nomark _)
theorem pft_isNot (ha : PF X tk a Ta) (hb : PF X tk b Tb) : PFT X tk (.Compare a [.IsNot] [b] pos) (tBinT (dIs true) Ta Tb) := pft_cmp (op_isNotB.or op_isNotNo) opd_isAll ha hb (nomark _)
/-- * of everything -/
def dMul : D → D → (D → Prop) → Prop
  | .int i, .int j, k => CMul i j ∧ k (.int (i * j))
  | .lst xs, .int n, k => -(2 ^ 63) ≤ n ∧ n < 2 ^ 63 ∧ xs.length * n.toNat ≤ sizeLine ∧ k (.lst (List.replicate n.toNat xs).flatten)
  | _, _, _ => False
theorem reps_rep {K : PySem.W.Frag} {G : Hp} {xs : List V} {ds : List D} (r : Reps K G xs ds) : ∀ n : Nat, Reps K G (List.replicate n xs).flatten (List.replicate n ds).flatten
  | 0 => .nil
  | n + 1 => by
    rw [List.replicate_succ, List.replicate_succ, List.flatten_cons, List.flatten_cons]
    exact r.append (reps_rep r n)
theorem opd_mul {K : PySem.W.Frag} : OpD K (fun x y H Q => rI CMul (fun i j => .int (i * j)) x y H Q ∨ rRep x y H Q) dMul := by
  intro G H x y a b k Q s ra rb h o
  cases ra with
  | int i => cases rb with
    | int j => exact .inl ⟨i, j, rfl, rfl, h.1, o.here s (.int _) h.2⟩
    | _ => exact h.elim
  | @lst p xs ds hp l r => cases rb with
    | int j =>
      obtain ⟨h1, h2, h3, h4⟩ := h
      have lr : (List.replicate j.toNat xs).flatten.length ≤ sizeLine := by
        rw [List.length_flatten, List.map_replicate, List.sum_replicate_nat, r.length, Nat.mul_comm]
        exact h3
      exact .inr ⟨p, j, xs, rfl, rfl, s _ _ hp, h1, h2, by rw [r.length]; exact h3, fun t ht => o.new s ht (.lst upd_same lr ((reps_rep r _).new s ht)) h4⟩
    | _ => exact h.elim
  | _ => exact h.elim
theorem pf_mulA (ha : PF X tk a Ta) (hb : PF X tk b Tb) : PF X tk (.BinOp a .Mult b pos) (tBin dMul Ta Tb) := pf_op (op_mul.or op_rep) opd_mul ha hb
end
end Vl

namespace Vl
open PySem PySem.Spec PyProof.Rows L2
/-! ### views: own cells handed on, to be read only -/
mutual
def D.nov (p q : Bool) : D → Bool
  | .tup xs => Ds.nov p q xs
  | .lst xs => !p && Ds.nov p q xs
  | .ro xs => !p && Ds.nov p q xs
  | .dct kvs => !p && Dk.nov p q kvs
  | .obj _ fs => !q && Df.nov p q fs
  | .non => true
  | .bl _ => true
  | .int _ => true
  | .str _ => true
  | .ptr _ => true
  | .cls _ => true
def Ds.nov (p q : Bool) : List D → Bool
  | [] => true
  | x :: xs => D.nov p q x && Ds.nov p q xs
def Dk.nov (p q : Bool) : List (Key × D) → Bool
  | [] => true
  | (_, x) :: xs => D.nov p q x && Dk.nov p q xs
def Df.nov (p q : Bool) : List (Str × D) → Bool
  | [] => true
  | (_, x) :: xs => D.nov p q x && Df.nov p q xs
end
mutual
theorem D.nov_ff : ∀ d : D, d.nov false false = true
  | .tup xs => by simp only [D.nov]; exact Ds.nov_ff xs
  | .lst xs => by simp only [D.nov, Bool.not_false, Bool.true_and]; exact Ds.nov_ff xs
  | .ro xs => by simp only [D.nov, Bool.not_false, Bool.true_and]; exact Ds.nov_ff xs
  | .dct xs => by simp only [D.nov, Bool.not_false, Bool.true_and]; exact Dk.nov_ff xs
  | .obj _ xs => by simp only [D.nov, Bool.not_false, Bool.true_and]; exact Df.nov_ff xs
  | .non => by simp only [D.nov]
  | .bl _ => by simp only [D.nov]
  | .int _ => by simp only [D.nov]
  | .str _ => by simp only [D.nov]
  | .ptr _ => by simp only [D.nov]
  | .cls _ => by simp only [D.nov]
theorem Ds.nov_ff : ∀ xs : List D, Ds.nov false false xs = true
  | [] => by simp only [Ds.nov]
  | x :: xs => by simp only [Ds.nov, Bool.and_eq_true]; exact ⟨D.nov_ff x, Ds.nov_ff xs⟩
theorem Dk.nov_ff : ∀ xs : List (Key × D), Dk.nov false false xs = true
  | [] => by simp only [Dk.nov]
  | (_, x) :: xs => by simp only [Dk.nov, Bool.and_eq_true]; exact ⟨D.nov_ff x, Dk.nov_ff xs⟩
theorem Df.nov_ff : ∀ xs : List (Str × D), Df.nov false false xs = true
  | [] => by simp only [Df.nov]
  | (_, x) :: xs => by simp only [Df.nov, Bool.and_eq_true]; exact ⟨D.nov_ff x, Df.nov_ff xs⟩
end
def Cl.nov (p q : Bool) : Cl → Bool
  | .lst ds => Ds.nov p q ds
  | .dct kvs => Dk.nov p q kvs
  | .ins _ fs => Df.nov p q fs
theorem Cl.nov_ff (c : Cl) : c.nov false false = true := by
  cases c
  · exact Ds.nov_ff _
  · exact Dk.nov_ff _
  · exact Df.nov_ff _
/-- G2 is G without what stands at L -/
structure Tw (p q : Bool) (L : Addr → Prop) (G G2 : Hp) : Prop where
  st : ∀ a o, G a = some o → ¬ L a → G2 a = some o
  kd : ∀ a o, L a → G a = some o → (p = true ∧ ((∃ xs, o = .lst xs) ∨ ∃ kvs, o = .dK kvs)) ∨ (q = true ∧ ∃ C dx fs, o = .ins C dx fs)
section
variable {K : PySem.W.Frag} {G G2 : Hp} {p q : Bool} {L : Addr → Prop}
theorem Tw.keep (t : Tw p q L G G2) {a : Addr} {o : HO} (h : G a = some o) (n : ¬ ((p = true ∧ ((∃ xs, o = .lst xs) ∨ ∃ kvs, o = .dK kvs)) ∨ (q = true ∧ ∃ C dx fs, o = .ins C dx fs))) : G2 a = some o :=
  t.st a o h fun z => n (t.kd a o z h)
theorem Tw.rdt (t : Tw p q L G G2) {a : Addr} {xs : List V} (h : SqT K G a xs) : SqT K G2 a xs := by
  rcases h with (h | ⟨o, h⟩) | h
  · exact .inl (.inl (t.keep h (by rintro (⟨_, ⟨_, z⟩ | ⟨_, z⟩⟩ | ⟨_, _, _, _, z⟩) <;> cases z)))
  · exact .inl (.inr ⟨o, t.keep h (by rintro (⟨_, ⟨_, z⟩ | ⟨_, z⟩⟩ | ⟨_, _, _, _, z⟩) <;> cases z)⟩)
  · exact .inr h
theorem Tw.rdl (t : Tw p q L G G2) (hp : p = false) {a : Addr} {xs : List V} (h : SqL K G a xs) : SqL K G2 a xs := by
  subst hp
  rcases h with (h | ⟨o, h⟩) | h
  · exact .inl (.inl (t.keep h (by rintro (⟨z, _⟩ | ⟨_, _, _, _, z⟩) <;> cases z)))
  · exact .inl (.inr ⟨o, t.keep h (by rintro (⟨z, _⟩ | ⟨_, _, _, _, z⟩) <;> cases z)⟩)
  · exact .inr h
mutual
theorem Rep.thaw (t : Tw p q L G G2) : ∀ {v : V} {d : D}, Rep K G v d → d.nov p q = true → Rep K G2 v d
  | _, _, .non, _ => .non
  | _, _, .bl b, _ => .bl b
  | _, _, .int i, _ => .int i
  | _, _, .str x, _ => .str x
  | _, _, .ptr v, _ => .ptr v
  | _, _, .cls c, _ => .cls c
  | _, _, .tup h l r, n => .tup (t.rdt h) l (Reps.thaw t r (by simpa only [D.nov] using n))
  | _, _, .lst h l r, n => by
    simp only [D.nov, Bool.and_eq_true, Bool.not_eq_true'] at n
    exact .lst (t.keep h (by
      rintro (⟨z, _⟩ | ⟨_, _, _, _, z⟩)
      · rw [n.1] at z; cases z
      · cases z)) l (Reps.thaw t r n.2)
  | _, _, .ro h l r, n => by
    simp only [D.nov, Bool.and_eq_true, Bool.not_eq_true'] at n
    exact .ro (t.rdl n.1 h) l (Reps.thaw t r n.2)
  | _, _, .dct h l r, n => by
    simp only [D.nov, Bool.and_eq_true, Bool.not_eq_true'] at n
    exact .dct (t.keep h (by
      rintro (⟨z, _⟩ | ⟨_, _, _, _, z⟩)
      · rw [n.1] at z; cases z
      · cases z)) l (RepK.thaw t r n.2)
  | _, _, .obj h r, n => by
    simp only [D.nov, Bool.and_eq_true, Bool.not_eq_true'] at n
    exact .obj (t.keep h (by
      rintro (⟨_, ⟨_, z⟩ | ⟨_, z⟩⟩ | ⟨z, _⟩)
      · cases z
      · cases z
      · rw [n.1] at z; cases z)) (RepF.thaw t r n.2)
theorem Reps.thaw (t : Tw p q L G G2) : ∀ {v : List V} {d : List D}, Reps K G v d → Ds.nov p q d = true → Reps K G2 v d
  | _, _, .nil, _ => .nil
  | _, _, .cons h r, n => by
    simp only [Ds.nov, Bool.and_eq_true] at n
    exact .cons (Rep.thaw t h n.1) (Reps.thaw t r n.2)
theorem RepK.thaw (t : Tw p q L G G2) : ∀ {v : List (Key × V)} {d : List (Key × D)}, RepK K G v d → Dk.nov p q d = true → RepK K G2 v d
  | _, _, .nil, _ => .nil
  | _, _, .cons h r, n => by
    simp only [Dk.nov, Bool.and_eq_true] at n
    exact .cons (Rep.thaw t h n.1) (RepK.thaw t r n.2)
theorem RepF.thaw (t : Tw p q L G G2) : ∀ {v : List (Str × V)} {d : List (Str × D)}, RepF K G v d → Df.nov p q d = true → RepF K G2 v d
  | _, _, .nil, _ => .nil
  | _, _, .cons h r, n => by
    simp only [Df.nov, Bool.and_eq_true] at n
    exact .cons (Rep.thaw t h n.1) (RepF.thaw t r n.2)
end
theorem ClOk.thaw (t : Tw p q L G G2) {o : HO} : ∀ {c : Cl}, ClOk K G o c → c.nov p q = true → ClOk K G2 o c
  | .lst _, ⟨xs, e, l, r⟩, n => ⟨xs, e, l, r.thaw t n⟩
  | .dct _, ⟨xs, e, l, r⟩, n => ⟨xs, e, l, r.thaw t n⟩
  | .ins _ _, ⟨dx, xs, e, r⟩, n => ⟨dx, xs, e, r.thaw t n⟩
end
def plNov (p q : Bool) : Option (List (Str × D)) → Bool
  | none => true
  | some fs => Df.nov p q fs
theorem PlOk.thaw {K : PySem.W.Frag} {G G2 H : Hp} {p q : Bool} {L : Addr → Prop} (t : Tw p q L G G2) : ∀ {dd : Option Addr} {pl : Option (List (Str × D))}, PlOk K G H dd pl → plNov p q pl = true → PlOk K G2 H dd pl
  | none, none, _, _ => trivial
  | some _, some _, ⟨xs, h, r⟩, n => ⟨xs, h, r.thaw t n⟩
  | none, some _, h, _ => h.elim
  | some _, none, h, _ => h.elim
def RD.nov (p q : Bool) : RD → Bool
  | .im d => d.nov p q
  | .fr c => c.nov p q
  | .fl _ _ => false
/-! arguments -/
inductive XD where
  | im (d : D) | sl | vw (j : Nat)
abbrev TXD := ExD → Gm → (List XD → Gm → Prop) → Prop
inductive XOk (K : PySem.W.Frag) (G : Hp) (σ : L2.St) (i : Option Nat) : List V → List XD → Prop
  | nil : XOk K G σ i [] []
  | im {v : V} {d : D} {vs : List V} {xs : List XD} (h : Rep K G v d) (t : XOk K G σ i vs xs) : XOk K G σ i (v :: vs) (.im d :: xs)
  | sl {v : V} {k : Nat} {vs : List V} {xs : List XD} (e : i = some k) (h : σ[k]? = some (some v)) (t : XOk K G σ i vs xs) : XOk K G σ i (v :: vs) (.sl :: xs)
  | vw {v : V} {j : Nat} {vs : List V} {xs : List XD} (h : σ[j]? = some (some v)) (t : XOk K G σ i vs xs) : XOk K G σ i (v :: vs) (.vw j :: xs)
def clAt (Γ : Gm) (j : Nat) : Option Cl := match Γ.sl[j]? with
  | some (.ow c) => some c
  | _ => none
theorem clAt_eq {Γ : Gm} {j : Nat} {c : Cl} (h : clAt Γ j = some c) : Γ.sl[j]? = some (.ow c) := by
  unfold clAt at h
  split at h
  · cases h; assumption
  · cases h
def XD.ad (Γ : Gm) (i : Option Nat) : XD → AD
  | .im d => .im d
  | .vw j => match clAt Γ j with
    | some c => .im c.d
    | none => .im .non
  | .sl => match i with
    | some k => (match clAt Γ k with
      | some c => .ow c
      | none => .im .non)
    | none => .im .non
def XD.ok (Γ : Gm) (i : Option Nat) : XD → Bool
  | .im _ => true
  | .vw j => (clAt Γ j).isSome && !decide (i = some j)
  | .sl => match i with
    | some k => (clAt Γ k).isSome
    | none => false
def XD.isP (Γ : Gm) : XD → Bool
  | .vw j => match clAt Γ j with
    | some (.lst _) => true
    | some (.dct _) => true
    | _ => false
  | _ => false
def XD.isQ (Γ : Gm) : XD → Bool
  | .vw j => match clAt Γ j with
    | some (.ins _ _) => true
    | _ => false
  | _ => false
def hasSlX : List XD → Bool
  | [] => false
  | .sl :: _ => true
  | _ :: r => hasSlX r
def xP (Γ : Gm) (xs : List XD) : Bool := xs.any (XD.isP Γ)
def xQ (Γ : Gm) (xs : List XD) : Bool := xs.any (XD.isQ Γ)
def lX (K : PySem.W.Frag) (tk : Tk) (i : Option Nat) (T : TXD) : TA := fun σ H Q => ∃ (B : Bs) (R : ExD) (Γ : Gm) (G : Hp) (Φ : List XD → Gm → Prop), tk B R ∧ EnvOk K B G H σ Γ ∧ T R Γ Φ ∧
  ∀ vs G' H' Γ' xs, EvP K B σ G H Γ G' H' Γ' → XOk K G' σ i vs xs → Φ xs Γ' → Q vs H'
def PFX (X : Cx) (tk : Tk) (i : Option Nat) (es : List Expr) (T : TXD) : Prop := PA X es (lX X.K tk i T)
def tNilX : TXD := fun _ Γ Φ => Φ [] Γ
def tImX (T : TF) (U : TXD) : TXD := fun R Γ Φ => T R Γ fun d Γ1 => U R Γ1 fun xs Γ2 => Φ (.im d :: xs) Γ2
def tSlX (i : Nat) (U : TXD) : TXD := fun R Γ Φ => (clAt Γ i).isSome = true ∧ U R Γ fun xs Γ2 => Φ (.sl :: xs) Γ2
def tVwX (j : Nat) (U : TXD) : TXD := fun R Γ Φ => (clAt Γ j).isSome = true ∧ U R Γ fun xs Γ2 => Φ (.vw j :: xs) Γ2
theorem XOk.mono {K : PySem.W.Frag} {G G' : Hp} {σ : L2.St} {i : Option Nat} (s : Same G G') : ∀ {vs : List V} {xs : List XD}, XOk K G σ i vs xs → XOk K G' σ i vs xs
  | _, _, .nil => .nil
  | _, _, .im h t => .im (h.mono s) (t.mono s)
  | _, _, .sl e h t => .sl e h (t.mono s)
  | _, _, .vw h t => .vw h (t.mono s)
theorem XOk.length {K : PySem.W.Frag} {G : Hp} {σ : L2.St} {i : Option Nat} : ∀ {vs : List V} {xs : List XD}, XOk K G σ i vs xs → vs.length = xs.length
  | _, _, .nil => rfl
  | _, _, .im _ t => congrArg (· + 1) t.length
  | _, _, .sl _ _ t => congrArg (· + 1) t.length
  | _, _, .vw _ t => congrArg (· + 1) t.length
/-- the viewed addresses -/
def vwL (σ : L2.St) (Γ : Gm) (xs : List XD) : Addr → Prop := fun a => ∃ j c, XD.vw j ∈ xs ∧ clAt Γ j = some c ∧ σ[j]? = some (some (.ref a))
open Classical in
noncomputable def vwG (L : Addr → Prop) (G H : Hp) : Hp := fun a => if L a then H a else G a
open Classical in
noncomputable def cutG (L : Addr → Prop) (G : Hp) : Hp := fun a => if L a then none else G a
section
variable {K : PySem.W.Frag} {B : Bs} {σ : L2.St} {G H G' H' : Hp} {Γ : Gm} {xs : List XD} {i : Option Nat} {c' : Option Cl} {lb : Option Addr}
theorem vwL_own (en : EnvOk K B G H σ Γ) {a : Addr} (h : vwL σ Γ xs a) : ∃ j c o, XD.vw j ∈ xs ∧ Γ.sl[j]? = some (.ow c) ∧ σ[j]? = some (some (.ref a)) ∧ G a = none ∧ H a = some o ∧ ClOk K G o c := by
  obtain ⟨j, c, h1, h2, h3⟩ := h
  have h4 := clAt_eq h2
  obtain ⟨l, o, e1, e2, e3, e4, _⟩ := en.ow j c h4
  rw [h3] at e1
  cases e1
  exact ⟨j, c, o, h1, h4, h3, e2, e3, e4⟩
theorem vwG_same (en : EnvOk K B G H σ Γ) : Same G (vwG (vwL σ Γ xs) G H) ∧ Same (vwG (vwL σ Γ xs) G H) H := by
  refine ⟨fun a o h => ?_, fun a o h => ?_⟩
  · unfold vwG
    rw [if_neg fun z => by
      obtain ⟨_, _, _, _, _, _, e, _⟩ := vwL_own en z
      rw [h] at e
      cases e]
    exact h
  · unfold vwG at h
    split at h
    · exact h
    · exact en.gh a o h
theorem XOk.as (en : EnvOk K B G H σ Γ) (ys : List XD) (hy : ∀ j, XD.vw j ∈ ys → i ≠ some j) : ∀ {vs : List V} {xs : List XD}, XOk K G σ i vs xs → xs.all (XD.ok Γ i) = true → (∀ j, XD.vw j ∈ xs → XD.vw j ∈ ys) → AsOk K (vwG (vwL σ Γ ys) G H) H vs (xs.map (XD.ad Γ i))
  | _, _, .nil, _, _ => .nil
  | _, _, .im h t, e, f => by
    simp only [List.all_cons, Bool.and_eq_true] at e
    exact .cons (h.mono (vwG_same en).1) (t.as en ys hy e.2 fun j m => f j (List.mem_cons_of_mem _ m))
  | _, _, .sl (v := v) (k := k) e0 h t, e, f => by
    simp only [List.all_cons, Bool.and_eq_true] at e
    obtain ⟨e1, e2⟩ := e
    have e1 : (clAt Γ k).isSome = true := by rw [e0] at e1; exact e1
    obtain ⟨c, hc⟩ := Option.isSome_iff_exists.mp e1
    obtain ⟨l, o, a1, a2, a3, a4, _⟩ := en.ow k c (clAt_eq hc)
    rw [h] at a1
    cases a1
    refine .cons ?_ (t.as en ys hy e2 fun j m => f j (List.mem_cons_of_mem _ m))
    rw [e0]
    show AOk K _ H _ (match clAt Γ k with
      | some c => .ow c
      | none => .im .non)
    rw [hc]
    refine ⟨l, o, rfl, ?_, a3, a4.mono (vwG_same en).1⟩
    have nv : ¬ vwL σ Γ ys l := fun ⟨j, c2, z1, z2, z3⟩ => hy j z1 (e0.trans (congrArg some (en.sep k j c c2 l (clAt_eq hc) (clAt_eq z2) h z3)))
    unfold vwG
    rw [if_neg nv]
    exact a2
  | _, _, .vw (v := v) (j := j) h t, e, f => by
    simp only [List.all_cons, Bool.and_eq_true] at e
    obtain ⟨e1, e2⟩ := e
    have e1 : ((clAt Γ j).isSome && !decide (i = some j)) = true := e1
    simp only [Bool.and_eq_true] at e1
    obtain ⟨c, hc⟩ := Option.isSome_iff_exists.mp e1.1
    obtain ⟨l, o, a1, a2, a3, a4, _⟩ := en.ow j c (clAt_eq hc)
    rw [h] at a1
    cases a1
    refine .cons ?_ (t.as en ys hy e2 fun j m => f j (List.mem_cons_of_mem _ m))
    show AOk K _ H _ (match clAt Γ j with
      | some c => .im c.d
      | none => .im .non)
    rw [hc]
    refine ClOk.rep ?_ (a4.mono (vwG_same en).1)
    unfold vwG
    rw [if_pos ⟨j, c, f j List.mem_cons_self, hc, h⟩]
    exact a3
theorem lbOf_im (v : V) (vs : List V) (d : D) (as : List AD) : lbOf (v :: vs) (.im d :: as) = lbOf vs as := by cases v <;> rfl
theorem XOk.lbS {k : Nat} {l : Addr} {c : Cl} (hk : σ[k]? = some (some (.ref l))) (hc : clAt Γ k = some c) : ∀ {vs : List V} {xs : List XD}, XOk K G σ (some k) vs xs → hasSlX xs = true → lbOf vs (xs.map (XD.ad Γ (some k))) = some l
  | _, _, .nil, h => by cases h
  | _, _, .im (v := v) h1 t, h => by
    have := t.lbS hk hc (by simpa [hasSlX] using h)
    cases v <;> exact this
  | _, _, .sl e h1 t, h => by
    cases e
    rw [hk] at h1
    cases h1
    show lbOf (.ref l :: _) ((match clAt Γ k with
      | some c => .ow c
      | none => .im .non) :: _) = some l
    rw [hc]
    rfl
  | _, _, .vw (v := v) (j := j) h1 t, h => by
    have := t.lbS hk hc (by simpa [hasSlX] using h)
    show lbOf (v :: _) ((match clAt Γ j with
      | some c => .im c.d
      | none => .im .non) :: _) = some l
    cases clAt Γ j <;> (simp only; rw [lbOf_im]; exact this)
theorem XOk.lbN : ∀ {vs : List V} {xs : List XD}, XOk K G σ none vs xs → lbOf vs (xs.map (XD.ad Γ none)) = none
  | _, _, .nil => rfl
  | _, _, .im (v := v) h1 t => by
    have := t.lbN
    cases v <;> exact this
  | _, _, .sl e h1 t => by cases e
  | _, _, .vw (v := v) (j := j) h1 t => by
    have := t.lbN
    show lbOf (v :: _) ((match clAt Γ j with
      | some c => .im c.d
      | none => .im .non) :: _) = none
    cases clAt Γ j <;> (simp only; rw [lbOf_im]; exact this)
theorem vw_tw (en : EnvOk K B G H σ Γ) (s : Same (vwG (vwL σ Γ xs) G H) G') : Tw (xP Γ xs) (xQ Γ xs) (vwL σ Γ xs) G' (cutG (vwL σ Γ xs) G') := by
  refine ⟨fun a o h n => by unfold cutG; rw [if_neg n]; exact h, fun a o h e => ?_⟩
  obtain ⟨j, c, h1, h2, h3⟩ := h
  obtain ⟨l, o2, a1, a2, a3, a4, _⟩ := en.ow j c (clAt_eq h2)
  rw [h3] at a1
  cases a1
  have e2 : vwG (vwL σ Γ xs) G H a = some o2 := by
    unfold vwG
    rw [if_pos ⟨j, c, h1, h2, h3⟩]
    exact a3
  have e3 := s a o2 e2
  rw [e] at e3
  cases e3
  cases c with
  | lst ds =>
    obtain ⟨ys, rfl, _⟩ := a4
    exact .inl ⟨List.any_eq_true.mpr ⟨_, h1, by simp [XD.isP, h2]⟩, .inl ⟨ys, rfl⟩⟩
  | dct ds =>
    obtain ⟨ys, rfl, _⟩ := a4
    exact .inl ⟨List.any_eq_true.mpr ⟨_, h1, by simp [XD.isP, h2]⟩, .inr ⟨ys, rfl⟩⟩
  | ins c fs =>
    obtain ⟨dx, ys, rfl, _⟩ := a4
    exact .inr ⟨List.any_eq_true.mpr ⟨_, h1, by simp [XD.isQ, h2]⟩, _, dx, ys, rfl⟩
theorem vw_post (en : EnvOk K B G H σ Γ) (p : PostR K (vwG (vwL σ Γ xs) G H) H lb G' H' c') (hn : ∀ l, lb = some l → ¬ vwL σ Γ xs l) (hc : ∀ l c, lb = some l → c' = some c → c.nov (xP Γ xs) (xQ Γ xs) = true) : PostR K G H lb (cutG (vwL σ Γ xs) G') H' c' := by
  have t := vw_tw en p.gg
  refine ⟨fun a o h => ?_, fun a o h => ?_, fun a o h => ?_, p.hh, fun l h => ?_⟩
  · refine t.st a o (p.gg a o ((vwG_same en).1 a o h)) fun z => ?_
    obtain ⟨_, _, _, _, _, _, e, _⟩ := vwL_own en z
    rw [h] at e
    cases e
  · unfold cutG at h
    split at h
    · cases h
    · exact p.gh a o h
  · unfold cutG at h
    split at h
    · cases h
    · rename_i n
      rcases p.gn a o h with z | z
      · unfold vwG at z
        rw [if_neg n] at z
        exact .inl z
      · exact .inr z
  · obtain ⟨c, o, e1, e2, e3, e4⟩ := p.bo l h
    refine ⟨c, o, e1, ?_, e3, e4.thaw t (hc l c h e1)⟩
    unfold cutG
    rw [if_neg (hn l h)]
    exact e2
theorem vw_ret (en : EnvOk K B G H σ Γ) (s : Same (vwG (vwL σ Γ xs) G H) G') {v : V} : ∀ {r : RD}, RetR K H lb G' H' v r → r.nov (xP Γ xs) (xQ Γ xs) = true → RetR K H lb (cutG (vwL σ Γ xs) G') H' v r
  | .im d, h, n => h.thaw (vw_tw en s) n
  | .fr c, ⟨l, o, e1, e2, e3, e4, e5⟩, n => by
    refine ⟨l, o, e1, ?_, e3, e4.thaw (vw_tw en s) n, e5⟩
    unfold cutG
    split
    · rfl
    · exact e2
  | .fl _ _, _, n => by cases n
/-- what is wanted behind a call with views -/
def postX (Γ : Gm) (i : Option Nat) (p q : Bool) (Φ : RD → Gm → Prop) : RD → Option Cl → Prop := fun r c' => r.nov p q = true ∧ match i with
  | none => Φ r Γ
  | some k => match c' with
    | some c => c.nov p q = true ∧ Φ r (Γ.set k (.ow c))
    | none => False
def postE (Γ : Gm) (i : Option Nat) (p q : Bool) (R : ExD) : Str → Option (List (Str × D)) → Option Cl → Prop := fun nm pl c' => plNov p q pl = true ∧ match i with
  | none => R nm pl Γ
  | some k => match c' with
    | some c => c.nov p q = true ∧ R nm pl (Γ.set k (.ow c))
    | none => False
theorem call_x {X : Cx} {R : ExD} {n : Nat} {sp : SpD} {vs : List V} {Φ : RD → Gm → Prop} {Q : VK} (en : EnvOk K B G H σ Γ) (r : XOk K G σ i vs xs) (h1 : xs.length = n) (h2 : xs.all (XD.ok Γ i) = true) (h3 : hasSlX xs = i.isSome)
    (h : sp (xs.map (XD.ad Γ i)) (postX Γ i (xP Γ xs) (xQ Γ xs) Φ) (postE Γ i (xP Γ xs) (xQ Γ xs) R)) (k : ∀ v r G' H' Γ', EvP K B σ G H Γ G' H' Γ' → Γ'.as = Γ.as → RetR K H none G' H' v r → Φ r Γ' → Q v H') : liftSp K n sp vs H Q (WE (ExOk K B R) σ) := by
  have hy : ∀ j, XD.vw j ∈ xs → i ≠ some j := fun j m e => by
    have := List.all_eq_true.mp h2 _ m
    simp [XD.ok, e] at this
  have as := r.as en xs hy h2 fun j m => m
  cases i with
  | none =>
    have lb := r.lbN (Γ := Γ)
    refine ⟨_, xs.map (XD.ad Γ none), _, _, r.length.trans h1, (vwG_same en).2, as, h, fun v r c' G' H' p q hr => ?_, fun c pl c' G' H' dd p q hr => ?_⟩
    · rw [lb] at p q
      exact k v r _ H' Γ (en.ext (vw_post en p (fun l z => by cases z) (fun l c z => by cases z)).ext) rfl (vw_ret en p.gg q hr.1) hr.2
    · rw [lb] at p
      exact ⟨c, pl, _, Γ, rfl, (en.ext (vw_post en p (fun l z => by cases z) (fun l c z => by cases z)).ext).env, q.thaw (vw_tw en p.gg) hr.1, hr.2⟩
  | some i =>
    have hs : hasSlX xs = true := h3
    have hc : ∃ c, clAt Γ i = some c := by
      have : ∀ {vs : List V} {xs : List XD}, XOk K G σ (some i) vs xs → xs.all (XD.ok Γ (some i)) = true → hasSlX xs = true → ∃ c, clAt Γ i = some c := by
        intro vs xs r
        induction r with
        | nil => intro _ h; cases h
        | im h t ih => intro a b; exact ih (by simpa [XD.ok] using a) (by simpa [hasSlX] using b)
        | sl e h t ih =>
          intro a b
          simp only [List.all_cons, Bool.and_eq_true] at a
          exact Option.isSome_iff_exists.mp a.1
        | vw h t ih => intro a b; exact ih (by simp only [List.all_cons, Bool.and_eq_true] at a; exact a.2) (by simpa [hasSlX] using b)
      exact this r h2 hs
    obtain ⟨c, hc⟩ := hc
    obtain ⟨l, o, a1, a2, a3, a4, a5⟩ := en.ow i c (clAt_eq hc)
    have lb := r.lbS a1 hc hs
    have nl : ¬ vwL σ Γ xs l := fun ⟨j, c2, z1, z2, z3⟩ => hy j z1 (congrArg some (en.sep i j c c2 l (clAt_eq hc) (clAt_eq z2) a1 z3))
    refine ⟨_, xs.map (XD.ad Γ (some i)), _, _, r.length.trans h1, (vwG_same en).2, as, h, fun v r c' G' H' p q hr => ?_, fun nm pl c' G' H' dd p q hr => ?_⟩
    · rw [lb] at p q
      obtain ⟨c1, o1, e1, _⟩ := p.bo l rfl
      subst e1
      obtain ⟨n1, n2, hr⟩ := hr
      have p2 := vw_post en p (fun l' z => by cases z; exact nl) (fun l' c2 _ z => by cases z; exact n2)
      obtain ⟨c2, o2, e1, b1, b2, b3⟩ := p2.bo l rfl
      cases e1
      exact k v r _ H' _ (en.postB (clAt_eq hc) a1 p2 b1 b2 b3) rfl (by
        have := vw_ret en p.gg q n1
        cases r <;> exact this) hr
    · rw [lb] at p
      obtain ⟨c1, o1, e1, _⟩ := p.bo l rfl
      subst e1
      obtain ⟨n1, n2, hr⟩ := hr
      have p2 := vw_post en p (fun l' z => by cases z; exact nl) (fun l' c2 _ z => by cases z; exact n2)
      obtain ⟨c2, o2, e1, b1, b2, b3⟩ := p2.bo l rfl
      cases e1
      exact ⟨nm, pl, _, _, rfl, (en.postB (clAt_eq hc) a1 p2 b1 b2 b3).env, q.thaw (vw_tw en p.gg) n1, hr⟩
end
end Vl

namespace Vl
open PySem PySem.Spec PyProof.Rows L2 ClX
/-! ### one operand, frozen or a view -/
abbrev TXE := ExD → Gm → (XD → Gm → Prop) → Prop
def lE1 (K : PySem.W.Frag) (tk : Tk) (i : Option Nat) (T : TXE) : TE := fun σ H Q => ∃ (B : Bs) (R : ExD) (Γ : Gm) (G : Hp) (Φ : XD → Gm → Prop), tk B R ∧ EnvOk K B G H σ Γ ∧ T R Γ Φ ∧
  ∀ v G' H' Γ' x, EvP K B σ G H Γ G' H' Γ' → XOk K G' σ i [v] [x] → Φ x Γ' → Q v H'
def PFE (X : Cx) (tk : Tk) (i : Option Nat) (e : Expr) (T : TXE) : Prop := PE X e (lE1 X.K tk i T)
def tIm1 (T : TF) : TXE := fun R Γ Φ => T R Γ fun d Γ' => Φ (.im d) Γ'
def tVw1 (j : Nat) : TXE := fun _ Γ Φ => (clAt Γ j).isSome = true ∧ Φ (.vw j) Γ
def tSl1 (i : Nat) : TXE := fun _ Γ Φ => (clAt Γ i).isSome = true ∧ Φ .sl Γ
def tConsX (T : TXE) (U : TXD) : TXD := fun R Γ Φ => T R Γ fun x Γ1 => U R Γ1 fun xs Γ2 => Φ (x :: xs) Γ2
section
variable {X : Cx} {tk : Tk} {i : Option Nat} {e : Expr} {es : List Expr} {T : TF} {Te : TXE} {U : TXD}
theorem pfe_im (h : PF X tk e T) : PFE X tk i e (tIm1 T) := pe_imp h fun σ H Q ⟨B, R, Γ, G, Φ, t, en, h, k⟩ => ⟨B, R, Γ, G, _, t, en, h, fun v G1 H1 Γ1 d p r h1 => k v G1 H1 Γ1 (.im d) p (.im r .nil) h1⟩
theorem pfe_vw (j : Nat) {x : Str} {px : Pos} (hN : X.N[j]? = some x := by rfl) (hx : Vis X.env.scope x := by first | exact Or.inl rfl | exact Or.inr (Or.inl rfl) | exact Or.inr (Or.inr rfl)) (hd : (x == ("__debug__" : Str)) = false := by decide) (hcd : (x == ("__classdict__" : Str)) = false := by decide) : PFE X tk i (.Name x px) (tVw1 j) :=
  pe_imp (pe_var hN hx hd hcd) fun σ H Q ⟨B, R, Γ, G, Φ, t, en, ⟨h1, h2⟩, k⟩ => by
    obtain ⟨c, hc⟩ := Option.isSome_iff_exists.mp h1
    obtain ⟨l, o, a1, _⟩ := en.ow j c (clAt_eq hc)
    exact ⟨.ref l, a1, k (.ref l) G H Γ (.vw j) (EvP.refl en) (.vw a1 .nil) h2⟩
theorem pfe_sl (j : Nat) {x : Str} {px : Pos} (hN : X.N[j]? = some x := by rfl) (hx : Vis X.env.scope x := by first | exact Or.inl rfl | exact Or.inr (Or.inl rfl) | exact Or.inr (Or.inr rfl)) (hd : (x == ("__debug__" : Str)) = false := by decide) (hcd : (x == ("__classdict__" : Str)) = false := by decide) : PFE X tk (some j) (.Name x px) (tSl1 j) :=
  pe_imp (pe_var hN hx hd hcd) fun σ H Q ⟨B, R, Γ, G, Φ, t, en, ⟨h1, h2⟩, k⟩ => by
    obtain ⟨c, hc⟩ := Option.isSome_iff_exists.mp h1
    obtain ⟨l, o, a1, _⟩ := en.ow j c (clAt_eq hc)
    exact ⟨.ref l, a1, k (.ref l) G H Γ .sl (EvP.refl en) (.sl rfl a1 .nil) h2⟩
theorem XOk.cat {K : PySem.W.Frag} {G : Hp} {σ : L2.St} {v : V} {x : XD} {vs : List V} {xs : List XD} (a : XOk K G σ i [v] [x]) (b : XOk K G σ i vs xs) : XOk K G σ i (v :: vs) (x :: xs) := by
  cases a with
  | im h _ => exact .im h b
  | sl e h _ => exact .sl e h b
  | vw h _ => exact .vw h b
theorem pfx_nil : PFX X tk i [] tNilX := pa_imp pa_nil fun σ H Q ⟨B, R, Γ, G, Φ, t, en, h, k⟩ => k [] G H Γ [] (EvP.refl en) .nil h
theorem pfx_cons (ha : PFE X tk i e Te) (hr : PFX X tk i es U) (hs : starEach (e :: es) X.env = (false, eval e X.env) :: starEach es X.env := by rfl) : PFX X tk i (e :: es) (tConsX Te U) :=
  pa_imp (pa_cons ha hr hs) fun σ H Q ⟨B, R, Γ, G, Φ, t, en, h, k⟩ => ⟨B, R, Γ, G, _, t, en, h, fun v G1 H1 Γ1 x p1 r1 h1 => ⟨B, R, Γ1, G1, _, t, p1.env, h1, fun vs G2 H2 Γ2 xs p2 r2 h2 =>
    k (v :: vs) G2 H2 Γ2 (x :: xs) (p1.trans p2) ((r1.mono p2.gg).cat r2) h2⟩⟩
end
/-! ### calls of defs -/
def tCallX (n : Nat) (i : Option Nat) (sp : SpD) (U : TXD) : TF := fun R Γ Φ => U R Γ fun xs Γ' => xs.length = n ∧ xs.all (XD.ok Γ' i) = true ∧ hasSlX xs = i.isSome ∧
  sp (xs.map (XD.ad Γ' i)) (postX Γ' i (xP Γ' xs) (xQ Γ' xs) fun r Γ2 => Φ r.d Γ2) (postE Γ' i (xP Γ' xs) (xQ Γ' xs) R)
def tCallXO (n : Nat) (i : Option Nat) (sp : SpD) (U : TXD) : TOD := fun R Γ Φ => U R Γ fun xs Γ' => xs.length = n ∧ xs.all (XD.ok Γ' i) = true ∧ hasSlX xs = i.isSome ∧
  sp (xs.map (XD.ad Γ' i)) (postX Γ' i (xP Γ' xs) (xQ Γ' xs) fun r Γ2 => match r with
    | .fr c => Φ c Γ2
    | _ => False) (postE Γ' i (xP Γ' xs) (xQ Γ' xs) R)
section
variable {X : Cx} {tk : Tk} {k j n : Nat} {i : Option Nat} {f : Addr} {ps : List Str} {sp : SpD} {x : Str} {p pos : Pos} {e : Expr} {es : List Expr} {U : TXD}
theorem pf_callX (C : Callee X.prog X.w X.K X.mg X.base k f ps sp) (tw : TkOk X tk) (hr : Room j X.A) (hk : k ≤ j) (hm : X.mg x = some (.ref f)) (ha : PFX X tk i (e :: es) U) (hg : Gl X x := by rfl) (hn : ps.length = n := by rfl)
    (hdb : (x == ("__debug__" : Str)) = false := by decide) (he : starEach (e :: es) X.env = (false, eval e X.env) :: starEach es X.env := by rfl) (hpl : (backTo pos (starEach es X.env)).any (·.1) = false := by rfl) : PF X tk (.Call (.Name x p) (e :: es) [] pos) (tCallX n i sp U) := by
  subst hn
  obtain ⟨fd, F, hb⟩ := C.ex
  exact pe_imp (pe_callG F (hr.mono hk) hg hm C.kp hb ha hdb he hpl) fun σ H Q ⟨B, R, Γ, G, Φ, t, en, h, kk⟩ => ⟨B, R, Γ, G, _, t, en, h, fun vs G1 H1 Γ1 xs p1 r1 ⟨h1, h2, h3, h4⟩ => ⟨ExOk X.K B R, tw B R t,
    call_x (X := X) (Φ := fun r Γ => Φ r.d Γ) p1.env r1 h1 h2 h3 h4 fun v r G' H' Γ' p2 ea q hr => by
      obtain ⟨G2, p3, r3⟩ := ret_fr p1.env p2 ea q
      exact kk v G2 H' Γ' _ (p1.trans p3) r3 hr⟩⟩
theorem po_callX (C : Callee X.prog X.w X.K X.mg X.base k f ps sp) (tw : TkOk X tk) (hr : Room j X.A) (hk : k ≤ j) (hm : X.mg x = some (.ref f)) (ha : PFX X tk i (e :: es) U) (hg : Gl X x := by rfl) (hn : ps.length = n := by rfl)
    (hdb : (x == ("__debug__" : Str)) = false := by decide) (he : starEach (e :: es) X.env = (false, eval e X.env) :: starEach es X.env := by rfl) (hpl : (backTo pos (starEach es X.env)).any (·.1) = false := by rfl) : PFO X tk (.Call (.Name x p) (e :: es) [] pos) (tCallXO n i sp U) := by
  subst hn
  obtain ⟨fd, F, hb⟩ := C.ex
  exact pe_imp (pe_callG F (hr.mono hk) hg hm C.kp hb ha hdb he hpl) fun σ H Q ⟨B, R, Γ, G, Φ, t, en, h, kk⟩ => ⟨B, R, Γ, G, _, t, en, h, fun vs G1 H1 Γ1 xs p1 r1 ⟨h1, h2, h3, h4⟩ => ⟨ExOk X.K B R, tw B R t,
    call_x (X := X) (Φ := fun r Γ => match r with
      | .fr c => Φ c Γ
      | _ => False) p1.env r1 h1 h2 h3 h4 fun v r G' H' Γ' p2 ea q hr => by
      cases r with
      | im d => exact hr.elim
      | fr c =>
        obtain ⟨l, o, a1, a2, a3, a4, a5⟩ := q
        exact kk v G' H' Γ' c (p1.trans p2) ⟨l, o, a1, a2, a3, a4, p1.back a5, by rw [ea]; exact p1.env.wd.out a5⟩ hr
      | fl pre c => exact hr.elim⟩⟩
end
/-! ### operators and built-ins -/
def XD.d (Γ : Gm) : XD → D
  | .im d => d
  | .vw j => match clAt Γ j with
    | some c => c.d
    | none => .non
  | .sl => .non
section
variable {K : PySem.W.Frag} {B : Bs} {σ : L2.St} {G H : Hp} {Γ : Gm}
theorem XOk.reps (en : EnvOk K B G H σ Γ) (ys : List XD) : ∀ {vs : List V} {xs : List XD}, XOk K G σ none vs xs → xs.all (XD.ok Γ none) = true → (∀ j, XD.vw j ∈ xs → XD.vw j ∈ ys) → Reps K (vwG (vwL σ Γ ys) G H) vs (xs.map (XD.d Γ))
  | _, _, .nil, _, _ => .nil
  | _, _, .im h t, e, f => by
    simp only [List.all_cons, Bool.and_eq_true] at e
    exact .cons (h.mono (vwG_same en).1) (t.reps en ys e.2 fun j m => f j (List.mem_cons_of_mem _ m))
  | _, _, .sl e0 h t, e, f => by cases e0
  | _, _, .vw (v := v) (j := j) h t, e, f => by
    simp only [List.all_cons, Bool.and_eq_true] at e
    obtain ⟨e1, e2⟩ := e
    have e1 : ((clAt Γ j).isSome && !decide ((none : Option Nat) = some j)) = true := e1
    simp only [Bool.and_eq_true] at e1
    obtain ⟨c, hc⟩ := Option.isSome_iff_exists.mp e1.1
    obtain ⟨l, o, a1, a2, a3, a4, _⟩ := en.ow j c (clAt_eq hc)
    rw [h] at a1
    cases a1
    refine .cons ?_ (t.reps en ys e2 fun j m => f j (List.mem_cons_of_mem _ m))
    show Rep K _ _ (match clAt Γ j with
      | some c => c.d
      | none => .non)
    rw [hc]
    refine ClOk.rep ?_ (a4.mono (vwG_same en).1)
    unfold vwG
    rw [if_pos ⟨j, c, f j List.mem_cons_self, hc, h⟩]
    exact a3
theorem vw_ext (en : EnvOk K B G H σ Γ) {xs : List XD} {G' H' : Hp} (x : Ext (vwG (vwL σ Γ xs) G H) H G' H') : Ext G H (cutG (vwL σ Γ xs) G') H' := by
  have p : PostR K (vwG (vwL σ Γ xs) G H) H none G' H' none := ⟨x.gg, x.gh, x.gn, fun a o h _ => x.hh a o h, fun l z => by cases z⟩
  exact (vw_post en p (fun l z => by cases z) (fun l c z => by cases z)).ext
end
def tBinX (f : D → D → (D → Prop) → Prop) (Ta Tb : TXE) : TF := fun R Γ Φ => Ta R Γ fun a Γ1 => Tb R Γ1 fun b Γ2 => ([a, b].all (XD.ok Γ2 none)) = true ∧ f (a.d Γ2) (b.d Γ2) fun d => d.nov (xP Γ2 [a, b]) (xQ Γ2 [a, b]) = true ∧ Φ d Γ2
def tBinTX (f : D → D → (D → Prop) → Prop) (Ta Tb : TXE) : TTD := fun R Γ Φ => Ta R Γ fun a Γ1 => Tb R Γ1 fun b Γ2 => ([a, b].all (XD.ok Γ2 none)) = true ∧ f (a.d Γ2) (b.d Γ2) fun d => match d with
  | .bl c => Φ c Γ2
  | _ => False
def tCBX (f : List D → (D → Prop) → Prop) (U : TXD) : TF := fun R Γ Φ => U R Γ fun xs Γ' => xs.all (XD.ok Γ' none) = true ∧ f (xs.map (XD.d Γ')) fun d => d.nov (xP Γ' xs) (xQ Γ' xs) = true ∧ Φ d Γ'
section
variable {X : Cx} {tk : Tk} {a b e : Expr} {es : List Expr} {Ta Tb : TXE} {U : TXD} {pos : Pos}
theorem binx_core {r : R2} {f : D → D → (D → Prop) → Prop} (hf : OpD X.K r f) {σ : L2.St} {H : Hp} {Q : VK} (h : lE X.K tk (tBinX f Ta Tb) σ H Q) : tOp r (lE1 X.K tk none Ta) (lE1 X.K tk none Tb) σ H Q := by
  obtain ⟨B, R, Γ, G, Φ, t, e, h, k⟩ := h
  refine ⟨B, R, Γ, G, _, t, e, h, fun v1 G1 H1 Γ1 x1 p1 r1 h1 => ?_⟩
  refine ⟨B, R, Γ1, G1, _, t, p1.env, h1, fun v2 G2 H2 Γ2 x2 p2 r2 ⟨h2, h3⟩ => ?_⟩
  have en := p2.env
  have rs := ((r1.mono p2.gg).cat r2).reps en [x1, x2] h2 fun j m => m
  cases rs with
  | cons q1 rs => cases rs with
    | cons q2 _ =>
      exact hf _ H2 v1 v2 _ _ _ Q (vwG_same en).2 q1 q2 h3 fun v d G' H' x rd kd => k v _ H' Γ2 d ((p1.trans p2).trans (en.ext (vw_ext en x))) (rd.thaw (vw_tw en x.gg) kd.1) kd.2
theorem pf_opX {op : Operator} {r : R2} {f : D → D → (D → Prop) → Prop} (ho : OpR X (binaryOp op) r) (hf : OpD X.K r f) (ha : PFE X tk none a Ta) (hb : PFE X tk none b Tb) : PF X tk (.BinOp a op b pos) (tBinX f Ta Tb) :=
  pe_imp (pe_op ho ha hb) fun σ H Q h => binx_core hf h
theorem pf_cmpX {op : CmpOp} {r : R2} {f : D → D → (D → Prop) → Prop} (ho : OpR X (compareOp op) r) (hf : OpD X.K r f) (ha : PFE X tk none a Ta) (hb : PFE X tk none b Tb) (hm : behindInMarks op b = false) : PF X tk (.Compare a [op] [b] pos) (tBinX f Ta Tb) :=
  pe_imp (pe_cmpR ho ha hb hm) fun σ H Q h => binx_core hf h
theorem pft_cmpX {op : CmpOp} {r : R2} {f : D → D → (D → Prop) → Prop} (ho : OpR X (compareOp op) r) (hf : OpD X.K r f) (ha : PFE X tk none a Ta) (hb : PFE X tk none b Tb) (hm : behindInMarks op b = false) : PFT X tk (.Compare a [op] [b] pos) (tBinTX f Ta Tb) :=
  pt_imp (pt_cmpR ho ha hb hm) fun σ H Q ⟨B, R, Γ, G, Φ, t, e, h, k⟩ => by
    refine ⟨B, R, Γ, G, _, t, e, h, fun v1 G1 H1 Γ1 x1 p1 r1 h1 => ?_⟩
    refine ⟨B, R, Γ1, G1, _, t, p1.env, h1, fun v2 G2 H2 Γ2 x2 p2 r2 ⟨h2, h3⟩ => ?_⟩
    have en := p2.env
    have rs := ((r1.mono p2.gg).cat r2).reps en [x1, x2] h2 fun j m => m
    cases rs with
    | cons q1 rs => cases rs with
      | cons q2 _ =>
        refine hf _ H2 v1 v2 _ _ _ _ (vwG_same en).2 q1 q2 h3 fun v d G' H' x rd kd => ?_
        cases rd with
        | bl c => exact ⟨c, rfl, k c _ H' Γ2 ((p1.trans p2).trans (en.ext (vw_ext en x))) kd⟩
        | _ => exact kd.elim
theorem cbx_core {r : List V → Hp → VK → Prop} {f : List D → (D → Prop) → Prop} (hf : CallD X.K r f) {σ : L2.St} {H : Hp} {Q : VK} (h : lE X.K tk (tCBX f U) σ H Q) : tCB r (lX X.K tk none U) σ H Q := by
  obtain ⟨B, R, Γ, G, Φ, t, e, h, k⟩ := h
  refine ⟨B, R, Γ, G, _, t, e, h, fun vs G1 H1 Γ1 xs p1 r1 ⟨h2, h3⟩ => ?_⟩
  have en := p1.env
  exact hf _ H1 vs _ _ Q (vwG_same en).2 (r1.reps en xs h2 fun j m => m) h3 fun v d G' H' x rd kd => k v _ H' Γ1 d (p1.trans (en.ext (vw_ext en x))) (rd.thaw (vw_tw en x.gg) kd.1) kd.2
end
section
variable {X : Cx} {tk : Tk} {a b e : Expr} {Ta Tb : TXE} {U : TXD} {pos p : Pos} {k : Nat}
theorem pf_eqX (hr : Room k X.A) (ha : PFE X tk none a Ta) (hb : PFE X tk none b Tb) : PF X tk (.Compare a [.Eq] [b] pos) (tBinX (dEq false) Ta Tb) := pf_cmpX (op_eqP (hu65 hr)) opd_eqP ha hb (nomark _)
theorem pf_neX (hr : Room k X.A) (ha : PFE X tk none a Ta) (hb : PFE X tk none b Tb) : PF X tk (.Compare a [.NotEq] [b] pos) (tBinX (dEq true) Ta Tb) := pf_cmpX (op_neP (hu65 hr)) opd_eqP ha hb (nomark _)
theorem pft_eqX (hr : Room k X.A) (ha : PFE X tk none a Ta) (hb : PFE X tk none b Tb) : PFT X tk (.Compare a [.Eq] [b] pos) (tBinTX (dEq false) Ta Tb) := pft_cmpX (op_eqP (hu65 hr)) opd_eqP ha hb (nomark _)
theorem pft_neX (hr : Room k X.A) (ha : PFE X tk none a Ta) (hb : PFE X tk none b Tb) : PFT X tk (.Compare a [.NotEq] [b] pos) (tBinTX (dEq true) Ta Tb) := pft_cmpX (op_neP (hu65 hr)) opd_eqP ha hb (nomark _)
theorem pf_inX (hr : Room k X.A) (ha : PFE X tk none a Ta) (hb : PFE X tk none b Tb) (hm : behindInMarks .In b = false := by rfl) : PF X tk (.Compare a [.In] [b] pos) (tBinX (dIn false) Ta Tb) := pf_cmpX (op_in1 (hu65 hr)) opd_in ha hb hm
theorem pf_notInX (hr : Room k X.A) (ha : PFE X tk none a Ta) (hb : PFE X tk none b Tb) (hm : behindInMarks .NotIn b = false := by rfl) : PF X tk (.Compare a [.NotIn] [b] pos) (tBinX (dIn true) Ta Tb) := pf_cmpX (op_notIn1 (hu65 hr)) opd_notIn ha hb hm
theorem pft_inX (hr : Room k X.A) (ha : PFE X tk none a Ta) (hb : PFE X tk none b Tb) (hm : behindInMarks .In b = false := by rfl) : PFT X tk (.Compare a [.In] [b] pos) (tBinTX (dIn false) Ta Tb) := pft_cmpX (op_in1 (hu65 hr)) opd_in ha hb hm
theorem pft_notInX (hr : Room k X.A) (ha : PFE X tk none a Ta) (hb : PFE X tk none b Tb) (hm : behindInMarks .NotIn b = false := by rfl) : PFT X tk (.Compare a [.NotIn] [b] pos) (tBinTX (dIn true) Ta Tb) := pft_cmpX (op_notIn1 (hu65 hr)) opd_notIn ha hb hm
theorem pf_addX (ha : PFE X tk none a Ta) (hb : PFE X tk none b Tb) : PF X tk (.BinOp a .Add b pos) (tBinX dAdd Ta Tb) := pf_opX op_addAll opd_add ha hb
end
end Vl

namespace Vl
open PySem PySem.Spec PyProof.Rows L2 ClX
/-! ### iter(o) of an own class: its __iter__ is iter(self.F) -/
def ItT (t it : Addr) : HO := .ext fun h => h.IsTupleIter it t 0
theorem itT_ok {P : Program} {w : World} {H : Hp} {h : Heap} {t it : Addr} (e : h.IsTupleIter it t 0) : ObjOk P w H h it (ItT t it) := by
  obtain ⟨o, e1, e2, e3⟩ := e
  exact ⟨⟨o, e1, e2, e3⟩, ⟨o, e1⟩, fun h1 h2 ⟨o', a, b, c⟩ k => ⟨o', k _ a, b, c⟩⟩
section
variable {prog : Program} {w : World} {A : Around} {E : Value → Shared → Prop} {s : Shared} {t : Addr} {items : Array Value}
theorem call_iterTup {Q : Value → Shared → Prop} (ht : s.heap.IsTuple t items) (h : Q (.ref s.heap.objs.size) { s with heap := s.heap.push { cls := .type "tuple_iterator", data := .fields #[.ref t, .int 0 0] } }) : wpAny (model prog w) A (call (.builtin "iter") [.ref t]) Q E s := by
  refine Calls.call_function_entry (by decide +kernel) (by decide +kernel) PySem.W.kdk_entry_iter (PySem.W.kdk_args_iter _) ?_
  unfold Builtin.«iter»
  refine wpAny_bind (m := someArgs "iter" 1 2 _) (wpAny_of_eq (a := [Value.ref t]) (by first | rfl | kernel_rfl!) ?_)
  show wpAny _ _ (pyIter (.ref t) >>= _) _ _ _
  refine wpAny_bind (wpAny_pyIter_tuple ht ?_)
  exact wpAny_pure ⟨_, rfl, h⟩
end
def rIterT (K : PySem.W.Frag) (n : Nat) : List V → Hp → VK → Prop := fun xs H Q => ∃ (t : Addr) (zs : List V), xs = [.ref t] ∧ SqT K H t zs ∧ ∀ it, H it = none → n ≤ it → Q (.ref it) (upd H it (ItT t it))
theorem call_iterT {X : Cx} : CallR X (.builtin "iter") (rIterT X.K X.base.objs.size) := by
  intro pins s σ H xs us Q I r h
  obtain ⟨t, zs, rfl, hq, q⟩ := h
  obtain ⟨u, rfl, ru⟩ := vals1 r
  cases ru
  obtain ⟨its, rv, pl, hz⟩ := I.tuple hq
  refine call_iterTup (show s.heap.IsTuple t its.toArray from pl) ?_
  refine ⟨.ref s.heap.objs.size, _, I.laid (t' := s.toks) (fun b u e => Heap.get?_push_of_some _ e) (Nat.le_refl _) ?_, rfl, q _ (I.hok.fresh (Nat.le_refl _)) (Nat.le_trans I.ok.bsz I.sz)⟩
  exact itT_ok ⟨_, Heap.get?_push_size _ rfl, rfl, rfl⟩
/-- a heap with dead places behind it -/
def padH (h : Heap) (n : Nat) : Heap := { h with objs := h.objs ++ Array.replicate (n - h.objs.size) { cls := .none, data := .freed } }
theorem padH_get (h : Heap) (n : Nat) (a : Addr) : (padH h n).get? a = h.get? a := by
  unfold padH Heap.get?
  by_cases q : a < h.objs.size
  · simp only [Array.getElem?_append_left q]
  · have q2 : h.objs.size ≤ a := Nat.le_of_not_lt q
    have e1 : h.objs[a]? = none := Array.getElem?_eq_none q2
    rw [Array.getElem?_append_right q2, e1, Array.getElem?_replicate]
    by_cases z : a - h.objs.size < n - h.objs.size
    · rw [if_pos z]
    · rw [if_neg z]
theorem padH_size {h : Heap} {n : Nat} (q : h.objs.size ≤ n) : (padH h n).objs.size = n := by
  unfold padH
  simp
  omega
theorem padH_mod {K : PySem.W.Frag} {mg : Str → Option Value} {h : Heap} {n : Nat} (m : Mod K mg h) : Mod K mg (padH h n) := by
  have k : ∀ b o, h.get? b = some o → (padH h n).get? b = some o := fun b o e => by rw [padH_get]; exact e
  obtain ⟨mb, b1, b2⟩ := m.blt
  exact ⟨m.kin.keeps k, m.glob.keeps k, ⟨mb, b1.keeps k, b2⟩, m.nolimit.keeps k⟩
/-- the promise of __iter__ -/
def spIter (K : PySem.W.Frag) (n : Nat) (F : Str) : Sp := fun vs H Q _ => ∃ a C dx fs t zs, vs = [.ref a] ∧ H a = some (.ins C dx fs) ∧ fs.lookup F = some (.ref t) ∧ Cls K C ∧ NoAttr K C F ∧ SqT K H t zs ∧ ∀ it, H it = none → n ≤ it → Q (.ref it) (upd H it (ItT t it))
section
variable {X : Cx} {k : Nat} {tg o : Expr} {to : TE}
theorem pi_ownIter (hr : Room k X.A) (ho : PE X o to) : PI X tg o (fun σ H R => to σ H fun x H1 => ∃ a C dx fs t zs F, x = .ref a ∧ H1 a = some (.ins C dx fs) ∧ fs.lookup F = some (.ref t) ∧ Cls X.K C ∧ NoAttr X.K C F ∧ SqT X.K H1 t zs ∧ (∀ base, MethAt X.prog X.w X.K X.mg base k C "__iter__" (spIter X.K base.objs.size F)) ∧ R (Itt X.K t) H1) := by
  refine ⟨fun pins s σ H R I h => ?_⟩
  refine thn (ho.run pins s σ H _ I h) fun u s1 ⟨x, H1, I1, r1, a, C, dx, fs, t, zs, F, ex, ea, lf, hC, nA, hq, hM, q⟩ => ?_
  obtain ⟨k1, f, fd, ps, hk, hm, FO, hb⟩ := hM (padH X.base s1.heap.objs.size)
  subst ex
  obtain rfl : u = Value.ref a := r1
  obtain ⟨mA, J, _⟩ := ins_get I1.hok ea
  obtain ⟨od, J, _⟩ := J.look
  obtain ⟨m, hF⟩ := I1.fr
  refine PySem.W.owit_iter hF I1.ok.mod.kin J hm.at_ hm.fn ?_
  have hsz : X.base.objs.size ≤ s1.heap.objs.size := Nat.le_trans I1.ok.bsz I1.sz
  have esz : (padH X.base s1.heap.objs.size).objs.size = s1.heap.objs.size := padH_size hsz
  have hsp : spIter X.K (padH X.base s1.heap.objs.size).objs.size F [.ref a] H1 (fun v H' => ∃ it, v = .ref it ∧ H1 it = none ∧ s1.heap.objs.size ≤ it ∧ H' = upd H1 it (ItT t it)) (fun _ _ _ => False) :=
    ⟨a, C, dx, fs, t, zs, rfl, ea, lf, hC, nA, hq, fun it hit hn => ⟨it, rfl, hit, by rw [esz] at hn; exact hn, rfl⟩⟩
  have e0 := I1.env0
  have e1 : Env0 X.prog X.w X.K X.mg (padH X.base s1.heap.objs.size) X.A X.stack s1 H1 :=
    ⟨e0.frames, padH_mod e0.mod, fun b o e => e0.bs b o (by rw [padH_get] at e; exact e), by rw [esz]; exact Nat.le_refl _, by
      have key : ∀ l : List Env, s1.heap.FunFrames X.base l → s1.heap.FunFrames (padH X.base s1.heap.objs.size) l := fun l => by
        induction l with
        | nil => exact fun _ => trivial
        | cons e l ih => exact fun ⟨h1, ⟨L, ob, h2, h3, h4⟩, h5⟩ => ⟨h1, ⟨L, ob, h2, by rw [padH_get]; exact h3, h4⟩, ih h5⟩
      exact key _ e0.funs, e0.frf, e0.hok, e0.bare⟩
  have hl := FO.len _ _ _ _ hsp
  have r2 : Vals [V.ref a] [Value.ref a] := .cons rfl .nil
  refine wpAny_call (codeAny_mono (FO.run X.A X.stack s1 H1 ⟨[.ref a], []⟩ [.ref a] [.ref a] _ _ (hr.mono hk) e1 (by
    have := hb s1 [.ref a] I1.kIn (by simpa using hl)
    simpa using this) r2 hsp) fun r s' hq' => ?_)
  cases r with
  | error e =>
    obtain ⟨_, _, _, _, _, _, _, _, _, _, _, _, z⟩ := hq'
    exact z.elim
  | ok fl =>
    cases fl with
    | next => exact False.elim hq'
    | brk => exact False.elim hq'
    | cont => exact False.elim hq'
    | ret u =>
      obtain ⟨v, H', I', rv, it, ev, hn, young, eH⟩ := I1.after hq'
      subst ev
      obtain rfl : u = Value.ref it := rv
      subst eH
      have hi : (upd H1 it (ItT t it)) it = some (ItT t it) := upd_same
      have st : s'.heap.IsTupleIter it t 0 := (I'.hok it _ hi).1
      unfold PySem.W.OwitIt
      refine wpAny_specialOf (name := Str.ofString "__next__") st.typeIs PySem.F.slot_tuple_iterator_next.lookup ?_
      have I2 : Inv X pins σ H1 s' := by
        have := ItX.inv_drop I' (a := it) hi
        rw [ItX.dropH_upd hn] at this
        exact this
      refine ⟨it, [it], _, _, H1, rfl, I2, turn_tuple t it, st, fun b hb => ?_, q⟩
      have e : b = it := by simpa using hb
      subst e
      have fp := ItX.inv_fp I' hi (Nat.le_trans I1.sz young)
      rw [ItX.dropH_upd hn] at fp
      exact fp
end
end Vl

namespace Vl
open PySem PySem.Spec PyProof.Rows L2 ClX
/-! ### def __iter__(self): return iter(self.F) -/
section
variable {P : Program} {w : World} {K : PySem.W.Frag} {mg : Str → Option Value}
theorem methIter {C f : Addr} {qual F : Str} {st : Stmt} {k j : Nat} (D : DefAt K "__iter__" qual st f) (S : FnScope ["self"] ["self"] (defScope st)) (hm : Meth K C "__iter__" f) (hj : k + 1 ≤ j)
    (hb : ∀ (kV doc pm : Value) (an : Option Addr) (cdv ct : Value) (us : List Value), us.length = ["self"].length → bindArgs (PySem.W.fnOf "__iter__" qual (defArgs st) (defBody st) (defScope st) .none kV doc pm an cdv ct) ⟨us, []⟩ = pure ((["self"] : List Str).zip us))
    (hbody : ∀ (base : Heap) (f : Addr) (cdv : Value) (A : Around) (outer : List Env) (s : Shared) (H : Hp) (E : XK), PSs (cxOf (L2.CX P w) P w K mg base ["self"] qual (defScope st) f cdv A outer s H E) (defBody st) (tRet (tCB (rIterT K base.objs.size) (tCons (tFld K (tVar 0) F) tNil)))) :
    ∀ base : Heap, MethAt P w K mg base j C "__iter__" (spIter K base.objs.size F) := by
  intro base
  obtain ⟨fd, D⟩ := D
  obtain ⟨oc, od, dV, kV, doc, pm, an, cdv, ct, osl, rfl, lk, hcd, _, _⟩ := id D.ex
  refine ⟨k + 1, f, _, ["self"], hj, hm, fn_of lk hcd S (fun vs H Q E ⟨a, C, dx, fs, t, zs, e, _⟩ => by rw [e]; rfl) fun A outer s H vs Q E hr hsp => ⟨_, hbody base f cdv A outer s H E, ?_⟩, D.bindsN hb⟩
  obtain ⟨a, C, dx, fs, t, zs, e, ea, lf, hC, nA, hq, q⟩ := hsp
  subst e
  exact ⟨.ref a, rfl, a, C, dx, fs, .ref t, rfl, ea, hC, nA, lf, t, zs, rfl, hq, fun it hit hn => q it hit hn⟩
end
def ItOf (P : Program) (w : World) (K : PySem.W.Frag) (mg : Str → Option Value) (j : Nat) (cs : List Str) (F : Str) : Prop := ∀ c ∈ cs, Cls K (He.ga K c) ∧ NoAttr K (He.ga K c) F ∧ ∀ base : Heap, MethAt P w K mg base j (He.ga K c) "__iter__" (spIter K base.objs.size F)
def tItsO (cs : List Str) (F : Str) (T : TF) : TAD := fun R Γ Φ => T R Γ fun d Γ' => match d with
  | .obj c fs => c ∈ cs ∧ match fs.lookup F with
    | some (.tup ds) => Φ ds Γ'
    | _ => False
  | _ => False
section
variable {X : Cx} {tk : Tk} {tg o : Expr} {T : TF} {j : Nat}
theorem pfi_own {cs : List Str} {F : Str} (I : ItOf X.prog X.w X.K X.mg j cs F) (hr : Room j X.A) (ho : PF X tk o T) : PFI X tk tg o (tItsO cs F T) :=
  pi_imp (pi_ownIter hr ho) fun σ H Q ⟨B, R, Γ, G, Φ, t, en, h, k⟩ => ⟨B, R, Γ, G, _, t, en, h, fun v G1 H1 Γ1 d p1 r1 h1 => by
    cases r1 with
    | obj hp rf =>
      obtain ⟨hc, h2⟩ := h1
      obtain ⟨c1, c2, c3⟩ := I _ hc
      split at h2
      · rename_i ds q
        obtain ⟨v, lf, rv⟩ := rf.look q
        cases rv with
        | tup ht l rr => exact ⟨_, _, _, _, _, _, _, rfl, p1.env.gh _ _ hp, lf, c1, c2, same_t p1.env.gh ht, c3, k _ G1 H1 Γ1 ds p1 (it_tup ht rr) h2⟩
      · exact h2.elim
    | _ => exact h1.elim⟩
end
/-! ### operators of own instances -/
section
variable {X : Cx} {k : Nat} {a b : Expr} {ta tb : TE} {pos : Pos}
theorem pe_binG {op : Operator} (hr : Room k X.A) (ha : PE X a ta) (hb : PE X b tb) : PE X (.BinOp a op b pos) (fun σ H Q => ta σ H fun x H1 => tb σ H1 fun y H2 => ∃ p q C dx fs dy gs sp, x = .ref p ∧ y = .ref q ∧ H2 p = some (.ins C dx fs) ∧ H2 q = some (.ins C dy gs) ∧ PySem.W.selfFirst X.K C = true ∧
    MethAt X.prog X.w X.K X.mg X.base k C (PySem.dunder op.info.2) sp ∧ ∃ W : WX, Takes X W ∧ sp [.ref p, .ref q] H2 Q (WE W σ)) := by
  refine ⟨fun pins s σ H Q I h => ?_⟩
  refine wpAny_BinOp (binT ha hb I h fun v u s2 x y H2 I2 rx ry z => ?_)
  obtain ⟨p, q, C, dx, fs, dy, gs, sp, ex, ey, hp, hq, sf, ⟨k1, f, fd, ps, hk, hm, F, hB⟩, W, tw, z⟩ := z
  subst ex ey
  obtain rfl : v = Value.ref p := rx
  obtain rfl : u = Value.ref q := ry
  obtain ⟨mA, J, _⟩ := ins_get I2.hok hp
  obtain ⟨od, J, _⟩ := J.look
  obtain ⟨mB, J2, _⟩ := ins_get I2.hok hq
  obtain ⟨od2, J2, _⟩ := J2.look
  obtain ⟨m, hF⟩ := I2.fr
  refine PySem.W.binop_K hF I2.ok.mod.kin J J2.type sf hm.at_ hm.fn ?_
  exact wpAny_mono (run_fnS (E := WE W) (us := [.ref p, .ref q]) (vs := [.ref p, .ref q]) F (hr.mono hk) hB (passAt tw σ) I2 (.cons rfl (.cons rfl .nil)) z) (fun r s' ⟨v, H', I', rv, q⟩ => SlX.cmpback rv ⟨v, H', I', rv, q⟩) fun _ _ e => e
/-- x in o, x not in o, by an own __contains__ that answers a truth value -/
theorem pe_inG {neg : Bool} (hr : Room k X.A) (ha : PE X a ta) (hb : PE X b tb) (hmk : behindInMarks (if neg then .NotIn else .In) b = false) : PE X (.Compare a [if neg then .NotIn else .In] [b] pos) (fun σ H Q => ta σ H fun x H1 => tb σ H1 fun y H2 => ∃ q C dx fs sp, y = .ref q ∧ H2 q = some (.ins C dx fs) ∧
    MethAt X.prog X.w X.K X.mg X.base k C "__contains__" sp ∧ ∃ W : WX, Takes X W ∧ sp [.ref q, x] H2 (fun r H3 => ∃ c, r = .bl c ∧ Q (.bl (if neg then !c else c)) H3) (WE W σ)) := by
  refine ⟨fun pins s σ H Q I h => ?_⟩
  refine wpAny_Compare1 (binT ha hb I h fun v u s2 x y H2 I2 rx ry z => ?_) hmk
  obtain ⟨q, C, dx, fs, sp, ey, hq, ⟨k1, f, fd, ps, hk, hm, F, hB⟩, W, tw, z⟩ := z
  subst ey
  obtain rfl : u = Value.ref q := ry
  obtain ⟨mA, J, _⟩ := ins_get I2.hok hq
  obtain ⟨od, J, _⟩ := J.look
  obtain ⟨m, hF⟩ := I2.fr
  have run := run_fnS (E := WE W) (us := [.ref q, v]) (vs := [.ref q, x]) F (hr.mono hk) hB (passAt tw σ) I2 (.cons rfl (.cons rx .nil)) z
  cases neg with
  | false =>
    refine PySem.W.in_K hF I2.ok.mod.kin J hm.at_ hm.fn (wpAny_mono run (fun r s' ⟨v, H', I', rv, c, e, q⟩ => ?_) fun _ _ e => e)
    subst e
    cases rv
    exact wpAny_truthy_bool ⟨.bl c, H', I', rfl, q⟩
  | true =>
    refine PySem.W.notIn_K hF I2.ok.mod.kin J hm.at_ hm.fn (wpAny_mono run (fun r s' ⟨v, H', I', rv, c, e, q⟩ => ?_) fun _ _ e => e)
    subst e
    cases rv
    exact wpAny_truthy_bool ⟨.bl (!c), H', I', rfl, q⟩
end
def tBinM (sp : Str → Option SpD) (Ta Tb : TF) : TF := fun R Γ Φ => Ta R Γ fun a Γ1 => Tb R Γ1 fun b Γ2 => match a, b with
  | .obj c fs, .obj c' gs => c = c' ∧ match sp c with
    | some s => s [.im (.obj c fs), .im (.obj c' gs)] (fun r _ => Φ r.d Γ2) (fun nm pl _ => R nm pl Γ2)
    | none => False
  | _, _ => False
def tInM (neg : Bool) (sp : Str → Option SpD) (Ta Tb : TF) : TF := fun R Γ Φ => Ta R Γ fun a Γ1 => Tb R Γ1 fun b Γ2 => match b with
  | .obj c fs => (match sp c with
    | some s => s [.im (.obj c fs), .im a] (fun r _ => match r with
      | .im (.bl t) => Φ (.bl (if neg then !t else t)) Γ2
      | _ => False) (fun nm pl _ => R nm pl Γ2)
    | none => False)
  | _ => False
section
variable {X : Cx} {tk : Tk} {j : Nat} {a b : Expr} {Ta Tb : TF} {pos : Pos}
theorem pf_binM {op : Operator} {m : Str} {sps : Str → Option SpD} (M : ∀ c s, sps c = some s → MethV X.prog X.w X.K X.mg X.base j c m 2 s ∧ PySem.W.selfFirst X.K (He.ga X.K c) = true) (tw : TkOk X tk) (hr : Room j X.A) (ha : PF X tk a Ta) (hb : PF X tk b Tb) (hm : PySem.dunder op.info.2 = m := by rfl) : PF X tk (.BinOp a op b pos) (tBinM sps Ta Tb) := by
  subst hm
  refine pe_imp (pe_binG hr ha hb) fun σ H Q ⟨B, R, Γ, G, Φ, t, en, h, k⟩ => ⟨B, R, Γ, G, _, t, en, h, fun v1 G1 H1 Γ1 d1 p1 r1 h1 => ⟨B, R, Γ1, G1, _, t, p1.env, h1, fun v2 G2 H2 Γ2 d2 p2 r2 h2 => ?_⟩⟩
  cases r1 with
  | obj hp rf => cases r2 with
    | obj hq rg =>
      obtain ⟨hc, h3⟩ := h2
      subst hc
      split at h3
      · rename_i s hs
        obtain ⟨⟨c1, c2⟩, c3⟩ := M _ s hs
        refine ⟨_, _, _, _, _, _, _, _, rfl, rfl, p2.env.gh _ _ (p2.gg _ _ hp), p2.env.gh _ _ hq, c3, c2, ExOk X.K B R, tw B R t, ?_⟩
        exact call_im (tk := tk) (X := X) (ds := [.obj _ _, .obj _ _]) (Φ := fun r Γ => Φ r.d Γ) p2.env (.cons ((Rep.obj hp rf).mono p2.gg) (.cons (Rep.obj hq rg) .nil)) ⟨rfl, h3⟩ fun v r G' H' p3 q hr => by
          obtain ⟨G3, p4, r4⟩ := ret_fr p2.env p3 rfl q
          exact k v G3 H' Γ2 _ ((p1.trans p2).trans p4) r4 hr
      · exact h3.elim
    | _ => exact h2.elim
  | _ => cases r2 <;> exact h2.elim
theorem pf_inM {neg : Bool} {sps : Str → Option SpD} (M : ∀ c s, sps c = some s → MethV X.prog X.w X.K X.mg X.base j c "__contains__" 2 s) (tw : TkOk X tk) (hr : Room j X.A) (ha : PF X tk a Ta) (hb : PF X tk b Tb) (hm : behindInMarks (if neg then .NotIn else .In) b = false := by rfl) : PF X tk (.Compare a [if neg then .NotIn else .In] [b] pos) (tInM neg sps Ta Tb) := by
  refine pe_imp (pe_inG hr ha hb hm) fun σ H Q ⟨B, R, Γ, G, Φ, t, en, h, k⟩ => ⟨B, R, Γ, G, _, t, en, h, fun v1 G1 H1 Γ1 d1 p1 r1 h1 => ⟨B, R, Γ1, G1, _, t, p1.env, h1, fun v2 G2 H2 Γ2 d2 p2 r2 h2 => ?_⟩⟩
  cases r2 with
  | obj hq rg =>
    dsimp only at h2
    split at h2
    · rename_i s hs
      obtain ⟨c1, c2⟩ := M _ s hs
      refine ⟨_, _, _, _, _, rfl, p2.env.gh _ _ hq, c2, ExOk X.K B R, tw B R t, ?_⟩
      exact call_im (tk := tk) (X := X) (ds := [.obj _ _, d1]) (Φ := fun r Γ => match r with
        | .im (.bl t) => Φ (.bl (if neg then !t else t)) Γ
        | _ => False) p2.env (.cons (Rep.obj hq rg) (.cons (r1.mono p2.gg) .nil)) ⟨rfl, h2⟩ fun v r G' H' p3 q hr => by
          split at hr
          · rename_i c
            cases q
            exact ⟨c, rfl, k _ G' H' Γ2 _ ((p1.trans p2).trans p3) (.bl _) hr⟩
          · exact hr.elim
    · exact h2.elim
  | _ => exact h2.elim
/-- a property -/
theorem pe_propG {k : Nat} {e : Expr} {f : Str} {te : TE} (hr : Room k X.A) (he : PE X e te) (hab : attributeBase e f X.env (eval e X.env) = eval e X.env) : PE X (.Attribute e f pos) (fun σ H Q => te σ H fun x H1 => ∃ a C dx fs p g k1 fd ps sp, x = .ref a ∧ H1 a = some (.ins C dx fs) ∧ Cls X.K C ∧ PropOf X.K C f p g ∧ k1 + 1 ≤ k ∧
    FnOk X.prog X.w X.K X.mg X.base (L2.CX X.prog X.w) k1 g fd ps sp ∧ L2.Binds X.K fd ps [] ∧ sp [.ref a] H1 Q (fun _ _ _ => False)) := by
  refine ⟨fun pins s σ H Q I h => ?_⟩
  refine attr_of hab (thn (he.run pins s σ H _ I h) fun u s1 ⟨x, H1, I1, rx, a, C, dx, fs, p, g, k1, fd, ps, sp, ex, ea, c, hp, hk, F, hb, q⟩ => ?_)
  subst ex
  obtain rfl : u = Value.ref a := rx
  exact getprop_ok (dvs := []) (ds := []) I1 ea c hp F (hr.mono hk) hb .nil (fun _ _ _ _ _ _ _ ⟨_, _, _, _, _, _, _, _, _, _, _, _, z⟩ => z.elim) q
def PropV (P : Program) (w : World) (K : PySem.W.Frag) (mg : Str → Option Value) (base : Heap) (j : Nat) (c m : Str) (sp : SpD) : Prop := Cls K (He.ga K c) ∧ ∃ p g k fd ps, PropOf K (He.ga K c) m p g ∧ k + 1 ≤ j ∧ FnOk P w K mg base (L2.CX P w) k g fd ps (liftSp K 1 sp) ∧ L2.Binds K fd ps []
def tPropD (sp : Str → Option SpD) (T : TF) : TF := fun R Γ Φ => T R Γ fun d Γ1 => match d with
  | .obj c fs => (match sp c with
    | some s => s [.im (.obj c fs)] (fun r _ => Φ r.d Γ1) (fun _ _ _ => False)
    | none => False)
  | _ => False
theorem pf_prop {e : Expr} {m : Str} {T : TF} {sps : Str → Option SpD} (M : ∀ c s, sps c = some s → PropV X.prog X.w X.K X.mg X.base j c m s) (hr : Room j X.A) (he : PF X tk e T) (hab : attributeBase e m X.env (eval e X.env) = eval e X.env := by rfl) : PF X tk (.Attribute e m pos) (tPropD sps T) :=
  pe_imp (pe_propG hr he hab) fun σ H Q ⟨B, R, Γ, G, Φ, t, en, h, k⟩ => ⟨B, R, Γ, G, _, t, en, h, fun v G1 H1 Γ1 d p1 r1 h1 => by
    cases r1 with
    | obj hp rf =>
      dsimp only at h1
      split at h1
      · rename_i s hs
        obtain ⟨c1, pp, g, k1, fd, ps, c2, c3, c4, c5⟩ := M _ s hs
        refine ⟨_, _, _, _, pp, g, k1, fd, ps, _, rfl, p1.env.gh _ _ hp, c1, c2, c3, c4, c5, ?_⟩
        have z := call_im (tk := tk) (X := X) (B := B) (R := nvr) (σ := σ) (n := 1) (ds := [.obj _ _]) (Φ := fun r Γ => Φ r.d Γ) (Q := Q) p1.env (.cons (.obj hp rf) .nil) ⟨rfl, h1⟩ fun v r G' H' p3 q hr => by
          obtain ⟨G3, p4, r4⟩ := ret_fr p1.env p3 rfl q
          exact k v G3 H' Γ1 _ (p1.trans p4) r4 hr
        obtain ⟨G0, as, Φ', R', z1, z2, z3, z4, z5, z6⟩ := z
        exact ⟨G0, as, Φ', R', z1, z2, z3, z4, z5, fun c pl c' G' H' dd a1 a2 a3 => by
          obtain ⟨_, _, _, _, _, _, _, z⟩ := z6 c pl c' G' H' dd a1 a2 a3
          exact z.elim⟩
      · exact h1.elim
    | _ => exact h1.elim⟩
end
end Vl

namespace Vl
open PySem PySem.Spec PyProof.Rows L2 ClX
/-! ### the world: cells behind pointers -/
section
variable {K : PySem.W.Frag} {B : Bs} {σ : L2.St} {G H : Hp} {Γ : Gm}
/-- a new cell of the world -/
theorem EnvOk.push (e : EnvOk K B G H σ Γ) {l : Addr} {o : HO} {c : Cl} (g : G l = none) (h : H l = some o) (hc : ClOk K G o c) (bh : B.H l = none) (nm : l ∉ Γ.as) (n : ∀ (i : Nat) c, Γ.sl[i]? = some (.ow c) → σ[i]? ≠ some (some (.ref l))) : EnvOk K B G H σ ⟨Γ.sl, Γ.as ++ [l], Γ.ws ++ [c]⟩ := by
  refine ⟨e.len, e.gh, e.g0, e.gn, e.fr, e.im, e.ow, e.sep, e.bo, ⟨?_, ?_, ?_, fun m a c2 h1 h2 => ?_, fun i m q => ?_, fun i c2 a q1 q2 => ?_⟩⟩
  · simp [e.wd.wl]
  · refine List.nodup_append.mpr ⟨e.wd.nd, by simp, fun a ha b hb => ?_⟩
    simp at hb
    subst hb
    exact fun z => nm (z ▸ ha)
  · obtain ⟨l2, q⟩ := e.wd.pre
    exact ⟨l2 ++ [l], by show Γ.as ++ [l] = _; rw [q, List.append_assoc]⟩
  · show _ ∧ _ ∧ _
    replace h1 : (Γ.as ++ [l])[m]? = some a := h1
    replace h2 : (Γ.ws ++ [c])[m]? = some c2 := h2
    by_cases z : m < Γ.as.length
    · rw [List.getElem?_append_left z] at h1
      rw [List.getElem?_append_left (by rw [← e.wd.wl]; exact z)] at h2
      exact e.wd.wc m a c2 h1 h2
    · have z1 : m < (Γ.as ++ [l]).length := (List.getElem?_eq_some_iff.mp h1).1
      have z2 : m = Γ.as.length := by simp at z1; omega
      subst z2
      rw [List.getElem?_append_right (Nat.le_refl _), Nat.sub_self] at h1
      rw [e.wd.wl, List.getElem?_append_right (Nat.le_refl _), Nat.sub_self] at h2
      cases h1
      cases h2
      exact ⟨g, ⟨o, h, hc⟩, .inl bh⟩
  · obtain ⟨a, q1, q2⟩ := e.wd.wp i m q
    exact ⟨a, pre_get ⟨[l], rfl⟩ q1, q2⟩
  · intro z
    rcases List.mem_append.mp z with z | z
    · exact e.wd.sp i c2 a q1 q2 z
    · simp at z
      subst z
      exact n i c2 q1 q2
/-- a cell of the world, written -/
theorem EnvOk.wwrite (e : EnvOk K B G H σ Γ) {n : Nat} {a : Addr} {c c' : Cl} {o' : HO} (ha : Γ.as[n]? = some a) (hw : Γ.ws[n]? = some c) (h' : ClOk K G o' c') : EvP K B σ G H Γ G (upd H a o') ⟨Γ.sl, Γ.as, Γ.ws.set n c'⟩ := by
  obtain ⟨g, ⟨o, ho, hc⟩, bh⟩ := e.wd.wc n a c ha hw
  have m := List.mem_of_getElem? ha
  refine ⟨⟨e.len, fun b u q => ?_, e.g0, e.gn, fun b u q n1 m1 => ?_, e.im, fun i c2 q => ?_, e.sep, e.bo, ⟨?_, e.wd.nd, e.wd.pre, fun j b c2 h1 h2 => ?_, e.wd.wp, e.wd.sp⟩⟩, Same.refl _, fun _ _ q => .inl q, fun b u q n1 m1 => ?_, fun _ => Iff.rfl, [], by simp, fun _ z => by cases z⟩
  · have ne : b ≠ a := fun z => by rw [z, g] at q; cases q
    rw [upd_ne ne]
    exact e.gh b u q
  · have ne : b ≠ a := fun z => by
      subst z
      rcases bh with bh | bh
      · rw [bh] at q; cases q
      · exact m1 bh
    rw [upd_ne ne]
    exact e.fr b u q n1 m1
  · obtain ⟨l, o2, q1, q2, q3, q4, q5⟩ := e.ow i c2 q
    have ne : l ≠ a := fun z => e.wd.sp i c2 l q q1 (z ▸ m)
    exact ⟨l, o2, q1, q2, by rw [upd_ne ne]; exact q3, q4, q5⟩
  · show Γ.as.length = (Γ.ws.set n c').length
    rw [List.length_set]
    exact e.wd.wl
  · replace h2 : (Γ.ws.set n c')[j]? = some c2 := h2
    by_cases z : j = n
    · subst z
      rw [ha] at h1
      cases h1
      rw [List.getElem?_set_self (List.getElem?_eq_some_iff.mp hw).1] at h2
      cases h2
      exact ⟨g, ⟨o', upd_same, h'⟩, bh⟩
    · rw [List.getElem?_set_ne (fun q => z q.symm)] at h2
      obtain ⟨g2, ⟨o2, ho2, hc2⟩, b2⟩ := e.wd.wc j b c2 h1 h2
      have ne : b ≠ a := fun q => by
        subst q
        have i1 := (List.getElem?_eq_some_iff.mp h1)
        have i2 := (List.getElem?_eq_some_iff.mp ha)
        exact z ((List.getElem_inj e.wd.nd (h₀ := i1.1) (h₁ := i2.1)).mp (i1.2.trans i2.2.symm))
      exact ⟨g2, ⟨o2, by rw [upd_ne ne]; exact ho2, hc2⟩, b2⟩
  · have ne : b ≠ a := fun z => m1 (z ▸ m)
    rw [upd_ne ne]
    exact q
end
/-- an own value, put into the world -/
def tWld (T : TOD) : TF := fun R Γ Φ => T R Γ fun c Γ' => ∀ a : Addr, a ∉ Γ'.as → Φ (.ptr (.ref a)) ⟨Γ'.sl, Γ'.as ++ [a], Γ'.ws ++ [c]⟩
section
variable {X : Cx} {tk : Tk} {e : Expr} {T : TOD}
theorem pf_wld (h : PFO X tk e T) : PF X tk e (tWld T) := pe_imp h fun σ H Q ⟨B, R, Γ, G, Φ, t, en, h, k⟩ => ⟨B, R, Γ, G, _, t, en, h, fun v G1 H1 Γ1 c p ⟨l, o, e1, g1, h1, c1, f1, nm⟩ hq => by
  subst e1
  have n1 : ∀ (i : Nat) c, Γ1.sl[i]? = some (.ow c) → σ[i]? ≠ some (some (.ref l)) := fun i c q => by
    obtain ⟨c0, q0⟩ := (p.sh i).mpr ⟨c, q⟩
    exact en.noOw f1 i c0 q0
  refine k (.ref l) G1 H1 _ _ ⟨p.env.push g1 h1 c1 (en.bhNone f1) nm n1, p.gg, p.gn, p.hh, p.sh, ?_⟩ (.ptr _) (hq l nm)
  obtain ⟨l2, q1, q2⟩ := p.as
  exact ⟨l2 ++ [l], by show Γ1.as ++ [l] = _; rw [q1, List.append_assoc], fun a ha => (List.mem_append.mp ha).elim (q2 a) fun z => by simp at z; rw [z]; exact f1⟩⟩
end
/-- e.append(x), e a pointer -/
def tWApp (E T : TF) : TF := fun R Γ Φ => E R Γ fun d Γ1 => match d with
  | .ptr (.ref a) => ∃ n ds0, Γ1.as[n]? = some a ∧ Γ1.ws[n]? = some (.lst ds0) ∧ T R Γ1 fun x Γ2 => ∃ ds, Γ2.ws[n]? = some (.lst ds) ∧ ds.length < sizeLine ∧ Φ .non ⟨Γ2.sl, Γ2.as, Γ2.ws.set n (.lst (ds ++ [x]))⟩
  | _ => False
/-- e.insert(i, x) -/
def tWIns (E Ti T : TF) : TF := fun R Γ Φ => E R Γ fun d Γ1 => match d with
  | .ptr (.ref a) => ∃ n ds0, Γ1.as[n]? = some a ∧ Γ1.ws[n]? = some (.lst ds0) ∧ Ti R Γ1 fun di Γ2 => T R Γ2 fun x Γ3 => di.asInt fun i => ∃ ds, Γ3.ws[n]? = some (.lst ds) ∧ ds.length < sizeLine ∧ 0 ≤ i ∧ i < 2 ^ 63 ∧ Φ .non ⟨Γ3.sl, Γ3.as, Γ3.ws.set n (.lst (ds.take i.toNat ++ [x] ++ ds.drop i.toNat))⟩
  | _ => False
section
variable {X : Cx} {tk : Tk} {o e e1 e2 : Expr} {E T T1 T2 : TF} {apos cpos : Pos}
theorem pf_wapp (ho : PF X tk o E) (hb : PF X tk e T)
    (hbase : attributeBase o "append" X.env (eval o X.env) = eval o X.env := by rfl)
    (hfew : ((backTo cpos (starEach [e] X.env)).all (fun x => !x.1) && (backToKw cpos (keywordEach [] X.env)).all (fun x => x.1.isSome) && decide ([e].length + ([] : List Keyword).length + (if ([] : List Keyword).isEmpty then 0 else 1) < 30)) = true := by rfl)
    (hline : (apos.endLine == cpos.line) = true := by rfl) (hs : starEach [e] X.env = (false, eval e X.env) :: starEach [] X.env := by rfl) : PF X tk (.Call (.Attribute o "append" apos) [e] [] cpos) (tWApp E T) :=
  pe_imp (pe_bm PySem.F.plainAttrs_list PySem.F.slot_list_append PySem.F.type_list_append mt_append ho (pa_cons hb pa_nil hs) hbase hfew hline hs rfl) fun σ H Q ⟨B, R, Γ, G, Φ, t, en, h, k⟩ => ⟨B, R, Γ, G, _, t, en, h, fun v0 G0 H0 Γ0 d0 p0 r0 h0 => by
    split at h0
    · rename_i a
      cases r0
      obtain ⟨n, ds0, ha, hw, h1⟩ := h0
      obtain ⟨g, ⟨o0, ho0, ⟨xs0, e0, _, _⟩⟩, _⟩ := p0.env.wd.wc n a _ ha hw
      subst e0
      refine ⟨.inl ⟨rfl, _, SqL.of ho0⟩, B, R, Γ0, G0, _, t, p0.env, h1, fun v1 G1 H1 Γ1 d1 p1 r1 ⟨ds, hw1, hl, h2⟩ => ?_⟩
      have ha1 : Γ1.as[n]? = some a := by
        obtain ⟨l2, q1, _⟩ := p1.as
        exact pre_get ⟨l2, q1⟩ ha
      obtain ⟨g1, ⟨o1, ho1, ⟨xs1, e1, l1, rr1⟩⟩, _⟩ := p1.env.wd.wc n a _ ha1 hw1
      subst e1
      have hl2 : xs1.length < sizeLine := by rw [rr1.length]; exact hl
      refine ⟨a, xs1, v1, rfl, rfl, ho1, hl2, k .non G1 _ _ .non ((p0.trans p1).trans (p1.env.wwrite (c' := .lst (ds ++ [d1])) ha1 hw1 ⟨xs1 ++ [v1], rfl, ?_, rr1.append (.cons r1 .nil)⟩)) .non h2⟩
      rw [List.length_append]
      exact hl2
    · exact h0.elim⟩
theorem pf_wins (ho : PF X tk o E) (ha1 : PF X tk e1 T1) (ha2 : PF X tk e2 T2)
    (hbase : attributeBase o "insert" X.env (eval o X.env) = eval o X.env := by rfl)
    (hfew : ((backTo cpos (starEach [e1, e2] X.env)).all (fun x => !x.1) && (backToKw cpos (keywordEach [] X.env)).all (fun x => x.1.isSome) && decide ([e1, e2].length + ([] : List Keyword).length + (if ([] : List Keyword).isEmpty then 0 else 1) < 30)) = true := by rfl)
    (hline : (apos.endLine == cpos.line) = true := by rfl) (hs : starEach [e1, e2] X.env = (false, eval e1 X.env) :: starEach [e2] X.env := by rfl) (hs2 : starEach [e2] X.env = (false, eval e2 X.env) :: starEach [] X.env := by rfl) (hpl : (backTo cpos (starEach [e2] X.env)).any (·.1) = false := by rfl) : PF X tk (.Call (.Attribute o "insert" apos) [e1, e2] [] cpos) (tWIns E T1 T2) :=
  pe_imp (pe_bm PySem.F.plainAttrs_list PySem.F.slot_list_insert PySem.F.type_list_insert mt_insert ho (pa_cons ha1 (pa_cons ha2 pa_nil hs2) hs) hbase hfew hline hs hpl) fun σ H Q ⟨B, R, Γ, G, Φ, t, en, h, k⟩ => ⟨B, R, Γ, G, _, t, en, h, fun v0 G0 H0 Γ0 d0 p0 r0 h0 => by
    split at h0
    · rename_i a
      cases r0
      obtain ⟨n, ds0, ha, hw, h1⟩ := h0
      obtain ⟨g, ⟨o0, ho0, ⟨xs0, e0, _, _⟩⟩, _⟩ := p0.env.wd.wc n a _ ha hw
      subst e0
      refine ⟨.inl ⟨rfl, _, SqL.of ho0⟩, B, R, Γ0, G0, _, t, p0.env, h1, fun v1 G1 H1 Γ1 d1 p1 r1 h2 => ⟨B, R, Γ1, G1, _, t, p1.env, h2, fun v2 G2 H2 Γ2 d2 p2 r2 h3 => ?_⟩⟩
      cases d1 with
      | int i =>
        cases r1
        obtain ⟨ds, hw1, hl, i0, i1, h4⟩ := h3
        have p12 := p1.trans p2
        have ha1 : Γ2.as[n]? = some a := by
          obtain ⟨l2, q1, _⟩ := p12.as
          exact pre_get ⟨l2, q1⟩ ha
        obtain ⟨g1, ⟨o1, ho1, ⟨xs1, e1, l1, rr1⟩⟩, _⟩ := p2.env.wd.wc n a _ ha1 hw1
        subst e1
        have hl2 : xs1.length < sizeLine := by rw [rr1.length]; exact hl
        refine ⟨a, xs1, i, v2, rfl, rfl, ho1, hl2, i0, i1, k .non G2 _ _ .non ((p0.trans p12).trans (p2.env.wwrite (c' := .lst (ds.take i.toNat ++ [d2] ++ ds.drop i.toNat)) ha1 hw1 ⟨xs1.take i.toNat ++ [v2] ++ xs1.drop i.toNat, rfl, ?_, ((rr1.take _).append (.cons r2 .nil)).append (rr1.drop _)⟩)) .non h4⟩
        rw [List.length_append, List.length_append, List.length_take, List.length_drop]
        show _ + 1 + _ ≤ sizeLine
        omega
      | _ => exact h3.elim
    · exact h0.elim⟩
end
/-! ### looking at all that is known, our own cells included -/
mutual
/-- the second is the first with what the pointers lead to -/
inductive Res (as : List Addr) (ws : List Cl) : D → D → Prop
  | refl (d : D) : Res as ws d d
  | ptr {n : Nat} {a : Addr} {c : Cl} {d : D} (h1 : as[n]? = some a) (h2 : ws[n]? = some c) (h3 : Res as ws c.d d) : Res as ws (.ptr (.ref a)) d
  | tup {xs ys : List D} (h : Ress as ws xs ys) : Res as ws (.tup xs) (.tup ys)
  | lst {xs ys : List D} (h : Ress as ws xs ys) : Res as ws (.lst xs) (.lst ys)
inductive Ress (as : List Addr) (ws : List Cl) : List D → List D → Prop
  | nil : Ress as ws [] []
  | cons {x y : D} {xs ys : List D} (h : Res as ws x y) (t : Ress as ws xs ys) : Ress as ws (x :: xs) (y :: ys)
end
/-- one slot, looked at -/
inductive ResS (as : List Addr) (ws : List Cl) : SD → SD → Prop
  | un (s : SD) : ResS as ws s .un
  | im {d d' : D} (h : Res as ws d d') : ResS as ws (.im d) (.im d')
  | ow {c : Cl} {d' : D} (h : Res as ws c.d d') : ResS as ws (.ow c) (.im d')
inductive ResL (as : List Addr) (ws : List Cl) : List SD → List SD → Prop
  | nil : ResL as ws [] []
  | cons {x y : SD} {xs ys : List SD} (h : ResS as ws x y) (t : ResL as ws xs ys) : ResL as ws (x :: xs) (y :: ys)
theorem ResL.length {as : List Addr} {ws : List Cl} : ∀ {xs ys : List SD}, ResL as ws xs ys → ys.length = xs.length
  | _, _, .nil => rfl
  | _, _, .cons _ t => congrArg (· + 1) t.length
theorem ResL.get {as : List Addr} {ws : List Cl} : ∀ {xs ys : List SD}, ResL as ws xs ys → ∀ (i : Nat) y, ys[i]? = some y → ∃ x, xs[i]? = some x ∧ ResS as ws x y
  | _, _, .nil, i, y, h => by simp at h
  | _, _, .cons h t, 0, y, e => by
    simp at e
    subst e
    exact ⟨_, rfl, h⟩
  | _, _, .cons h t, i + 1, y, e => t.get i y (by simpa using e)
def Cl.isP : Cl → Bool
  | .ins _ _ => false
  | _ => true
def SD.isP : SD → Bool
  | .ow c => c.isP
  | _ => false
def SD.isQ : SD → Bool
  | .ow c => !c.isP
  | _ => false
def gP (Γ : Gm) : Bool := Γ.sl.any SD.isP || Γ.ws.any Cl.isP
def gQ (Γ : Gm) : Bool := Γ.sl.any SD.isQ || Γ.ws.any fun c => !c.isP
/-- our cells -/
def ownL (σ : L2.St) (Γ : Gm) : Addr → Prop := fun a => a ∈ Γ.as ∨ ∃ (j : Nat) (c : Cl), Γ.sl[j]? = some (.ow c) ∧ σ[j]? = some (some (.ref a))
section
variable {K : PySem.W.Frag} {B : Bs} {σ : L2.St} {G H G' H' : Hp} {Γ : Gm}
theorem ownL_at (en : EnvOk K B G H σ Γ) {a : Addr} (h : ownL σ Γ a) : ∃ c o, G a = none ∧ H a = some o ∧ ClOk K G o c ∧ (c.isP = true → gP Γ = true) ∧ (c.isP = false → gQ Γ = true) := by
  rcases h with h | ⟨j, c, h1, h2⟩
  · obtain ⟨n, c, h1, h2⟩ := get_of_mem en.wd.wl h
    obtain ⟨g, ⟨o, ho, hc⟩, _⟩ := en.wd.wc n a c h1 h2
    have m := List.mem_of_getElem? h2
    exact ⟨c, o, g, ho, hc, fun q => by simp only [gP, Bool.or_eq_true]; exact .inr (List.any_eq_true.mpr ⟨c, m, q⟩), fun q => by simp only [gQ, Bool.or_eq_true]; exact .inr (List.any_eq_true.mpr ⟨c, m, by rw [q]; rfl⟩)⟩
  · obtain ⟨l, o, e1, e2, e3, e4, _⟩ := en.ow j c h1
    rw [h2] at e1
    cases e1
    have m := List.mem_of_getElem? h1
    exact ⟨c, o, e2, e3, e4, fun q => by simp only [gP, Bool.or_eq_true]; exact .inl (List.any_eq_true.mpr ⟨_, m, q⟩), fun q => by simp only [gQ, Bool.or_eq_true]; exact .inl (List.any_eq_true.mpr ⟨_, m, by show (!c.isP) = true; rw [q]; rfl⟩)⟩
theorem ownG_same (en : EnvOk K B G H σ Γ) : Same G (vwG (ownL σ Γ) G H) ∧ Same (vwG (ownL σ Γ) G H) H := by
  refine ⟨fun a o h => ?_, fun a o h => ?_⟩
  · unfold vwG
    rw [if_neg fun z => by
      obtain ⟨_, _, e, _⟩ := ownL_at en z
      rw [h] at e
      cases e]
    exact h
  · unfold vwG at h
    split at h
    · exact h
    · exact en.gh a o h
theorem own_at (en : EnvOk K B G H σ Γ) {a : Addr} (h : ownL σ Γ a) {o : HO} (ho : H a = some o) : vwG (ownL σ Γ) G H a = some o := by
  unfold vwG
  rw [if_pos h]
  exact ho
mutual
theorem Res.rep (en : EnvOk K B G H σ Γ) : ∀ {d d' : D}, Res Γ.as Γ.ws d d' → ∀ {v : V}, Rep K G v d → Rep K (vwG (ownL σ Γ) G H) v d'
  | _, _, .refl d, v, r => r.mono (ownG_same en).1
  | _, _, .ptr (n := n) (a := a) (c := c) h1 h2 h3, v, r => by
    cases r
    obtain ⟨g, ⟨o, ho, hc⟩, _⟩ := en.wd.wc n a c h1 h2
    have q := own_at en (.inl (List.mem_of_getElem? h1)) ho
    exact Res.cl en h3 rfl hc q
  | _, _, .tup h, v, r => by
    cases r with
    | tup a b c => exact .tup (same_t (ownG_same en).1 a) b (Ress.reps en h c)
  | _, _, .lst h, v, r => by
    cases r with
    | lst a b c => exact .lst ((ownG_same en).1 _ _ a) b (Ress.reps en h c)
theorem Res.cl (en : EnvOk K B G H σ Γ) : ∀ {d d' : D}, Res Γ.as Γ.ws d d' → ∀ {c : Cl} {o : HO} {a : Addr}, c.d = d → ClOk K G o c → vwG (ownL σ Γ) G H a = some o → Rep K (vwG (ownL σ Γ) G H) (.ref a) d'
  | _, _, .refl d, c, o, a, e, hc, q => by
    subst e
    exact (hc.mono (ownG_same en).1).rep q
  | _, _, .ptr _ _ _, c, o, a, e, hc, q => by cases c <;> cases e
  | _, _, .tup _, c, o, a, e, hc, q => by cases c <;> cases e
  | _, _, .lst h, c, o, a, e, hc, q => by
    cases c with
    | lst ds =>
      cases e
      obtain ⟨xs, rfl, hl, hr⟩ := hc
      exact .lst q hl (Ress.reps en h hr)
    | _ => cases e
theorem Ress.reps (en : EnvOk K B G H σ Γ) : ∀ {d d' : List D}, Ress Γ.as Γ.ws d d' → ∀ {v : List V}, Reps K G v d → Reps K (vwG (ownL σ Γ) G H) v d'
  | _, _, .nil, v, r => by cases r; exact .nil
  | _, _, .cons h t, v, r => by
    cases r with
    | cons a b => exact .cons (Res.rep en h a) (Ress.reps en t b)
end
theorem own_tw (en : EnvOk K B G H σ Γ) (s : Same (vwG (ownL σ Γ) G H) G') : Tw (gP Γ) (gQ Γ) (ownL σ Γ) G' (cutG (ownL σ Γ) G') := by
  refine ⟨fun a o h n => by unfold cutG; rw [if_neg n]; exact h, fun a o h e => ?_⟩
  obtain ⟨c, o2, e1, e2, e3, e4, e5⟩ := ownL_at en h
  have e6 := s a o2 (own_at en h e2)
  rw [e] at e6
  cases e6
  cases c with
  | lst ds =>
    obtain ⟨ys, rfl, _⟩ := e3
    exact .inl ⟨e4 rfl, .inl ⟨ys, rfl⟩⟩
  | dct ds =>
    obtain ⟨ys, rfl, _⟩ := e3
    exact .inl ⟨e4 rfl, .inr ⟨ys, rfl⟩⟩
  | ins c fs =>
    obtain ⟨dx, ys, rfl, _⟩ := e3
    exact .inr ⟨e5 rfl, _, dx, ys, rfl⟩
theorem own_ext (en : EnvOk K B G H σ Γ) (x : Ext (vwG (ownL σ Γ) G H) H G' H') : Ext G H (cutG (ownL σ Γ) G') H' := by
  refine ⟨fun a o h => ?_, x.hh, fun a o h => ?_, fun a o h => ?_⟩
  · refine (own_tw en x.gg).st a o (x.gg a o ((ownG_same en).1 a o h)) fun z => ?_
    obtain ⟨_, _, e, _⟩ := ownL_at en z
    rw [h] at e
    cases e
  · unfold cutG at h
    split at h
    · cases h
    · exact x.gh a o h
  · unfold cutG at h
    split at h
    · cases h
    · rename_i n
      rcases x.gn a o h with z | z
      · unfold vwG at z
        rw [if_neg n] at z
        exact .inl z
      · exact .inr z
/-- all that is known, looked at -/
theorem own_env (en : EnvOk K B G H σ Γ) {sl : List SD} (r : ResL Γ.as Γ.ws Γ.sl sl) : EnvOk K ⟨vwG (ownL σ Γ) G H, H, none, []⟩ (vwG (ownL σ Γ) G H) H σ ⟨sl, [], []⟩ := by
  have noO : ∀ (i : Nat) c, sl[i]? ≠ some (.ow c) := fun i c q => by
    obtain ⟨x, _, h⟩ := r.get i _ q
    cases h
  have noW : ∀ (i : Nat) c, sl[i]? ≠ some (.wp c) := fun i c q => by
    obtain ⟨x, _, h⟩ := r.get i _ q
    cases h
  refine ⟨r.length.trans en.len, (ownG_same en).2, Same.refl _, fun a o h => .inl h, fun a o h _ _ => h, fun i d q => ?_, fun i c q => (noO i c q).elim, fun i j c c' l q => (noO i c q).elim, fun i l q => (by cases q), ⟨rfl, List.nodup_nil, ⟨[], rfl⟩, fun n a c h => by simp at h, fun i n q => (noW i n q).elim, fun i c a q => (noO i c q).elim⟩⟩
  obtain ⟨x, hx, h⟩ := r.get i _ q
  cases h with
  | im h =>
    obtain ⟨v, q1, q2⟩ := en.im i _ hx
    exact ⟨v, q1, h.rep en q2⟩
  | ow h =>
    obtain ⟨l, o, q1, q2, q3, q4, _⟩ := en.ow i _ hx
    exact ⟨.ref l, q1, h.cl en rfl q4 (own_at en (.inr ⟨i, _, hx, q1⟩) q3)⟩
theorem own_back (en : EnvOk K B G H σ Γ) {sl : List SD} (r : ResL Γ.as Γ.ws Γ.sl sl) {Γ2 : Gm} (p : EvP K ⟨vwG (ownL σ Γ) G H, H, none, []⟩ σ (vwG (ownL σ Γ) G H) H ⟨sl, [], []⟩ G' H' Γ2) : EvP K B σ G H Γ (cutG (ownL σ Γ) G') H' Γ :=
  en.ext (own_ext en ⟨p.gg, fun a o h => p.hh a o h (fun i c q => by
    obtain ⟨x, _, h⟩ := r.get i _ q
    cases h) (by simp), p.env.gh, p.gn⟩)
end
def tVw (T : TF) : TF := fun _ Γ Φ => ∃ sl, ResL Γ.as Γ.ws Γ.sl sl ∧ T nvr ⟨sl, [], []⟩ fun d _ => d.nov (gP Γ) (gQ Γ) = true ∧ Φ d Γ
def tVwO (T : TOD) : TOD := fun _ Γ Φ => ∃ sl, ResL Γ.as Γ.ws Γ.sl sl ∧ T nvr ⟨sl, [], []⟩ fun c _ => c.nov (gP Γ) (gQ Γ) = true ∧ Φ c Γ
def tVwT (T : TTD) : TTD := fun _ Γ Φ => ∃ sl, ResL Γ.as Γ.ws Γ.sl sl ∧ T nvr ⟨sl, [], []⟩ fun b _ => Φ b Γ
section
variable {X : Cx} {tk : Tk} {e : Expr}
theorem pf_view {T : TF} (h : PF X (TkB none) e T) : PF X tk e (tVw T) := pe_imp h fun σ H Q ⟨B, R, Γ, G, Φ, t, en, ⟨sl, r, hT⟩, k⟩ =>
  ⟨_, nvr, _, _, _, ⟨rfl, fun _ _ q => by cases q⟩, own_env en r, hT, fun v G1 H1 Γ1 d p rd ⟨hn, hq⟩ => k v _ H1 Γ d (own_back en r p) (rd.thaw (own_tw en p.gg) hn) hq⟩
theorem pft_view {T : TTD} (h : PFT X (TkB none) e T) : PFT X tk e (tVwT T) := pt_imp h fun σ H Q ⟨B, R, Γ, G, Φ, t, en, ⟨sl, r, hT⟩, k⟩ =>
  ⟨_, nvr, _, _, _, ⟨rfl, fun _ _ q => by cases q⟩, own_env en r, hT, fun b G1 H1 Γ1 p hq => k b _ H1 Γ (own_back en r p) hq⟩
theorem po_view {T : TOD} (h : PFO X (TkB none) e T) : PFO X tk e (tVwO T) := pe_imp h fun σ H Q ⟨B, R, Γ, G, Φ, t, en, ⟨sl, r, hT⟩, k⟩ =>
  ⟨_, nvr, _, _, _, ⟨rfl, fun _ _ q => by cases q⟩, own_env en r, hT, fun v G1 H1 Γ1 c p ⟨l, o, e1, g1, h1, c1, f1, nm⟩ ⟨hn, hq⟩ => k v _ H1 Γ c (own_back en r p) ⟨l, o, e1, by
    unfold cutG
    split
    · rfl
    · exact g1, h1, c1.thaw (own_tw en p.gg) hn, f1, en.wd.out f1⟩ hq⟩
end
/-! ### a < b, of data -/
def dLt (a b : D) (k : D → Prop) : Prop := ∃ p q, a.pd = some p ∧ b.pd = some q ∧ PySem.W.alike p q = true ∧ p ≠ .none ∧ p.depth ≤ 61 ∧ k (.bl (PySem.W.dataLt p q))
def rLtP (K : PySem.W.Frag) : R2 := fun x y H Q => ∃ p q, Dp K H x p ∧ Dp K H y q ∧ PySem.W.alike p q = true ∧ p ≠ .none ∧ p.depth ≤ 61 ∧ Q (.bl (PySem.W.dataLt p q)) H
theorem op_ltP {X : Cx} (hu : X.A.units + 65 < cLine) : OpR X (compareOp .Lt) (rLtP X.K) := by
  intro pins s σ H x y v u Q I rx ry ⟨p, q, hp, hq, al, nn, dp, h⟩
  obtain ⟨as, r1⟩ := Dp.reads I p x v hp rx
  obtain ⟨bs, r2⟩ := Dp.reads I q y u hq ry
  have := Nat.min_le_left p.depth q.depth
  exact PySem.W.lt_data r1 r2 al nn (by omega) ⟨.bl _, H, I, rfl, h⟩
section
variable {K : PySem.W.Frag}
theorem opd_ltP : OpD K (rLtP K) dLt := fun G H x y a b k Q s ra rb ⟨p, q, h1, h2, h3, h4, h5, hk⟩ o => ⟨p, q, ra.dp s h1, rb.dp s h2, h3, h4, h5, o.here s (.bl _) hk⟩
end
section
variable {X : Cx} {tk : Tk} {a b : Expr} {Ta Tb : TF} {pos : Pos} {k : Nat}
theorem pf_ltP (hr : Room k X.A) (ha : PF X tk a Ta) (hb : PF X tk b Tb) : PF X tk (.Compare a [.Lt] [b] pos) (tBin dLt Ta Tb) := pf_cmp (op_ltP (hu65 hr)) opd_ltP ha hb (nomark _)
theorem pft_ltP (hr : Room k X.A) (ha : PF X tk a Ta) (hb : PF X tk b Tb) : PFT X tk (.Compare a [.Lt] [b] pos) (tBinT dLt Ta Tb) := pft_cmp (op_ltP (hu65 hr)) opd_ltP ha hb (nomark _)
end
end Vl

namespace Vl
open PySem PySem.Spec PyProof.Rows L2 ClX
/-! ### lists that are returned with an own list in them -/
/-- return [.., x], x an own cell -/
def tRetL (i : Nat) (U : TXD) : TSD := fun R D Γ => U R Γ fun xs Γ' => ∃ ds c, xs = ds.map XD.im ++ [.vw i] ∧ clAt Γ' i = some c ∧ ds.length + 1 ≤ sizeLine ∧ D.rt (.fl ds c) Γ'
theorem XOk.split {K : PySem.W.Frag} {G : Hp} {σ : L2.St} {i : Nat} : ∀ {vs : List V} {ds : List D}, XOk K G σ none vs (ds.map XD.im ++ [.vw i]) → ∃ us v, vs = us ++ [v] ∧ Reps K G us ds ∧ σ[i]? = some (some v)
  | _, [], .vw h .nil => ⟨[], _, rfl, .nil, h⟩
  | _, d :: ds, .im h t => by
    obtain ⟨us, v, e, r, q⟩ := t.split
    exact ⟨_ :: us, v, by rw [e]; rfl, .cons h r, q⟩
section
variable {X : Cx} {tk : Tk} {es : List Expr} {U : TXD} {p pos : Pos}
theorem pfs_retL (i : Nat) (nb : NbT tk i) (ha : PFX X tk none es U) : PFS X tk (.Return (some (.List es p)) pos) (tRetL i U) :=
  ps_imp (ps_ret (pe_lst ha)) fun D' σ H ⟨B, R, Γ, G, D, t, en, h, x⟩ => ⟨B, R, Γ, G, _, t, en, h, fun vs G1 H1 Γ1 xs p1 r1 ⟨ds, c, e1, hc, hl, h1⟩ => by
    subst e1
    obtain ⟨us, v, rfl, rr, hv⟩ := r1.split
    obtain ⟨l, o, a1, a2, a3, a4, a5⟩ := p1.env.ow i c (clAt_eq hc)
    rw [hv] at a1
    cases a1
    have bl : B.H l = none := by
      rcases a5 with z | z
      · exact z
      · exact (nb B R t l z).elim
    have ul : us.length + 1 ≤ sizeLine := by rw [rr.length]; exact hl
    refine ⟨by rw [List.length_append]; exact ul, fun q hq => ?_⟩
    have p2 := p1.env.new (o := .lst (us ++ [V.ref l])) hq
    have ne : l ≠ q := fun z => by rw [z, hq] at a3; cases a3
    exact x.rt (.ref q) (.fl ds c) σ _ _ Γ1 p2.env ⟨q, l, o, us, rfl, upd_same, ul, rr.mono p2.gg, by rw [upd_ne ne]; exact a2, by rw [upd_ne ne]; exact a3, a4.mono p2.gg, bl, p1.env.wd.sp i c l (clAt_eq hc) hv⟩ h1⟩
end
/-- .. received, the last item as a pointer -/
def tCallBP (n i : Nat) (sp : SpD) (U : TBD) : TF := fun R Γ Φ => U R Γ fun bs Γ' => match Γ'.sl[i]? with
  | some (.ow c) => bs.length = n ∧ hasSl bs = true ∧ sp (bs.map (BD.ad c)) (fun r c' => match r, c' with
    | .fl pre d, some c' => ∀ a : Addr, a ∉ Γ'.as → Φ (.lst (pre ++ [D.ptr (.ref a)])) ⟨Γ'.sl.set i (.ow c'), Γ'.as ++ [a], Γ'.ws ++ [d]⟩
    | _, _ => False) (fun nm pl c' => match c' with
    | some c' => R nm pl (Γ'.set i (.ow c'))
    | none => False)
  | _ => False
section
variable {X : Cx} {tk : Tk} {j k n : Nat} {f : Addr} {ps : List Str} {sp : SpD} {x : Str} {p pos : Pos} {e : Expr} {es : List Expr} {W : TBD}
theorem pf_callBP (i : Nat) (C : Callee X.prog X.w X.K X.mg X.base k f ps sp) (tw : TkOk X tk) (hr : Room j X.A) (hk : k ≤ j) (hm : X.mg x = some (.ref f)) (ha : PFB X tk i (e :: es) W) (hg : Gl X x := by rfl) (hn : ps.length = n := by rfl)
    (hdb : (x == ("__debug__" : Str)) = false := by decide) (he : starEach (e :: es) X.env = (false, eval e X.env) :: starEach es X.env := by rfl) (hpl : (backTo pos (starEach es X.env)).any (·.1) = false := by rfl) : PF X tk (.Call (.Name x p) (e :: es) [] pos) (tCallBP n i sp W) := by
  subst hn
  obtain ⟨fd, F, hb⟩ := C.ex
  exact pe_imp (pe_callG F (hr.mono hk) hg hm C.kp hb ha hdb he hpl) fun σ H Q ⟨B, R, Γ, G, Φ, t, en, h, kk⟩ => ⟨B, R, Γ, G, _, t, en, h, fun vs G1 H1 Γ1 bs p1 r1 h1 => ⟨ExOk X.K B R, tw B R t, by
    split at h1
    · rename_i c q
      obtain ⟨h1, h2, h3⟩ := h1
      refine call_bo (X := X) (Φ := fun r Γ2 => match r with
        | .fl pre d => ∀ a : Addr, a ∉ Γ2.as → Φ (.lst (pre ++ [D.ptr (.ref a)])) ⟨Γ2.sl, Γ2.as ++ [a], Γ2.ws ++ [d]⟩
        | _ => False) p1.env r1 q ⟨h1, h2, ?_⟩ fun v r G' H' Γ' p2 ea qr hr => ?_
      · have e1 : (fun (r : RD) (c' : Option Cl) => match r, c' with
          | .fl pre d, some c' => ∀ a : Addr, a ∉ Γ1.as → Φ (.lst (pre ++ [D.ptr (.ref a)])) ⟨Γ1.sl.set i (.ow c'), Γ1.as ++ [a], Γ1.ws ++ [d]⟩
          | _, _ => False) = fun r c' => match c' with
          | some c' => (match r with
            | .fl pre d => ∀ a : Addr, a ∉ (Γ1.set i (.ow c')).as → Φ (.lst (pre ++ [D.ptr (.ref a)])) ⟨(Γ1.set i (.ow c')).sl, (Γ1.set i (.ow c')).as ++ [a], (Γ1.set i (.ow c')).ws ++ [d]⟩
            | _ => False)
          | none => False := by
          funext r c'
          cases r <;> cases c' <;> rfl
        exact cast (congrArg (fun z => sp (bs.map (BD.ad c)) z _) e1) h3
      · cases r with
        | fl pre d =>
          obtain ⟨p0, l, o, xs, a1, a2, a3, a4, a5, a6, a7, a8⟩ := qr
          subst a1
          have nm : l ∉ Γ'.as := by rw [ea]; exact p1.env.wd.out a8
          have n1 : ∀ (i : Nat) c, Γ'.sl[i]? = some (.ow c) → σ[i]? ≠ some (some (.ref l)) := fun i c z => by
            obtain ⟨c0, q0⟩ := (p2.sh i).mpr ⟨c, z⟩
            exact p1.env.noOw a8 i c0 q0
          have bl : B.H l = none := p1.env.bhNone a8
          have pp := p1.trans p2
          refine kk (.ref p0) G' H' _ _ ⟨p2.env.push a5 a6 a7 bl nm n1, pp.gg, pp.gn, pp.hh, pp.sh, ?_⟩ (.lst a2 (by rw [List.length_append]; exact a3) (a4.append (.cons (.ptr _) .nil))) (hr l nm)
          obtain ⟨l2, q1, q2⟩ := pp.as
          exact ⟨l2 ++ [l], by show Γ'.as ++ [l] = _; rw [q1, List.append_assoc], fun a ha => (List.mem_append.mp ha).elim (q2 a) fun z => by simp at z; rw [z]; exact p1.back a8⟩
        | _ => exact hr.elim
    · exact h1.elim⟩⟩
end
end Vl

namespace Vl
open PySem PySem.Spec PyProof.Rows L2 ClX
/-! ### len(o), bool(o) of own classes -/
section
variable {prog : Program} {w : World} {A : Around} {E : Value → Shared → Prop} {s : Shared}
theorem bool_new_in (x : Value) : MeetsIn prog w (Builtin.«bool.__new__» ⟨[.type "bool", x], []⟩) (fun A R s => wpAny (model prog w) A.in1 (truthy x) (fun b s' => R (.ok (.ret (.bool b))) s') (fun e s' => R (.error e) s') s) :=
  .of_wp fun A R s h => by
    have f1 := F.conv_sub_bool
    obtain ⟨hp, g, d, tk, os⟩ := s
    unfold Builtin.«bool.__new__»
    generalize hT : truthy = TR at h ⊢
    wp_walk
    exact wpAny_mono h (fun b s' q => wpAny_pure ⟨_, rfl, q⟩) fun _ _ e => e
theorem call_boolX {x : Value} {Q : Value → Shared → Prop} (h : wpAny (model prog w) A.in1.in1 (truthy x) (fun b s' => Q (.bool b) s') E s) : wpAny (model prog w) A (call (.type "bool") [x]) Q E s :=
  callType_newIn F.called_bool F.newNe_bool (F.typeCall_bool_1 x) (F.newCall_bool_1 x) (fun obj => F.args_object_init_2 obj x) F.entry_bool_new (bool_new_in x) (wpAny_mono h (fun b s' q => ⟨rfl, q⟩) fun _ _ e => e)
end
section
variable {X : Cx} {k : Nat}
/-- a def run a few levels down -/
theorem run_sub {A : Around} {pins : List (Addr × Obj)} {σ : L2.St} {H : Hp} {s : Shared} {Q : VK} {us : List Value} {vs : List V} {f : Addr} {fd : FuncData} {ps : List Str} {sp : Sp} {E : Value → Shared → Prop} (sb : L2.Sub X k A) (F : FnOk X.prog X.w X.K X.mg X.base (L2.CX X.prog X.w) k f fd ps sp) (hb : L2.Binds X.K fd ps [])
    (I : Inv X pins σ H s) (r : Vals vs us) (h : sp vs H Q (fun _ _ _ => False)) : wpAny (model X.prog X.w) A (call (.ref f) us) (EP X pins σ Q) E s := by
  have hl : us.length = ps.length := by rw [← r.length]; exact F.len _ _ _ _ h
  have b := hb s us I.kIn (by rw [List.append_nil]; exact hl)
  rw [List.append_nil] at b
  have e := I.env0
  have e0 : Env0 X.prog X.w X.K X.mg X.base A X.stack s H := ⟨by rw [sb.fr]; exact e.frames, e.mod, e.bs, e.bsz, e.funs, e.frf, e.hok, e.bare⟩
  refine wpAny_call (codeAny_mono (F.run A X.stack s H ⟨us, []⟩ us vs Q _ sb.room e0 b r h) fun r s' hq => ?_)
  cases r with
  | error e =>
    obtain ⟨_, _, _, _, _, _, _, _, _, _, _, _, z⟩ := hq
    exact z.elim
  | ok fl =>
    cases fl with
    | ret u => exact I.after hq
    | next => exact False.elim hq
    | brk => exact False.elim hq
    | cont => exact False.elim hq
/-- what a method of one argument answers -/
def rOwn1 (X : Cx) (k : Nat) (m : Str) (P : VK → VK) : List V → Hp → VK → Prop := fun xs H Q => ∃ a C dx fs sp, xs = [.ref a] ∧ H a = some (.ins C dx fs) ∧ MethAt X.prog X.w X.K X.mg X.base k C m sp ∧ sp [.ref a] H (P Q) (fun _ _ _ => False)
theorem cr_lenOwn (hr : Room (k + 1) X.A) : CallR X (.builtin "len") (rOwn1 X k "__len__" fun Q r H => ∃ n : Int, r = .int n ∧ 0 ≤ n ∧ n < 2 ^ 63 ∧ Q (.int n) H) := by
  intro pins s σ H xs us Q I r h
  obtain ⟨a, C, dx, fs, sp, rfl, ha, ⟨k1, f, fd, ps, hk, hm, F, hB⟩, q⟩ := h
  rw [Vals.ref1 r]
  obtain ⟨mA, J, _⟩ := ins_get I.hok ha
  obtain ⟨od, J, _⟩ := J.look
  obtain ⟨m, hF⟩ := I.fr
  have r2 : Vals [V.ref a] [Value.ref a] := .cons rfl .nil
  have sb : L2.Sub X k1 X.A.in1 := (L2.Sub.in1 (⟨hr, rfl⟩ : L2.Sub X (k + 1) X.A)).mono hk
  refine PySem.W.len_K hF I.ok.mod.kin J hm.at_ hm.fn (wpAny_mono (run_sub sb F hB I r2 q) (fun u s' ⟨v, H', I', rv, n, e, n0, n1, hq⟩ => ?_) fun _ _ e => e)
  subst e
  obtain ⟨t, rfl⟩ := rv
  exact ⟨⟨n0, n1⟩, .int n, H', I'.tok _, ⟨_, rfl⟩, hq⟩
theorem cr_boolOwn (hr : Room (k + 2) X.A) : CallR X (.type "bool") (rOwn1 X k "__bool__" fun Q r H => ∃ b : Bool, r = .bl b ∧ Q (.bl b) H) := by
  intro pins s σ H xs us Q I r h
  obtain ⟨a, C, dx, fs, sp, rfl, ha, ⟨k1, f, fd, ps, hk, hm, F, hB⟩, q⟩ := h
  rw [Vals.ref1 r]
  obtain ⟨mA, J, _⟩ := ins_get I.hok ha
  obtain ⟨od, J, _⟩ := J.look
  obtain ⟨m, hF⟩ := I.fr
  have r2 : Vals [V.ref a] [Value.ref a] := .cons rfl .nil
  have sb : L2.Sub X k1 X.A.in1.in1 := (L2.Sub.in1 (L2.Sub.in1 (⟨hr, rfl⟩ : L2.Sub X (k + 2) X.A))).mono hk
  refine call_boolX (PySem.W.truthy_K hF I.ok.mod.kin J hm.at_ hm.fn (wpAny_mono (run_sub sb F hB I r2 q) (fun u s' ⟨v, H', I', rv, b, e, hq⟩ => ?_) fun _ _ e => e))
  subst e
  cases rv
  exact ⟨.bl b, H', I', rfl, hq⟩
end
section
variable {prog : Program} {w : World} {A : Around} {E : Value → Shared → Prop} {s : Shared} {K : PySem.W.Frag} {x C L f : Addr} {h₀ : Heap} {m : Str → Option Value} {ox : Obj} {od : Option Obj} {T : String}
/-- an own object on the left, a built-in value on the right that knows nothing of the operator -/
theorem binop_T {op : Operator} {b : Value} {Q : Value → Shared → Prop} (F : PyProof.Rows.Fr h₀ L s.heap m) (X₀ : K.In h₀) (I : PySem.W.InstAt s.heap x ox C od) (hb : PySem.W.Looks (model prog w) s.heap (typeOf b) (.type T)) (hc : PySem.W.selfFirst K C = true)
    (hs : PySem.W.findIn K (.ref C) (PySem.dunder op.info.2) = some (some (.ref f))) (hf : PySem.W.isFn K (.ref f) = true) (h1 : PySem.W.findIn K (.type T) (PySem.dunder op.info.2) = some none) (h2 : PySem.W.findIn K (.type T) (dunderR op.info.2) = some none)
    (h : wpAny (model prog w) A (call (.ref f) [.ref x, b]) (PySem.W.CmpBack Q) E s) : wpAny (model prog w) A (binaryOp op (.ref x) b) Q E s := by
  have X := X₀.keeps F.keep
  obtain ⟨cd, rest, hcd, hm⟩ := PySem.W.ksp_first hc
  rcases hi : op.info with ⟨sym, nm⟩
  rw [hi] at hs h1 h2
  dsimp only at hs h1 h2
  have hne : (Value.ref C == Value.type T) = false := Bool.eq_false_iff.mpr fun q => by cases beq_iff_eq.mp q
  have L4 : PySem.W.Looks (model prog w) s.heap (fillsNumberSlot (.type T) nm) false := PySem.W.ksp_fillsT X h1 h2
  have one := PySem.W.ksp_try X I hs hf h
  simp only [binaryOp, hi]
  refine wpAny_holding (wpAny_bind ?_)
  unfold binaryOp1
  refine wpAny_bind (I.type.here (wpAny_bind (hb.here (wpAny_bind ((PySem.W.fills_K X hcd hm hs).here ?_)))))
  simp only [hne, Bool.false_eq_true, if_false]
  refine wpAny_bind (L4.here ?_)
  simp only [Bool.and_false, Bool.false_eq_true, if_false, Bool.false_and, if_true]
  refine wpAny_bind (wpAny_pure ?_)
  simp only [Bool.false_eq_true, if_false]
  refine wpAny_bind (m := tryMethod (.ref x) (PySem.dunder nm) b) (wpAny_mono one (fun r s' hr => ?_) fun _ _ e => e)
  obtain ⟨v, rfl, q⟩ := hr
  exact wpAny_pure (wpAny_pure q)
end
section
variable {X : Cx} {k : Nat} {a b : Expr} {ta tb : TE} {pos : Pos}
theorem pe_binT {op : Operator} (hr : Room k X.A) (ha : PE X a ta) (hb : PE X b tb) : PE X (.BinOp a op b pos) (fun σ H Q => ta σ H fun x H1 => tb σ H1 fun y H2 => ∃ p q C dx fs zs sp, x = .ref p ∧ y = .ref q ∧ H2 p = some (.ins C dx fs) ∧ SqT X.K H2 q zs ∧ PySem.W.selfFirst X.K C = true ∧
    PySem.W.findIn X.K (.type "tuple") (PySem.dunder op.info.2) = some none ∧ PySem.W.findIn X.K (.type "tuple") (dunderR op.info.2) = some none ∧
    MethAt X.prog X.w X.K X.mg X.base k C (PySem.dunder op.info.2) sp ∧ ∃ W : WX, Takes X W ∧ sp [.ref p, .ref q] H2 Q (WE W σ)) := by
  refine ⟨fun pins s σ H Q I h => ?_⟩
  refine wpAny_BinOp (binT ha hb I h fun v u s2 x y H2 I2 rx ry z => ?_)
  obtain ⟨p, q, C, dx, fs, zs, sp, ex, ey, hp, hq, sf, f1, f2, ⟨k1, f, fd, ps, hk, hm, F, hB⟩, W, tw, z⟩ := z
  subst ex ey
  obtain rfl : v = Value.ref p := rx
  obtain rfl : u = Value.ref q := ry
  obtain ⟨mA, J, _⟩ := ins_get I2.hok hp
  obtain ⟨od, J, _⟩ := J.look
  obtain ⟨its, _, ⟨o, ho, hcl, _⟩, _⟩ := I2.tuple hq
  obtain ⟨m, hF⟩ := I2.fr
  refine binop_T hF I2.ok.mod.kin J (fun A Q E s k q => wpAny_typeOf_ref (k _ _ ho) (by rw [hcl]; exact q)) sf hm.at_ hm.fn f1 f2 ?_
  exact wpAny_mono (run_fnS (E := WE W) (us := [.ref p, .ref q]) (vs := [.ref p, .ref q]) F (hr.mono hk) hB (passAt tw σ) I2 (.cons rfl (.cons rfl .nil)) z) (fun r s' ⟨v, H', I', rv, q⟩ => SlX.cmpback rv ⟨v, H', I', rv, q⟩) fun _ _ e => e
end
theorem call_im0 {K : PySem.W.Frag} {B : Bs} {σ : L2.St} {G H : Hp} {Γ : Gm} {n : Nat} {sp : SpD} {vs : List V} {ds : List D} {Φ : RD → Gm → Prop} {Q : VK} (en : EnvOk K B G H σ Γ) (r : Reps K G vs ds)
    (h : ds.length = n ∧ sp (ds.map .im) (fun r _ => Φ r Γ) (fun _ _ _ => False)) (k : ∀ v r G' H', EvP K B σ G H Γ G' H' Γ → RetR K H none G' H' v r → Φ r Γ → Q v H') : liftSp K n sp vs H Q (fun _ _ _ => False) := by
  refine ⟨G, ds.map .im, _, _, r.length.trans h.1, en.gh, AsOk.ims' r, h.2, fun v r c' G' H' p q hr => ?_, fun c pl c' G' H' dd p q hr => hr.elim⟩
  rw [lb_ims] at p q
  exact k v r G' H' (en.ext p.ext) q hr
/-- len(o), bool(o), o - t -/
def tLenM (sp : Str → Option SpD) (T : TF) : TF := fun R Γ Φ => T R Γ fun d Γ1 => match d with
  | .obj c fs => (match sp c with
    | some s => s [.im (.obj c fs)] (fun r _ => match r with
      | .im (.int n) => 0 ≤ n ∧ n < 2 ^ 63 ∧ Φ (.int n) Γ1
      | _ => False) (fun _ _ _ => False)
    | none => False)
  | _ => False
def tBoolM (sp : Str → Option SpD) (T : TF) : TF := fun R Γ Φ => T R Γ fun d Γ1 => match d with
  | .obj c fs => (match sp c with
    | some s => s [.im (.obj c fs)] (fun r _ => match r with
      | .im (.bl b) => Φ (.bl b) Γ1
      | _ => False) (fun _ _ _ => False)
    | none => False)
  | _ => False
def tBinMT (sp : Str → Option SpD) (Ta Tb : TF) : TF := fun R Γ Φ => Ta R Γ fun a Γ1 => Tb R Γ1 fun b Γ2 => match a, b with
  | .obj c fs, .tup ds => (match sp c with
    | some s => s [.im (.obj c fs), .im (.tup ds)] (fun r _ => Φ r.d Γ2) (fun nm pl _ => R nm pl Γ2)
    | none => False)
  | _, _ => False
section
variable {X : Cx} {tk : Tk} {j : Nat} {a b e : Expr} {T Ta Tb : TF} {p pos : Pos}
theorem pf_lenM {sps : Str → Option SpD} (M : ∀ c s, sps c = some s → MethV X.prog X.w X.K X.mg X.base j c "__len__" 1 s) (hr : Room (j + 1) X.A) (hm : X.mg "len" = none) (ha : PF X tk e T) (hg : Gl X "len" := by rfl) (hs : starEach [e] X.env = (false, eval e X.env) :: starEach [] X.env := by rfl) : PF X tk (.Call (.Name "len" p) [e] [] pos) (tLenM sps T) :=
  pe_imp (pe_callB (cr_lenOwn hr) hg hm PySem.boot_len (pa_cons ha pa_nil hs) (by decide) (by decide) hs rfl) fun σ H Q ⟨B, R, Γ, G, Φ, t, en, h, k⟩ => ⟨B, R, Γ, G, _, t, en, h, fun v1 G1 H1 Γ1 d1 p1 r1 h1 => by
    cases r1 with
    | obj hp rf =>
      dsimp only at h1
      split at h1
      · rename_i s hs
        obtain ⟨c1, c2⟩ := M _ s hs
        refine ⟨_, _, _, _, _, rfl, p1.env.gh _ _ hp, c2, ?_⟩
        exact call_im0 (ds := [.obj _ _]) (Φ := fun r Γ => match r with
          | .im (.int n) => 0 ≤ n ∧ n < 2 ^ 63 ∧ Φ (.int n) Γ
          | _ => False) p1.env (.cons (Rep.obj hp rf) .nil) ⟨rfl, h1⟩ fun v r G' H' p3 q hr => by
            split at hr
            · rename_i n
              cases q
              exact ⟨n, rfl, hr.1, hr.2.1, k _ G' H' Γ1 _ (p1.trans p3) (.int _) hr.2.2⟩
            · exact hr.elim
      · exact h1.elim
    | _ => exact h1.elim⟩
theorem pf_boolM {sps : Str → Option SpD} (M : ∀ c s, sps c = some s → MethV X.prog X.w X.K X.mg X.base j c "__bool__" 1 s) (hr : Room (j + 2) X.A) (hm : X.mg "bool" = none) (ha : PF X tk e T) (hg : Gl X "bool" := by rfl) (hs : starEach [e] X.env = (false, eval e X.env) :: starEach [] X.env := by rfl) : PF X tk (.Call (.Name "bool" p) [e] [] pos) (tBoolM sps T) :=
  pe_imp (pe_callTy (cr_boolOwn hr) hg hm (by decide +kernel) (pa_cons ha pa_nil hs) (by decide) (by decide) hs rfl) fun σ H Q ⟨B, R, Γ, G, Φ, t, en, h, k⟩ => ⟨B, R, Γ, G, _, t, en, h, fun v1 G1 H1 Γ1 d1 p1 r1 h1 => by
    cases r1 with
    | obj hp rf =>
      dsimp only at h1
      split at h1
      · rename_i s hs
        obtain ⟨c1, c2⟩ := M _ s hs
        refine ⟨_, _, _, _, _, rfl, p1.env.gh _ _ hp, c2, ?_⟩
        exact call_im0 (ds := [.obj _ _]) (Φ := fun r Γ => match r with
          | .im (.bl b) => Φ (.bl b) Γ
          | _ => False) p1.env (.cons (Rep.obj hp rf) .nil) ⟨rfl, h1⟩ fun v r G' H' p3 q hr => by
            split at hr
            · rename_i n
              cases q
              exact ⟨n, rfl, k _ G' H' Γ1 _ (p1.trans p3) (.bl _) hr⟩
            · exact hr.elim
      · exact h1.elim
    | _ => exact h1.elim⟩
theorem pf_binMT {op : Operator} {m : Str} {sps : Str → Option SpD} (M : ∀ c s, sps c = some s → MethV X.prog X.w X.K X.mg X.base j c m 2 s ∧ PySem.W.selfFirst X.K (He.ga X.K c) = true) (f1 : PySem.W.findIn X.K (.type "tuple") (PySem.dunder op.info.2) = some none) (f2 : PySem.W.findIn X.K (.type "tuple") (dunderR op.info.2) = some none)
    (tw : TkOk X tk) (hr : Room j X.A) (ha : PF X tk a Ta) (hb : PF X tk b Tb) (hm : PySem.dunder op.info.2 = m := by rfl) : PF X tk (.BinOp a op b pos) (tBinMT sps Ta Tb) := by
  subst hm
  refine pe_imp (pe_binT hr ha hb) fun σ H Q ⟨B, R, Γ, G, Φ, t, en, h, k⟩ => ⟨B, R, Γ, G, _, t, en, h, fun v1 G1 H1 Γ1 d1 p1 r1 h1 => ⟨B, R, Γ1, G1, _, t, p1.env, h1, fun v2 G2 H2 Γ2 d2 p2 r2 h2 => ?_⟩⟩
  cases r1 with
  | obj hp rf => cases r2 with
    | tup hq lq rq =>
      dsimp only at h2
      split at h2
      · rename_i s hs
        obtain ⟨⟨c1, c2⟩, c3⟩ := M _ s hs
        refine ⟨_, _, _, _, _, _, _, rfl, rfl, p2.env.gh _ _ (p2.gg _ _ hp), same_t p2.env.gh hq, c3, f1, f2, c2, ExOk X.K B R, tw B R t, ?_⟩
        exact call_im (tk := tk) (X := X) (ds := [.obj _ _, .tup _]) (Φ := fun r Γ => Φ r.d Γ) p2.env (.cons ((Rep.obj hp rf).mono p2.gg) (.cons (Rep.tup hq lq rq) .nil)) ⟨rfl, h2⟩ fun v r G' H' p3 q hr => by
          obtain ⟨G3, p4, r4⟩ := ret_fr p2.env p3 rfl q
          exact k v G3 H' Γ2 _ ((p1.trans p2).trans p4) r4 hr
      · exact h2.elim
    | _ => exact h2.elim
  | _ => cases r2 <;> exact h2.elim
end
/-- what K says of an operator and tuples -/
def btB (nm : String) (K : PySem.W.Frag) : Bool := (match PySem.W.findIn K (.type "tuple") (PySem.dunder nm) with
  | some none => true
  | _ => false) && (match PySem.W.findIn K (.type "tuple") (dunderR nm) with
  | some none => true
  | _ => false)
theorem btB_ok {nm : String} {K : PySem.W.Frag} (h : btB nm K = true) : PySem.W.findIn K (.type "tuple") (PySem.dunder nm) = some none ∧ PySem.W.findIn K (.type "tuple") (dunderR nm) = some none := by
  unfold btB at h
  simp only [Bool.and_eq_true] at h
  obtain ⟨h1, h2⟩ := h
  refine ⟨?_, ?_⟩
  · split at h1
    · assumption
    · cases h1
  · split at h2
    · assumption
    · cases h2
end Vl

namespace Vl
open PySem PySem.Spec PyProof.Rows L2 ClX
section
variable {X : Cx} {pins : List (Addr × Obj)} {σ : L2.St}
/-- a list takes what is left of a tuple's iterator -/
theorem ext_tup {A1 : Around} {q t it : Addr} {zs : List V} {Rs : Result → Shared → Prop} (hh : A1.in1.handled = none) (hqt : q ≠ it) (hz : zs.length ≤ sizeLine) {H0 : Hp} (hT : SqT X.K H0 t zs) (hq0 : ∃ ys, H0 q = some (.lst ys)) (hdone : ∀ s, Inv X pins σ (upd H0 q (.lst zs)) s → Rs (.ok (.ret .none)) s) :
    ∀ (m i : Nat) (s : Shared), i + m = zs.length → Inv X pins σ (upd H0 q (.lst (zs.take i))) s → FpOk X pins H0 it → s.heap.IsTupleIter it t i → codeAny (model X.prog X.w) A1 (.builtin "list.extend.loop" ⟨[.ref q, .ref it, .none], []⟩) Rs s := by
  obtain ⟨ys, hq0⟩ := hq0
  have hT2 : ∀ xs, SqT X.K (upd H0 q (.lst xs)) t zs := fun xs => SqT.but hq0 (fun _ => nofun) (fun _ _ => nofun) hT
  intro m
  induction m with
  | zero =>
    intro i s e I f st
    obtain rfl : i = zs.length := e
    rw [List.take_length] at I
    obtain ⟨its, rv, p, _⟩ := I.tuple (hT2 _)
    obtain ⟨f0, f1, f2, f3, f4, f5⟩ := f
    refine codeAny_builtin PySem.F.entry_extend_loop ?_
    rw [Around.under_plainId PySem.F.plain_extend_loop _]
    refine wpAny_bind (m := pyNext (.ref it)) (wpAny_pyNext_tuple_end hh st (show s.heap.IsTuple t its.toArray from p) (by simp [rv.length]) fun h' eb => ?_)
    have I1 : Inv X pins σ (upd H0 q (.lst zs)) { s with heap := h' } := I.turned (t' := s.toks) (fun b o hb e => eb b o hb e) (by rw [upd_ne (Ne.symm hqt)]; exact f0) f1 f3 f4 f5
    exact wpAny_pure (hdone _ I1)
  | succ m ih =>
    intro i s e I f st
    have lt : i < zs.length := by omega
    obtain ⟨its, rv, p, _⟩ := I.tuple (hT2 _)
    obtain ⟨u, hu, ru⟩ := rv.get (i := i) (List.getElem?_eq_getElem lt)
    obtain ⟨f0, f1, f2, f3, f4, f5⟩ := f
    refine codeAny_builtin PySem.F.entry_extend_loop ?_
    rw [Around.under_plainId PySem.F.plain_extend_loop _]
    refine wpAny_bind (m := pyNext (.ref it)) (wpAny_pyNext_tuple_item st (show s.heap.IsTuple t its.toArray from p) (x := u) (by simpa using hu) fun h' st' sb => ?_)
    have I1 : Inv X pins σ (upd H0 q (.lst (zs.take i))) { s with heap := h' } := I.turned (t' := s.toks) (fun b o hb e => (sb.2 b hb).trans e) (by rw [upd_ne (Ne.symm hqt)]; exact f0) f1 f3 f4 f5
    show wpAny _ A1.in1 (updateSeq q (·.push u) >>= _) _ _ _
    obtain ⟨z, its2, k, r2, hl, e2⟩ := I1.lstM upd_same
    have tk : zs.take (i + 1) = zs.take i ++ [zs[i]] := by rw [List.take_add_one, List.getElem?_eq_getElem lt]; rfl
    have lt2 : (zs.take i).length = i := by rw [List.length_take]; omega
    have li : its2.length = i := by rw [← r2.length, lt2]
    refine wpAny_bind (wpAny_updateSeq e2 rfl (wpAny_pure ⟨plainId_quiet PySem.F.plain_extend_loop _, ?_⟩) (by rw [List.size_toArray]; omega) (by show (its2.toArray.push u).size ≤ sizeLine + 1; rw [Array.size_push, List.size_toArray]; omega))
    have I2 := I1.lset (f := (·.push u)) (its' := its2 ++ [u]) (t' := s.toks) upd_same e2 (by simp) (r2.append (.cons ru .nil)) (by rw [List.length_append, List.length_singleton, lt2]; omega)
    rw [upd_upd, ← tk] at I2
    refine ih (i + 1) _ (by omega) I2 ⟨f0, f1, f2, f3, f4, f5⟩ ?_
    exact st'.at fun o e => (Heap.get?_update_other _ _ fun z : q = it => hqt z).trans e
/-- len(o) as a hint, by an own __len__ -/
theorem hint_own {A : Around} {k1 : Nat} {a C f : Addr} {fd : FuncData} {ps : List Str} {sp : Sp} {dx : Addr} {fs : List (Str × V)} {H : Hp} {s : Shared} {Q : Bool → Shared → Prop} (sb : L2.Sub X k1 A.in1) (hm : Meth X.K C "__len__" f) (F : FnOk X.prog X.w X.K X.mg X.base (L2.CX X.prog X.w) k1 f fd ps sp) (hB : L2.Binds X.K fd ps [])
    (I : Inv X pins σ H s) (ha : H a = some (.ins C dx fs)) {W : Hp → Prop} (h : sp [.ref a] H (fun r H2 => ∃ n : Int, r = .int n ∧ 0 ≤ n ∧ n ≤ sizeLine ∧ W H2) (fun _ _ _ => False)) (hQ : ∀ H2 b s', W H2 → Inv X pins σ H2 s' → Q b s') :
    wpAny (model X.prog X.w) A (Builtin.List.listLengthHint (.ref a)) Q X.xe s := by
  obtain ⟨mA, J, _⟩ := ins_get I.hok ha
  obtain ⟨od, J, _⟩ := J.look
  obtain ⟨m, hF⟩ := I.fr
  have r2 : Vals [V.ref a] [Value.ref a] := .cons rfl .nil
  have big : (sizeLine : Int) < 2 ^ 63 := by decide
  unfold Builtin.List.listLengthHint
  refine wpAny_bind (wpAny_bind (J.type.here ((PySem.W.looks_findIn I.kIn hm.at_).here ?_)))
  refine PySem.W.KFB.if_not rfl ?_
  refine wp_if_pos rfl ?_
  refine wpAny_bind (wpAny_rule ?_)
  refine wpAny_bind (wpAny_attempt (PySem.W.len_K hF I.ok.mod.kin J hm.at_ hm.fn (wpAny_mono (run_sub (E := fun _ _ => False) sb F hB I r2 h) (fun u s' ⟨v, H', I', rv, n, e, n0, n1, hq⟩ => ?_) fun _ _ e => e.elim)))
  subst e
  obtain ⟨t, rfl⟩ := rv
  refine ⟨⟨n0, by omega⟩, ?_⟩
  show wpAny _ A (asInt? (.int n _) >>= _) _ _ _
  refine wpAny_bind (wpAny_pure ?_)
  refine PySem.W.KFB.if_not (notLongL (by omega)) ?_
  exact wpAny_pure (hQ H' _ _ hq (I'.tok _))
/-- iter(o), by an own __iter__ that is iter(self.F) -/
theorem own_iter {A : Around} {j : Nat} {a C t : Addr} {F : Str} {zs : List V} {dx : Addr} {fs : List (Str × V)} {H : Hp} {s : Shared} {Q : Value → Shared → Prop} {E : Value → Shared → Prop} (sb : L2.Sub X j A) (hM : ∀ base : Heap, MethAt X.prog X.w X.K X.mg base j C "__iter__" (spIter X.K base.objs.size F)) (I : Inv X pins σ H s) (ea : H a = some (.ins C dx fs)) (lf : fs.lookup F = some (.ref t)) (hC : Cls X.K C) (nA : NoAttr X.K C F) (hq : SqT X.K H t zs)
    (h : ∀ it s', H it = none → s.heap.objs.size ≤ it → Inv X pins σ (upd H it (ItT t it)) s' → Q (.ref it) s') : wpAny (model X.prog X.w) A (pyIter (.ref a)) Q E s := by
  obtain ⟨k1, f, fd, ps, hk, hm, FO, hb⟩ := hM (padH X.base s.heap.objs.size)
  obtain ⟨mA, J, _⟩ := ins_get I.hok ea
  obtain ⟨od, J, _⟩ := J.look
  obtain ⟨m, hF⟩ := I.fr
  refine PySem.W.owit_iter hF I.ok.mod.kin J hm.at_ hm.fn ?_
  have hsz : X.base.objs.size ≤ s.heap.objs.size := Nat.le_trans I.ok.bsz I.sz
  have esz : (padH X.base s.heap.objs.size).objs.size = s.heap.objs.size := padH_size hsz
  have hsp : spIter X.K (padH X.base s.heap.objs.size).objs.size F [.ref a] H (fun v H' => ∃ it, v = .ref it ∧ H it = none ∧ s.heap.objs.size ≤ it ∧ H' = upd H it (ItT t it)) (fun _ _ _ => False) :=
    ⟨a, C, dx, fs, t, zs, rfl, ea, lf, hC, nA, hq, fun it hit hn => ⟨it, rfl, hit, by rw [esz] at hn; exact hn, rfl⟩⟩
  have e0 := I.env0
  have e1 : Env0 X.prog X.w X.K X.mg (padH X.base s.heap.objs.size) A X.stack s H :=
    ⟨by rw [sb.fr]; exact e0.frames, padH_mod e0.mod, fun b o e => e0.bs b o (by rw [padH_get] at e; exact e), by rw [esz]; exact Nat.le_refl _, by
      have key : ∀ l : List Env, s.heap.FunFrames X.base l → s.heap.FunFrames (padH X.base s.heap.objs.size) l := fun l => by
        induction l with
        | nil => exact fun _ => trivial
        | cons e l ih => exact fun ⟨h1, ⟨L, ob, h2, h3, h4⟩, h5⟩ => ⟨h1, ⟨L, ob, h2, by rw [padH_get]; exact h3, h4⟩, ih h5⟩
      exact key _ e0.funs, e0.frf, e0.hok, e0.bare⟩
  have hl := FO.len _ _ _ _ hsp
  have r2 : Vals [V.ref a] [Value.ref a] := .cons rfl .nil
  refine wpAny_call (codeAny_mono (FO.run A X.stack s H ⟨[.ref a], []⟩ [.ref a] [.ref a] _ _ (sb.room.mono hk) e1 (by
    have := hb s [.ref a] I.kIn (by simpa using hl)
    simpa using this) r2 hsp) fun r s' hq' => ?_)
  cases r with
  | error e =>
    obtain ⟨_, _, _, _, _, _, _, _, _, _, _, _, z⟩ := hq'
    exact z.elim
  | ok fl =>
    cases fl with
    | next => exact False.elim hq'
    | brk => exact False.elim hq'
    | cont => exact False.elim hq'
    | ret u =>
      obtain ⟨v, H', I', rv, it, ev, hn, young, eH⟩ := I.after hq'
      subst ev
      obtain rfl : u = Value.ref it := rv
      subst eH
      have hi : (upd H it (ItT t it)) it = some (ItT t it) := upd_same
      have st : s'.heap.IsTupleIter it t 0 := (I'.hok it _ hi).1
      unfold PySem.W.OwitIt
      exact wpAny_specialOf (name := Str.ofString "__next__") st.typeIs PySem.F.slot_tuple_iterator_next.lookup (h it s' hn young I')
/-- list(o) -/
def rListOwn (X : Cx) (j : Nat) : List V → Hp → VK → Prop := fun xs H Q => ∃ a C dx fs t zs F spL, xs = [.ref a] ∧ H a = some (.ins C dx fs) ∧ fs.lookup F = some (.ref t) ∧ Cls X.K C ∧ NoAttr X.K C F ∧ SqT X.K H t zs ∧ zs.length ≤ sizeLine ∧
  (∀ base : Heap, MethAt X.prog X.w X.K X.mg base j C "__iter__" (spIter X.K base.objs.size F)) ∧ MethAt X.prog X.w X.K X.mg X.base j C "__len__" spL ∧
  ∀ q it, q ≠ it → H q = none → H it = none → spL [.ref a] (upd (upd H q (.lst [])) it (ItT t it)) (fun r H2 => ∃ n : Int, r = .int n ∧ 0 ≤ n ∧ n ≤ sizeLine ∧ H2 q = some (.lst []) ∧ H2 it = some (ItT t it) ∧ SqT X.K (ItX.dropH H2 it) t zs ∧ Q (.ref q) (upd (ItX.dropH H2 it) q (.lst zs))) (fun _ _ _ => False)
theorem cr_listOwn {j : Nat} (hc : X.calm = true) (hr : Room (j + 4) X.A) : CallR X (.type "list") (rListOwn X j) := by
  intro pins s σ H xs us Q I rv h
  obtain ⟨a, C, dx, fs, t, zs, F, spL, rfl, ha, lf, hC, nA, hT, hz, hM, ⟨k1, f, fd, ps, hk, hm, FL, hBL⟩, hL⟩ := h
  rw [Vals.ref1 rv]
  have sb2 : L2.Sub X (j + 2) X.A.in1.in1 := L2.Sub.in1 (L2.Sub.in1 (⟨hr, rfl⟩ : L2.Sub X (j + 4) X.A))
  refine callType_codes (Q₁ := fun obj s₁ => obj = .ref s.heap.objs.size ∧ s₁ = { s with heap := s.heap.push { cls := .type "list", data := .seq #[] } }) PySem.F.called_list (PySem.F.typeCall_list_1 _) PySem.F.entry_list_init
    (code_list_new _ ⟨rfl, rfl⟩) fun obj s₁ h₁ => ?_
  obtain ⟨rfl, rfl⟩ := h₁
  have hS : (s.heap.push { cls := .type "list", data := .seq #[] }).get? s.heap.objs.size = some { cls := .type "list", data := .seq #[] } := Heap.get?_push_size _ rfl
  refine ⟨⟨_, hS, rfl⟩, PySem.F.args_list_init_2 _ _, ?_⟩
  have fr : H s.heap.objs.size = none := I.hok.fresh (Nat.le_refl _)
  have I1 : Inv X pins σ (upd H s.heap.objs.size (.lst [])) { s with heap := s.heap.push { cls := .type "list", data := .seq #[] } } := I.lnew (its := []) (t' := s.toks) .nil (Nat.zero_le _)
  show wpAny _ _ (do let old ← Builtin.List.listItems (.ref s.heap.objs.size); Builtin.List.listUpdate (.ref s.heap.objs.size) (fun _ => #[]); letGo old.toList.reverse; Builtin.List.listExtendWith (.ref s.heap.objs.size) (.ref a) .none) _ _ _
  refine wpAny_bind (m := Builtin.List.listItems (.ref s.heap.objs.size)) ?_
  unfold Builtin.List.listItems
  refine wpAny_bind (wpAny_seqItems hS rfl (wpAny_pure ?_))
  refine wpAny_bind (m := Builtin.List.listUpdate (.ref s.heap.objs.size) (fun _ => #[])) (wpAny_updateSeq hS rfl ?_)
  have I2 := I1.lset (f := fun _ => #[]) (its := []) (its' := []) (ys := []) (t' := s.toks) upd_same hS rfl .nil (Nat.zero_le _)
  rw [upd_upd] at I2
  refine wpAny_bind (m := letGo _) (wpAny_letGo ?_)
  have qa : s.heap.objs.size ≠ a := fun z => by rw [z, ha] at fr; cases fr
  have ha2 : upd H s.heap.objs.size (.lst []) a = some (.ins C dx fs) := by rw [upd_ne (Ne.symm qa)]; exact ha
  have hT2 : SqT X.K (upd H s.heap.objs.size (.lst [])) t zs := by
    have : Same H (upd H s.heap.objs.size (.lst [])) := fun b u e => by rw [upd_ne (ne_of_none e fr)]; exact e
    exact same_t this hT
  generalize hq : s.heap.objs.size = q at *
  obtain ⟨mA, J, _⟩ := ins_get I2.hok ha2
  obtain ⟨od, J, _⟩ := J.look
  unfold Builtin.List.listExtendWith
  refine wpAny_bind (J.type.here ?_)
  have h1 : Builtin.List.listSameRef (.ref q) (.ref a) = false := by simp [Builtin.List.listSameRef, qa]
  have h2 : (Value.ref C == Value.type "list") = false := rfl
  have h3 : (Value.ref C == Value.type "tuple") = false := rfl
  simp only [h1, h2, h3, Bool.or_false, Bool.false_eq_true, if_false]
  refine wpAny_bind (own_iter (sb2.mono (by omega)) hM I2 ha2 lf hC nA hT2 fun it s1 hit young I3 => ?_)
  have qi : q ≠ it := fun z => by rw [← z, upd_same] at hit; cases hit
  have hit0 : H it = none := by rwa [upd_ne (Ne.symm qi)] at hit
  have ha3 : upd (upd H q (.lst [])) it (ItT t it) a = some (.ins C dx fs) := by rw [upd_ne (ne_of_none ha2 hit)]; exact ha2
  have sb3 : L2.Sub X k1 X.A.in1.in1.in1 := (L2.Sub.in1 sb2).mono (by omega)
  refine wpAny_bind (wpAny_holding (hint_own sb3 hm FL hBL I3 ha3 (hL q it qi fr hit0) fun H2 b s2 ⟨e1, e2, e3, e4⟩ I4 => ?_))
  have D1 := ItX.inv_drop I4 e2
  have fp : FpOk X pins (ItX.dropH H2 it) it := I2.fpOk young ItX.dropH_same
  have dq : ItX.dropH H2 it q = some (.lst []) := by rw [ItX.dropH_ne qi]; exact e1
  have st : s2.heap.IsTupleIter it t 0 := (I4.hok it _ e2).1
  have hh : X.A.in1.in1.handled = none := by simpa using I.ok.hd hc
  have go : ∀ s3, Inv X pins σ (upd (ItX.dropH H2 it) q (.lst [])) s3 → s3.heap.IsTupleIter it t 0 → codeAny (model X.prog X.w) X.A.in1 (.builtin "list.extend.loop" ⟨[.ref q, .ref it, .none], []⟩) (wants (fun r s₂ => r = .none ∧ EP X pins σ Q (.ref q) s₂) X.xe) s3 := fun s3 J3 t3 =>
    ext_tup hh qi hz e3 ⟨_, dq⟩ (fun s4 J4 => ⟨rfl, .ref q, _, J4, rfl, e4⟩) zs.length 0 s3 (by omega) (by rw [List.take_zero]; exact J3) fp t3
  refine wpAny_ite_split (fun _ => ?_) (fun _ => wpAny_pure ⟨plainId_quiet PySem.F.plain_extend_loop _, go _ ?_ st⟩)
  · refine wpAny_bind (wpAny_rule (wpAny_bind ?_))
    unfold Builtin.List.listTouch
    obtain ⟨z3, i3, k3, r3, hl3, g3⟩ := D1.lstM dq
    cases r3
    refine wpAny_bind (m := Builtin.List.listUpdate (.ref q) (·.push .none)) (wpAny_updateSeq g3 rfl ?_)
    have J2 := D1.lset (f := (·.push Value.none)) (its' := [Value.none]) (ys := [.non]) (t' := s2.toks) dq g3 (by simp) (.cons rfl .nil) (by decide)
    obtain ⟨z4, i4, k4, r4, hl4, g4⟩ := J2.lstM upd_same
    obtain ⟨u4, rfl, ru4⟩ := r4.one
    have J3 := J2.lset (f := (·.pop)) (its := [u4]) (its' := []) (ys := []) (t' := s2.toks) upd_same g4 (by rfl) .nil (Nat.zero_le _)
    rw [upd_upd] at J3
    refine wpAny_updateSeq g4 rfl (wpAny_pure ⟨plainId_quiet PySem.F.plain_extend_loop _, go _ J3 ?_⟩)
    exact (st.at fun o e => (Heap.get?_update_other _ _ fun z : q = it => qi z).trans e).at fun o e => (Heap.get?_update_other _ _ fun z : q = it => qi z).trans e
  · have : upd (ItX.dropH H2 it) q (.lst []) = ItX.dropH H2 it := by
      funext b
      by_cases z : b = q
      · rw [z, upd_same, dq]
      · rw [upd_ne z]
    rw [this]
    exact D1
end
theorem dropH_ne' {H : Hp} {a b : Addr} (h : b ≠ a) : ItX.dropH H a b = H b := ItX.dropH_ne h
section
variable {K : PySem.W.Frag} {B : Bs} {σ : L2.St} {G H : Hp} {Γ : Gm}
/-- a cell forgotten -/
theorem EvP.drop {G0 H0 : Hp} {Γ0 : Gm} (p : EvP K B σ G0 H0 Γ0 G H Γ) {D : Addr} (h0 : H0 D = none) (g : G D = none) (n : ∀ (i : Nat) c, Γ.sl[i]? = some (.ow c) → σ[i]? ≠ some (some (.ref D))) (bh : B.H D = none) (na : D ∉ Γ.as) :
    EvP K B σ G0 H0 Γ0 G (ItX.dropH H D) Γ := by
  have e := p.env
  refine ⟨⟨e.len, fun a u q => ?_, e.g0, e.gn, fun a u q nn mm => ?_, e.im, fun i c q => ?_, e.sep, e.bo, e.wd.step (Same.refl _) (fun a m g => g) (fun a m u q => by rw [dropH_ne' fun z => na (by rw [← z]; exact m)]; exact q) rfl rfl (fun _ _ h => ⟨h, fun _ h => h⟩) e.wd.sp rfl fun a m b => .inl b⟩, p.gg, p.gn, fun a u q nn mm => ?_, p.sh, p.as⟩
  · rw [dropH_ne' (ne_of_none q g)]; exact e.gh a u q
  · rw [dropH_ne' (ne_of_none q bh)]; exact e.fr a u q nn mm
  · obtain ⟨l, o', q1, q2, q3, q4, q5⟩ := e.ow i c q
    have ne : l ≠ D := fun z => n i c q (by rw [q1, z])
    exact ⟨l, o', q1, q2, by rw [dropH_ne' ne]; exact q3, q4, q5⟩
  · rw [dropH_ne' (ne_of_none q h0)]; exact p.hh a u q nn mm
end
/-- list(o) -/
def tListM (cs : List Str) (F : Str) (spl : Str → Option SpD) (T : TF) : TOD := fun R Γ Φ => T R Γ fun d Γ1 => match d with
  | .obj c fs => c ∈ cs ∧ match fs.lookup F, spl c with
    | some (.tup ds), some s => s [.im (.obj c fs)] (fun r _ => match r with
      | .im (.int n) => 0 ≤ n ∧ n ≤ sizeLine ∧ Φ (.lst ds) Γ1
      | _ => False) (fun _ _ _ => False)
    | _, _ => False
  | _ => False
section
variable {X : Cx} {tk : Tk} {e : Expr} {T : TF} {j : Nat} {p pos : Pos}
theorem po_listM {cs : List Str} {F : Str} {sps : Str → Option SpD} (I : ItOf X.prog X.w X.K X.mg j cs F) (M : ∀ c s, sps c = some s → MethV X.prog X.w X.K X.mg X.base j c "__len__" 1 s) (hr : Room (j + 4) X.A) (hc : X.calm = true) (hm : X.mg "list" = none) (he : PF X tk e T) (hg : Gl X "list" := by rfl)
    (hs : starEach [e] X.env = (false, eval e X.env) :: starEach [] X.env := by rfl) : PFO X tk (.Call (.Name "list" p) [e] [] pos) (tListM cs F sps T) :=
  pe_imp (pe_callTy (cr_listOwn hc hr) hg hm (by decide +kernel) (pa_cons he pa_nil hs) (by decide) (by decide) hs rfl) fun σ H Q ⟨B, R, Γ, G, Φ, t, en, h, k⟩ => ⟨B, R, Γ, G, _, t, en, h, fun v G1 H1 Γ1 d p1 r1 h1 => by
    cases r1 with
    | obj hp rf =>
      obtain ⟨hcs, h2⟩ := h1
      obtain ⟨c1, c2, c3⟩ := I _ hcs
      split at h2
      · rename_i ds s q qs
        obtain ⟨v, lf, rv⟩ := rf.look q
        obtain ⟨m1, m2⟩ := M _ s qs
        cases rv with
        | @tup tp txs _ ht l rr =>
          have e1 := p1.env
          refine ⟨_, _, _, _, _, _, F, _, rfl, e1.gh _ _ hp, lf, c1, c2, same_t e1.gh ht, l, c3, m2, fun q it qi hq hit => ?_⟩
          have a1 := e1.cell (o := .lst []) hq
          have hit1 : upd H1 q (.lst []) it = none := by rw [upd_ne (Ne.symm qi)]; exact hit
          have a2 := a1.trans (a1.env.cell (o := ItT tp it) hit1)
          refine call_im0 (ds := [.obj _ _]) (Φ := fun r Γ => match r with
            | .im (.int n) => 0 ≤ n ∧ n ≤ sizeLine ∧ Φ (.lst ds) Γ
            | _ => False) a2.env (.cons (Rep.obj hp rf) .nil) ⟨rfl, h2⟩ fun v r G' H' p3 qr hr => ?_
          split at hr
          · rename_i n
            cases qr
            have b2 := a2.trans p3
            have gq : G1 q = none := e1.gh.free hq
            have gi : G1 it = none := e1.gh.free hit
            have Hq : H' q = some (.lst []) := p3.hh _ _ (by rw [upd_ne qi]; exact upd_same) (e1.noOw hq) (e1.wd.out hq)
            have Hi : H' it = some (ItT tp it) := p3.hh _ _ upd_same (e1.noOw hit) (e1.wd.out hit)
            have Gq : G' q = none := by
              cases z : G' q with
              | none => rfl
              | some o => rcases p3.gn q o z with y | y
                          · rw [gq] at y; cases y
                          · rw [upd_ne qi, upd_same] at y; cases y
            have Gi : G' it = none := by
              cases z : G' it with
              | none => rfl
              | some o => rcases p3.gn it o z with y | y
                          · rw [gi] at y; cases y
                          · rw [upd_same] at y; cases y
            have b3 := b2.drop hit Gi (e1.noOw hit) (e1.bhNone hit) (e1.wd.out hit)
            have sm : Same G1 (ItX.dropH H' it) := p3.gg.trans b3.env.gh
            refine ⟨n, rfl, hr.1, hr.2.1, Hq, Hi, same_t sm ht, ?_⟩
            have b4 := b3.poke (o := .lst txs) hq Gq (e1.noOw hq) (e1.bhNone hq) (e1.wd.out hq)
            exact k (.ref q) G' _ Γ1 (.lst ds) (p1.trans b4) ⟨q, _, rfl, Gq, upd_same, ⟨_, rfl, l, rr.mono p3.gg⟩, p1.back hq, e1.wd.out hq⟩ hr.2.2
          · exact hr.elim
      · exact h2.elim
    | _ => exact h1.elim⟩
end
/-! ### bool(x) of data -/
section
variable {X : Cx}
theorem cr_boolT : CallR X (.type "bool") (fun xs H Q => ∃ (a : Addr) (zs : List V), xs = [.ref a] ∧ SqT X.K H a zs ∧ Q (.bl (!zs.isEmpty)) H) := by
  intro pins s σ H xs us Q I r h
  obtain ⟨a, zs, rfl, hq, q⟩ := h
  rw [Vals.ref1 r]
  obtain ⟨its, rv, pl, hz⟩ := I.tuple hq
  have hl := line63
  have hlen := rv.length
  have e : (!its.toArray.isEmpty) = !zs.isEmpty := by rw [← isEmpty_of rv]
  refine call_boolX (truthy_tuple (show IsTup s.heap a its.toArray from pl) (by simp only [List.size_toArray]; omega) ?_)
  rw [e]
  exact ⟨.bl (!zs.isEmpty), H, I.tok _, rfl, q⟩
end
def dBool : List D → (D → Prop) → Prop
  | [.tup xs], k => k (.bl (!xs.isEmpty))
  | _, _ => False
section
variable {X : Cx} {tk : Tk} {e : Expr} {U : TAD} {K : PySem.W.Frag} {p pos : Pos}
theorem cd_bool : CallD K (fun xs H Q => ∃ (a : Addr) (zs : List V), xs = [.ref a] ∧ SqT K H a zs ∧ Q (.bl (!zs.isEmpty)) H) dBool := by
  intro G H xs as k Q s r h o
  unfold dBool at h
  split at h
  · obtain ⟨v, rfl, r1⟩ := reps1 r
    cases r1 with
    | tup hp l rr =>
      refine ⟨_, _, rfl, same_t s hp, ?_⟩
      have e : ∀ {vs : List V} {ds : List D}, Reps K G vs ds → vs.isEmpty = ds.isEmpty := fun {vs ds} q => by cases q <;> rfl
      rw [e rr]
      exact o.here s (.bl _) h
  · exact h.elim
theorem pf_bool (hm : X.mg "bool" = none) (ha : PFA X tk [e] U) (hg : Gl X "bool" := by rfl) (he : starEach [e] X.env = (false, eval e X.env) :: starEach [] X.env := by rfl) : PF X tk (.Call (.Name "bool" p) [e] [] pos) (tCBD dBool U) :=
  pf_callTy cr_boolT cd_bool hm ha hg (by decide +kernel) (by decide) (by decide) he
end
end Vl

namespace Vl
open PySem PySem.Spec PyProof.Rows L2

/-! ### rules for the readings -/
def isOwB : AD → Bool
  | .ow _ => true
  | .im _ => false
def cnt : List AD → Nat
  | [] => 0
  | .ow _ :: as => cnt as + 1
  | .im _ :: as => cnt as
theorem cnt_zero : ∀ {as : List AD} {i : Nat} {c : Cl}, cnt as = 0 → as[i]? = some (.ow c) → False
  | [], i, c, _, h => by cases h
  | .ow _ :: as, i, c, e, _ => by cases e
  | .im d :: as, 0, c, e, h => by cases h
  | .im d :: as, i + 1, c, e, h => cnt_zero (as := as) (i := i) (c := c) e (by simpa using h)
theorem oneOw_cnt : ∀ {as : List AD}, cnt as ≤ 1 → oneOw as
  | [], _, i, j, c, c', h, _ => by cases h
  | .im d :: as, e, i, j, c, c', h1, h2 => by
    cases i with
    | zero => cases h1
    | succ i => cases j with
      | zero => cases h2
      | succ j => exact congrArg (· + 1) (oneOw_cnt (as := as) e i j c c' (by simpa using h1) (by simpa using h2))
  | .ow c0 :: as, e, i, j, c, c', h1, h2 => by
    have e0 : cnt as = 0 := by
      unfold cnt at e
      omega
    cases i with
    | zero => cases j with
      | zero => rfl
      | succ j => exact (cnt_zero (as := as) (i := j) (c := c') e0 (by simpa using h2)).elim
    | succ i => exact (cnt_zero (as := as) (i := i) (c := c) e0 (by simpa using h1)).elim
/-- a def's promise -/
theorem s_body {n : Nat} {bs : Option Nat} {as : List AD} {Φ : RD → Option Cl → Prop} {R : Str → Option (List (Str × Vl.D)) → Option Cl → Prop} {T : TSD} {Γ : Gm} (h1 : Nat.ble as.length n = true) (h2 : bsOf as = bs) (h3 : Nat.ble (cnt as) 1 = true) (hΓ : startG n as = Γ)
    (h : T (fun c pl Γ => R c pl (bcOf bs Γ)) { nx := fun Γ => Φ (.im .non) (bcOf bs Γ), rt := fun r Γ => r.nwp fun r => Φ r (bcOf bs Γ), bk := fun _ => False, ct := fun _ => False } Γ) : bodySp n bs T as Φ R := by
  subst hΓ
  exact ⟨Nat.le_of_ble_eq_true h1, h2, oneOw_cnt (Nat.le_of_ble_eq_true h3), h⟩
theorem s_bodyE {n : Nat} {bs : Option Nat} {as : List AD} {Φ : RD → Option Cl → Prop} {R : Str → Option (List (Str × Vl.D)) → Option Cl → Prop} {T : TSD} {Γ : Gm} (h1 : Nat.ble as.length n = true) (h2 : bsOf as = bs) (h3 : Nat.ble (cnt as) 1 = true) (hΓ : startG n as = Γ) :
    bodySp n bs T as Φ R = T (fun c pl Γ => R c pl (bcOf bs Γ)) { nx := fun Γ => Φ (.im .non) (bcOf bs Γ), rt := fun r Γ => r.nwp fun r => Φ r (bcOf bs Γ), bk := fun _ => False, ct := fun _ => False } Γ := by
  subst hΓ
  exact propext ⟨fun ⟨_, _, _, h⟩ => h, fun h => ⟨Nat.le_of_ble_eq_true h1, h2, oneOw_cnt (Nat.le_of_ble_eq_true h3), h⟩⟩
theorem ite_b {b : Bool} {P Q : Prop} (h1 : b = true → P) (h2 : b = false → Q) : if b = true then P else Q := by
  cases b with
  | true => exact iteT (h1 rfl)
  | false => exact iteF (h2 rfl)
/-! ### a branch, kept shut -/
def ifK (b : Bool) (T U : TSD) (R : ExD) (D : EndsD) (Γ : Gm) : Prop := if b = true then T R D Γ else U R D Γ
theorem ifK_i {b : Bool} {T U : TSD} {R : ExD} {D : EndsD} {Γ : Gm} (h1 : b = true → T R D Γ) (h2 : b = false → U R D Γ) : ifK b T U R D Γ := ite_b h1 h2
def andK (b : Bool) (B : TTD) (R : ExD) (Γ : Gm) (Φ : Bool → Gm → Prop) : Prop := if b = true then B R Γ Φ else Φ false Γ
def orK (b : Bool) (B : TTD) (R : ExD) (Γ : Gm) (Φ : Bool → Gm → Prop) : Prop := if b = true then Φ true Γ else B R Γ Φ
def andE (b : Bool) (B : TF) (R : ExD) (Γ : Gm) (Φ : D → Gm → Prop) : Prop := if b = true then B R Γ Φ else Φ (.bl false) Γ
def orE (b : Bool) (B : TF) (R : ExD) (Γ : Gm) (Φ : D → Gm → Prop) : Prop := if b = true then Φ (.bl true) Γ else B R Γ Φ
def ifE (b : Bool) (B C : TF) (R : ExD) (Γ : Gm) (Φ : D → Gm → Prop) : Prop := if b = true then B R Γ Φ else C R Γ Φ
section
variable {b c : Bool} {T U : TSD} {A B C : TTD} {E F : TF} {R : ExD} {D : EndsD} {Γ : Gm} {Φ : Bool → Gm → Prop} {Ψ : Vl.D → Gm → Prop}
theorem andK_i (h1 : b = true → B R Γ Φ) (h2 : b = false → Φ false Γ) : andK b B R Γ Φ := ite_b h1 h2
theorem orK_i (h1 : b = true → Φ true Γ) (h2 : b = false → B R Γ Φ) : orK b B R Γ Φ := ite_b h1 h2
/-- the second test as a value -/
theorem andK_v (c : Bool) (h : b = true → ∀ Ψ : Bool → Gm → Prop, Ψ c Γ → B R Γ Ψ) (k : Φ (b && c) Γ) : andK b B R Γ Φ := ite_b (fun e => h e _ (by subst e; exact k)) fun e => by subst e; exact k
theorem orK_v (c : Bool) (h : b = false → ∀ Ψ : Bool → Gm → Prop, Ψ c Γ → B R Γ Ψ) (k : Φ (b || c) Γ) : orK b B R Γ Φ := ite_b (fun e => by subst e; exact k) fun e => h e _ (by subst e; exact k)
theorem andE_i (h1 : b = true → E R Γ Ψ) (h2 : b = false → Ψ (.bl false) Γ) : andE b E R Γ Ψ := ite_b h1 h2
theorem orE_i (h1 : b = true → Ψ (.bl true) Γ) (h2 : b = false → E R Γ Ψ) : orE b E R Γ Ψ := ite_b h1 h2
theorem andE_v (c : Bool) (h : b = true → ∀ Ψ : Vl.D → Gm → Prop, Ψ (.bl c) Γ → E R Γ Ψ) (k : Ψ (.bl (b && c)) Γ) : andE b E R Γ Ψ := ite_b (fun e => h e _ (by subst e; exact k)) fun e => by subst e; exact k
theorem orE_v (c : Bool) (h : b = false → ∀ Ψ : Vl.D → Gm → Prop, Ψ (.bl c) Γ → E R Γ Ψ) (k : Ψ (.bl (b || c)) Γ) : orE b E R Γ Ψ := ite_b (fun e => by subst e; exact k) fun e => h e _ (by subst e; exact k)
theorem ifE_i (h1 : b = true → E R Γ Ψ) (h2 : b = false → F R Γ Ψ) : ifE b E F R Γ Ψ := ite_b h1 h2
/-- branches that are known -/
theorem kb : (∀ (T U : TSD) (R : ExD) (D : EndsD) (Γ : Gm), (ifK true T U R D Γ = T R D Γ) ∧ (ifK false T U R D Γ = U R D Γ)) ∧ (∀ (B : TTD) (R : ExD) (Γ : Gm) (Φ : Bool → Gm → Prop), (andK true B R Γ Φ = B R Γ Φ) ∧ (andK false B R Γ Φ = Φ false Γ) ∧ (orK true B R Γ Φ = Φ true Γ) ∧ (orK false B R Γ Φ = B R Γ Φ)) ∧
    (∀ (E : TF) (R : ExD) (Γ : Gm) (Ψ : Vl.D → Gm → Prop), (andE true E R Γ Ψ = E R Γ Ψ) ∧ (andE false E R Γ Ψ = Ψ (.bl false) Γ) ∧ (orE true E R Γ Ψ = Ψ (.bl true) Γ) ∧ (orE false E R Γ Ψ = E R Γ Ψ)) ∧ (∀ (E F : TF) (R : ExD) (Γ : Gm) (Ψ : Vl.D → Gm → Prop), (ifE true E F R Γ Ψ = E R Γ Ψ) ∧ (ifE false E F R Γ Ψ = F R Γ Ψ)) :=
  ⟨fun _ _ _ _ _ => ⟨if_pos rfl, if_neg (by decide)⟩, fun _ _ _ _ => ⟨if_pos rfl, if_neg (by decide), if_pos rfl, if_neg (by decide)⟩, fun _ _ _ _ => ⟨if_pos rfl, if_neg (by decide), if_pos rfl, if_neg (by decide)⟩, fun _ _ _ _ _ => ⟨if_pos rfl, if_neg (by decide)⟩⟩
end
/-! ### statements -/
section
variable {R : ExD} {Γ : Gm} {D : EndsD}
theorem st :
    (∀ T U : TSD, tSeqD T U R D Γ = T R ⟨U R D, D.rt, D.bk, D.ct⟩ Γ) ∧
    (∀ (i : Nat) (Te : TF), tSetD i Te R D Γ = Te R Γ fun d Γ' => D.nx (Γ'.set i (.im d))) ∧
    (∀ (i : Nat) (To : TOD), tSetO i To R D Γ = To R Γ fun c Γ' => D.nx (Γ'.set i (.ow c))) ∧
    (tNextD R D Γ = D.nx Γ) ∧ (tBreakD R D Γ = D.bk Γ) ∧ (tContD R D Γ = D.ct Γ) ∧
    (∀ Te : TF, tRetD Te R D Γ = Te R Γ fun d Γ' => D.rt (.im d) Γ') ∧ (∀ To : TOD, tRetO To R D Γ = To R Γ fun c Γ' => D.rt (.fr c) Γ') ∧ (tRetND R D Γ = D.rt (.im .non) Γ) ∧
    (∀ i : Nat, tRetV i R D Γ = match Γ.sl[i]? with
      | some (.ow c) => D.rt (.fr c) Γ
      | _ => False) ∧
    (∀ Te : TF, tDropD Te R D Γ = Te R Γ fun _ Γ' => D.nx Γ') ∧
    (∀ (c : TTD) (T U : TSD), tIfSD c T U R D Γ = c R Γ fun b Γ' => ifK b T U R D Γ') ∧
    (∀ (Te : TF) (g : TGD), tAsgD Te g R D Γ = Te R Γ fun d Γ' => g d Γ' D.nx) ∧
    (∀ (it : TAD) (g : TGD) (T : TSD) (vs : List Nat), tForD it g T vs R D Γ = it R Γ fun ds Γ1 => forD R g T D.rt D.nx vs ds (wipeD Γ1 vs)) ∧
    (∀ c : Str, tRaiseD c R D Γ = R c none Γ) ∧
    (∀ (i : Nat) (T : TSD), tFrz i T R D Γ = T R D (frzAt i Γ)) ∧
    (∀ (vs : List Nat) (T : TSD), tDull vs T R D Γ = T R D (wipeD Γ vs)) ∧
    (∀ (cs : List Str) (i : Nat) (f : Str) (Te : TF), tSetFld cs i f Te R D Γ = Te R Γ fun d Γ' => match Γ'.sl[i]? with
      | some (.ow (.ins c fs)) => c ∈ cs ∧ fs.length < 1000 ∧ D.nx (Γ'.set i (.ow (.ins c (putD f d fs))))
      | _ => False) :=
  ⟨fun _ _ => rfl, fun _ _ => rfl, fun _ _ => rfl, rfl, rfl, rfl, fun _ => rfl, fun _ => rfl, rfl, fun _ => rfl, fun _ => rfl, fun _ _ _ => rfl, fun _ _ => rfl, fun _ _ _ _ => rfl, fun _ => rfl, fun _ _ => rfl, fun _ _ => rfl, fun _ _ _ _ => rfl⟩
end
/-! ### equations of the readings, for simp -/
section
variable {R : ExD} {Γ : Gm}
theorem rd :
    (∀ (d : D) (Φ : D → Gm → Prop), tCD d R Γ Φ = Φ d Γ) ∧
    (∀ (i : Nat) (Φ : D → Gm → Prop), tVarD i R Γ Φ = match Γ.sl[i]? with
      | some (.im d) => Φ d Γ
      | _ => False) ∧
    (∀ (f : D → D → (D → Prop) → Prop) (A B : TF) (Φ : D → Gm → Prop), tBin f A B R Γ Φ = A R Γ fun a Γ1 => B R Γ1 fun b Γ2 => f a b fun d => Φ d Γ2) ∧
    (∀ (f : D → D → (D → Prop) → Prop) (A B : TF) (Φ : Bool → Gm → Prop), tBinT f A B R Γ Φ = A R Γ fun a Γ1 => B R Γ1 fun b Γ2 => f a b fun d => match d with
      | .bl c => Φ c Γ2
      | _ => False) ∧
    (∀ (A : TF) (Φ : Bool → Gm → Prop), tTru A R Γ Φ = A R Γ fun d Γ' => d.truth fun b => Φ b Γ') ∧
    (∀ (A B : TTD) (Φ : Bool → Gm → Prop), tAndD A B R Γ Φ = A R Γ fun c Γ' => andK c B R Γ' Φ) ∧
    (∀ (A B : TTD) (Φ : Bool → Gm → Prop), tOrD A B R Γ Φ = A R Γ fun c Γ' => orK c B R Γ' Φ) ∧
    (∀ (A : TTD) (Φ : Bool → Gm → Prop), tNotD A R Γ Φ = A R Γ fun c Γ' => Φ (!c) Γ') ∧
    (∀ (A B : TF) (Φ : D → Gm → Prop), tAndV' A B R Γ Φ = A R Γ fun d Γ' => d.asBl fun c => andE c B R Γ' Φ) ∧
    (∀ (A B : TF) (Φ : D → Gm → Prop), tOrV' A B R Γ Φ = A R Γ fun d Γ' => d.asBl fun c => orE c B R Γ' Φ) ∧
    (∀ (A : TF) (Φ : D → Gm → Prop), tNotV' A R Γ Φ = A R Γ fun d Γ' => d.asBl fun c => Φ (.bl (!c)) Γ') ∧
    (∀ (A : TTD) (B C : TF) (Φ : D → Gm → Prop), tIfD A B C R Γ Φ = A R Γ fun c Γ' => ifE c B C R Γ' Φ) ∧
    (∀ (Φ : List D → Gm → Prop), tNilD R Γ Φ = Φ [] Γ) ∧
    (∀ (A : TF) (B : TAD) (Φ : List D → Gm → Prop), tConsD A B R Γ Φ = A R Γ fun d Γ1 => B R Γ1 fun ds Γ2 => Φ (d :: ds) Γ2) ∧
    (∀ (A : TAD) (Φ : D → Gm → Prop), tTupD A R Γ Φ = A R Γ fun ds Γ' => ds.length ≤ sizeLine ∧ Φ (.tup ds) Γ') ∧
    (∀ (A : TAD) (Φ : Cl → Gm → Prop), tLstO A R Γ Φ = A R Γ fun ds Γ' => ds.length ≤ sizeLine ∧ Φ (.lst ds) Γ') ∧
    (∀ (A : TOD) (Φ : D → Gm → Prop), tFz A R Γ Φ = A R Γ fun c Γ' => Φ c.d Γ') ∧
    (∀ (f : List D → (D → Prop) → Prop) (A : TAD) (Φ : D → Gm → Prop), tCBD f A R Γ Φ = A R Γ fun ds Γ' => f ds fun d => Φ d Γ') ∧
    (∀ (f : D → (D → Prop) → Prop) (A : TF) (Φ : D → Gm → Prop), tUnD f A R Γ Φ = A R Γ fun d Γ' => f d fun r => Φ r Γ') ∧
    (∀ (Φ : Cl → Gm → Prop), tDictO R Γ Φ = Φ (.dct []) Γ) ∧
    (∀ (C : String) (A : TF) (Φ : D → Gm → Prop), tIsi C A R Γ Φ = A R Γ fun d Γ' => dIsi C d fun r => Φ r Γ') ∧
    (∀ (Φ : Option Int → Gm → Prop), tNoPartD R Γ Φ = Φ none Γ) ∧
    (∀ (A : TF) (Φ : Option Int → Gm → Prop), tPartD A R Γ Φ = A R Γ fun d Γ' => d.asInt fun i => Φ (some i) Γ') ∧
    (∀ (A : TF) (B C : TPD) (Φ : D → Gm → Prop), tSlD A B C R Γ Φ = A R Γ fun d Γ1 => B R Γ1 fun lo Γ2 => C R Γ2 fun hi Γ3 => dSl d lo hi fun r => Φ r Γ3) ∧
    (∀ (Φ : List BD → Gm → Prop), tNilB R Γ Φ = Φ [] Γ) ∧
    (∀ (A : TF) (B : TBD) (Φ : List BD → Gm → Prop), tImB A B R Γ Φ = A R Γ fun d Γ1 => B R Γ1 fun bs Γ2 => Φ (.im d :: bs) Γ2) :=
  ⟨fun _ _ => rfl, fun _ _ => rfl, fun _ _ _ _ => rfl, fun _ _ _ _ => rfl, fun _ _ => rfl, fun _ _ _ => rfl, fun _ _ _ => rfl, fun _ _ => rfl, fun _ _ _ => rfl, fun _ _ _ => rfl, fun _ _ => rfl,
   fun _ _ _ _ => rfl, fun _ => rfl, fun _ _ _ => rfl, fun _ _ => rfl, fun _ _ => rfl, fun _ _ => rfl, fun _ _ _ => rfl, fun _ _ _ => rfl, fun _ => rfl, fun _ _ _ => rfl, fun _ => rfl, fun _ _ => rfl, fun _ _ _ _ => rfl, fun _ => rfl, fun _ _ _ => rfl⟩
end
/-- .. of the values -/
theorem dv (k : D → Prop) :
    (∀ g (i j : Int), dI g (.int i) (.int j) k = k (.int (g i j))) ∧
    (∀ C g (i j : Int), dIC C g (.int i) (.int j) k = (C i j ∧ k (.int (g i j)))) ∧
    (∀ g (i j : Int), dB g (.int i) (.int j) k = k (.bl (g i j))) ∧
    (∀ (i j : Int), dAdd (.int i) (.int j) k = k (.int (i + j))) ∧
    (∀ (i j : Str), dAdd (.str i) (.str j) k = (i.length + j.length ≤ sizeLine ∧ k (.str (i ++ j)))) ∧
    (∀ (xs ys : List D), dAdd (.lst xs) (.lst ys) k = (xs.length + ys.length ≤ sizeLine ∧ k (.lst (xs ++ ys)))) ∧
    (∀ (xs ys : List D), dAdd (.tup xs) (.tup ys) k = (xs.length + ys.length ≤ sizeLine ∧ k (.tup (xs ++ ys)))) ∧
    (∀ (i j : Int), dMul (.int i) (.int j) k = (CMul i j ∧ k (.int (i * j)))) ∧
    (∀ (i : Int), dAbs [.int i] k = k (.int (if i < 0 then -i else i))) ∧
    (∀ (i : Int), dInt [.int i] k = k (.int i)) ∧
    (∀ (b : Bool), dInt [.bl b] k = k (.int (if b then 1 else 0))) ∧
    (∀ (i j : Int), dMin2 [.int i, .int j] k = k (.int (if j < i then j else i))) ∧
    (∀ (i j : Int), dMax2 [.int i, .int j] k = k (.int (if j > i then j else i))) ∧
    (∀ (i : Int), dNeg (.int i) k = k (.int (-i))) ∧
    (∀ (xs : List D), dLen [.tup xs] k = k (.int xs.length)) ∧
    (∀ (xs : List D), dLen [.lst xs] k = k (.int xs.length)) ∧
    (∀ (xs : List D), dLen [.ro xs] k = k (.int xs.length)) ∧
    (∀ (z : Str), dLen [.str z] k = (z.length ≤ sizeLine ∧ k (.int z.length))) ∧
    (∀ (ds : List D), dLenL ds k = k (.int ds.length)) ∧
    (∀ (ds : List D), dTupL ds k = k (.tup ds)) ∧
    (∀ (xs : List D), dTupleOf [.tup xs] k = k (.tup xs)) ∧
    (∀ (xs : List D), dTupleOf [.lst xs] k = k (.tup xs)) ∧
    (∀ (xs : List D) (lo hi : Option Int), dSl (.lst xs) lo hi k = k (.lst (cutD xs lo hi))) ∧
    (∀ (xs : List D) (lo hi : Option Int), dSl (.tup xs) lo hi k = k (.tup (cutD xs lo hi))) ∧
    (∀ (neg : Bool) (a b : D), dEq neg a b k = ((a.dt 60 && b.dt 60) = true ∧ k (.bl (if neg then !a.eqv b else a.eqv b)))) ∧
    (∀ (neg : Bool) (a : D) (xs : List D), dIn neg a (.tup xs) k = ((a.dt 60 && Ds.dt 60 xs) = true ∧ k (.bl (if neg then !(xs.any fun z => z.eqv a) else xs.any fun z => z.eqv a)))) ∧
    (∀ (neg : Bool) (a : D) (xs : List D), dIn neg a (.lst xs) k = ((a.dt 60 && Ds.dt 60 xs) = true ∧ k (.bl (if neg then !(xs.any fun z => z.eqv a) else xs.any fun z => z.eqv a)))) :=
  ⟨fun _ _ _ => rfl, fun _ _ _ _ => rfl, fun _ _ _ => rfl, fun _ _ => rfl, fun _ _ => rfl, fun _ _ => rfl, fun _ _ => rfl, fun _ _ => rfl, fun _ => rfl, fun _ => rfl, fun _ => rfl, fun _ _ => rfl, fun _ _ => rfl, fun _ => rfl, fun _ => rfl, fun _ => rfl, fun _ => rfl, fun _ => rfl, fun _ => rfl, fun _ => rfl, fun _ => rfl, fun _ => rfl, fun _ _ _ => rfl, fun _ _ _ => rfl, fun _ _ _ => rfl, fun _ _ _ => rfl, fun _ _ _ => rfl⟩
theorem dIn1 {c : Nat} {z : Str} {k : D → Prop} : dIn false (.str ⟨#[c]⟩) (.str z) k = k (.bl (decide (c ∈ z.cps.toList))) := by
  refine propext ⟨fun ⟨c', e, h⟩ => ?_, fun h => ⟨c, rfl, h⟩⟩
  cases e; exact h
theorem dNin1 {c : Nat} {z : Str} {k : D → Prop} : dIn true (.str ⟨#[c]⟩) (.str z) k = k (.bl (!decide (c ∈ z.cps.toList))) := by
  refine propext ⟨fun ⟨c', e, h⟩ => ?_, fun h => ⟨c, rfl, h⟩⟩
  cases e; exact h
/-- truth and the like of what is known -/
theorem dk : (∀ (b : Bool) (k : Bool → Prop), (D.bl b).truth k = k b) ∧ (∀ (b : Bool) (k : Bool → Prop), (D.bl b).asBl k = k b) ∧ (∀ (i : Int) (k : Bool → Prop), (D.int i).truth k = k (i != 0)) ∧ (∀ (k : Bool → Prop), D.non.truth k = k false) ∧
    (∀ (xs : List D) (k : Bool → Prop), (D.lst xs).truth k = k (!xs.isEmpty)) ∧ (∀ (xs : List D) (k : Bool → Prop), (D.tup xs).truth k = k (!xs.isEmpty)) ∧ (∀ (z : Str) (k : Bool → Prop), (D.str z).truth k = (z.length ≤ sizeLine ∧ k ((z.length : Int) != 0))) ∧
    (∀ (xs : List D) (k : List D → Prop), (D.tup xs).its k = k xs) ∧ (∀ (xs : List D) (k : List D → Prop), (D.lst xs).its k = k xs) ∧ (∀ (xs : List D) (k : List D → Prop), (D.ro xs).its k = k xs) ∧ (∀ (z : Str) (k : List D → Prop), (D.str z).its k = k (strDs z)) ∧
    (∀ d : D, (RD.im d).d = d) ∧ (∀ c : Cl, (RD.fr c).d = c.d) ∧ (∀ xs : List D, (Cl.lst xs).d = .lst xs) ∧ (∀ (c : Str) (fs : List (Str × D)), (Cl.ins c fs).d = .obj c fs) ∧
    (∀ (d : D) (k : RD → Prop), (RD.im d).nwp k = k (.im d)) ∧ (∀ (c : Cl) (k : RD → Prop), (RD.fr c).nwp k = k (.fr c)) ∧ (∀ Γ : Gm, bcOf none Γ = none) ∧ (∀ (pre : List D) (c : Cl), (RD.fl pre c).d = .lst (pre ++ [c.d])) ∧ (∀ (pre : List D) (c : Cl) (k : RD → Prop), (RD.fl pre c).nwp k = k (.fl pre c)) :=
  ⟨fun _ _ => rfl, fun _ _ => rfl, fun _ _ => rfl, fun _ => rfl, fun _ _ => rfl, fun _ _ => rfl, fun _ _ => rfl, fun _ _ => rfl, fun _ _ => rfl, fun _ _ => rfl, fun _ _ => rfl, fun _ => rfl, fun _ => rfl, fun _ => rfl, fun _ _ => rfl, fun _ _ => rfl, fun _ _ => rfl, fun _ => rfl, fun _ _ => rfl, fun _ _ _ => rfl⟩
/-! what a for runs over -/
theorem ri : (∀ (T : TF) (R : ExD) (Γ : Gm) (Φ : List D → Gm → Prop), tRng1 T R Γ Φ = T R Γ fun d Γ' => d.asInt fun j => -(2 ^ 62) ≤ j ∧ j < 2 ^ 62 ∧ Φ (rangeDs 0 j.toNat) Γ') ∧
    (∀ (T U : TF) (R : ExD) (Γ : Gm) (Φ : List D → Gm → Prop), tRng2 T U R Γ Φ = T R Γ fun d Γ1 => U R Γ1 fun d2 Γ2 => d.asInt fun i => d2.asInt fun j => (-(2 ^ 62) ≤ i ∧ i < 2 ^ 62 ∧ -(2 ^ 62) ≤ j ∧ j < 2 ^ 62) ∧ Φ (rangeDs i (j - i).toNat) Γ2) ∧
    (∀ (T : TF) (R : ExD) (Γ : Gm) (Φ : List D → Gm → Prop), tItsD T R Γ Φ = T R Γ fun d Γ' => d.its fun ds => Φ ds Γ') ∧
    (∀ (i : Nat) (d : D) (Γ : Gm) (Φ : Gm → Prop), gNameD i d Γ Φ = Φ (Γ.set i (.im d))) ∧
    (∀ (i : Int) (k : Int → Prop), (D.int i).asInt k = k i) := ⟨fun _ _ _ _ => rfl, fun _ _ _ _ _ => rfl, fun _ _ _ _ => rfl, fun _ _ _ _ => rfl, fun _ _ => rfl⟩
theorem range_get {lo : Int} {n i : Nat} {d : D} (h : (rangeDs lo n)[i]? = some d) : i < n ∧ d = .int (lo + (i : Int)) := by
  have hi : i < n := by
    have := (List.getElem?_eq_some_iff.mp h).1
    rwa [rangeDs_length] at this
  refine ⟨hi, ?_⟩
  unfold rangeDs at h
  rw [List.getElem?_map, List.getElem?_range hi] at h
  exact (Option.some.inj h).symm
theorem atI_nat {α : Type} {xs : List α} {i : Nat} (h : i < xs.length) : L2.atI xs (i : Int) = xs[i]? := by
  unfold L2.atI
  have e : L2.ixN xs.length (i : Int) = some i := by
    unfold L2.ixN
    rw [if_pos (by omega), if_pos (by omega)]
    simp
  rw [e]
  rfl
theorem atI_int {α : Type} {xs : List α} {i : Int} (h0 : 0 ≤ i) (h : i < xs.length) : ∃ x, L2.atI xs i = some x ∧ xs[i.toNat]? = some x := by
  obtain ⟨n, rfl⟩ := Int.eq_ofNat_of_zero_le h0
  have hn : n < xs.length := by omega
  exact ⟨xs[n], by rw [atI_nat hn]; exact List.getElem?_eq_getElem hn, List.getElem?_eq_getElem hn⟩
/-- a place of Γ -/
theorem gx : (∀ (s : SD) (Γ : List SD) (i : Nat), (s :: Γ)[i + 1]? = Γ[i]?) ∧ (∀ (s : SD) (Γ : List SD), (s :: Γ)[0]? = some s) ∧ (∀ (s : SD) (Γ : List SD) (t : SD), (s :: Γ).set 0 t = t :: Γ) ∧ (∀ (s : SD) (Γ : List SD) (i : Nat) (t : SD), (s :: Γ).set (i + 1) t = s :: Γ.set i t) ∧
    (∀ (l : List SD) (as : List Addr) (ws : List Wc) (i : Nat) (t : SD), (Gm.mk l as ws).set i t = ⟨l.set i t, as, ws⟩) ∧ (∀ (l : List SD) (as : List Addr) (ws : List Wc), wipeD ⟨l, as, ws⟩ [] = ⟨l, as, ws⟩) ∧
    (∀ (l : List SD) (as : List Addr) (ws : List Wc) (v : Nat) (vs : List Nat), wipeD ⟨l, as, ws⟩ (v :: vs) = ⟨(wipeD ⟨l, as, ws⟩ vs).sl.set v .un, as, ws⟩) :=
  ⟨fun _ _ _ => rfl, fun _ _ => rfl, fun _ _ _ => rfl, fun _ _ _ _ => rfl, fun _ _ _ _ _ => rfl, fun _ _ _ => rfl, fun _ _ _ _ _ => rfl⟩
end Vl

namespace Vl
open PySem PySem.Spec PyProof.Rows L2
/-- a law's promise, as the walk asks for it -/
theorem top_sp {K : PySem.W.Frag} {sp : SpD} (h : ∀ (ms : List Int) (Φ : RD → Option Cl → Prop) (R : Str → Option (List (Str × D)) → Option Cl → Prop), ms.length ≤ 63 → Φ (.im (.bl true)) none → sp [.im (.ro (ms.map .int))] Φ R)
    (H : Hp) (a : Addr) (ns : List Int) (hl : ns.length ≤ 63) (_ : Only H) (hS : SqL K H a (ns.map V.int)) : liftSp K 1 sp [.ref a] H (fun v _ => v = .bl true) fun _ _ _ => False := by
  have rs : ∀ ns : List Int, Reps K H (ns.map V.int) (ns.map D.int) := fun ns => by
    induction ns with
    | nil => exact .nil
    | cons n ns ih => exact .cons (.int n) ih
  refine ⟨H, [.im (.ro (ns.map .int))], fun r _ => r = .im (.bl true), fun _ _ _ => False, rfl, Same.refl H, .cons (.ro hS ?_ (rs ns)) .nil, h ns _ _ hl rfl, ?_, fun _ _ _ _ _ _ _ _ f => f.elim⟩
  · rw [List.length_map]
    exact Nat.le_trans hl (by decide)
  · rintro v r c' G' H' p rr rfl
    cases rr
    rfl
def CXw (P : Program) : CXT := fun outer H s E u s' => ∃ w, L2.CX P w outer H s E u s'
theorem FnOk.w {P : Program} {w : World} {K : PySem.W.Frag} {mg : Str → Option Value} {base : Heap} {k : Nat} {f : Addr} {fd : FuncData} {ps : List Str} {sp : Sp} (F : FnOk P w K mg base (L2.CX P w) k f fd ps sp) : FnOk P w K mg base (CXw P) k f fd ps sp :=
  ⟨F.len, fun A outer s H args us vs Q E hr he hb hv hs => codeAny_mono (F.run A outer s H args us vs Q E hr he hb hv hs) fun r s' q => by
    cases r with
    | error e => exact ⟨w, q⟩
    | ok fl => cases fl <;> exact q⟩
theorem cxw_no {P : Program} (H : Hp) (s : Shared) (e : Value) (s' : Shared) (h : CXw P [] H s (fun _ _ _ => False) e s') : False := by
  obtain ⟨w, a, B, H', cls, d, _, _, _, _, _, _, _, f⟩ := h
  exact f
end Vl

namespace Vl
open PySem PySem.Spec PyProof.Rows L2 ClX
/-! ### a Hook with facts of any form -/
def asX (g : Addr → Option Obj) : Nat → List Addr
  | 0 => [mainGlobals, cStatics]
  | n + 1 => He.growD g (asX g n)
/-- a def, by its address -/
structure DefX where
  at_ : PySem.W.Frag → Addr
  name : Str
  qual : Str
  params : Arguments
  body : List Stmt
  scope : Scope
  dfl : List He.Dv := []
  kwd : List (Str × He.Dv) := []
def fnAt (K : PySem.W.Frag) (a : Addr) : He.FnW := match K.lookup a with
  | some ⟨_, _, .func fd, _⟩ => some (fd.name, fd.qualname, fd.params, fd.body, fd.scope, fd.globals, fd.closure, fd.builtins)
  | _ => none
def DefX.val (d : DefX) : He.FnW := some (d.name, d.qual, d.params, .stmts d.body, d.scope, mainGlobals, [], builtinsNs)
def DefX.dvs (K : PySem.W.Frag) (d : DefX) : List V := d.dfl.map (He.Dv.v K)
def DefX.kws (K : PySem.W.Frag) (d : DefX) : List (Str × V) := d.kwd.map fun q => (q.1, q.2.v K)
def DefX.ok (K : PySem.W.Frag) (d : DefX) : Bool := PySem.W.keepIn K (.ref (d.at_ K)) && (match K.lookup (d.at_ K) with
  | some ⟨_, _, .func fd, _⟩ => PySem.W.codeIn K fd.code d.qual && (He.dflB K fd.defaults (d.dvs K) && He.kwdB K fd.kwdefaults (d.kws K))
  | _ => false)
theorem DefX.funD {K : PySem.W.Frag} {d : DefX} (e : fnAt K (d.at_ K) = d.val) (c : d.ok K = true) : ∃ fd, FunD K d.name d.qual d.params d.body d.scope (d.dvs K) (d.kws K) (d.at_ K) fd := by
  unfold DefX.ok at c
  obtain ⟨kp, c⟩ := He.ba c
  unfold fnAt DefX.val at e
  generalize d.at_ K = a at *
  cases q : K.lookup a with
  | none => rw [q] at c; cases c
  | some o =>
    rw [q] at c e
    obtain ⟨oc, od, dt, sl⟩ := o
    cases dt with
    | func fd =>
      obtain ⟨m1, m2, m3, m4, m5, m6, m7, m8, m9, m10, m11, m12, m13, m14, m15⟩ := fd
      dsimp only at c e
      simp only [Option.some.injEq, Prod.mk.injEq] at e
      obtain ⟨e1, e2, e3, e4, e5, e6, e7, e8⟩ := e
      subst e1 e2 e3 e4 e5 e6 e7 e8
      obtain ⟨c1, c⟩ := He.ba c
      obtain ⟨c2, c3⟩ := He.ba c
      exact ⟨_, ⟨oc, od, m8, m9, m10, m11, m12, m13, m14, sl, rfl, q, c1, He.dflB_ok c2, He.kwdB_ok c3⟩, kp⟩
    | _ => cases c
abbrev AlX : Type := Bool × List He.FnW
def obsX (fb : List (PySem.W.Frag → Bool)) (fn : List DefX) (K : PySem.W.Frag) : AlX := ((fb.all fun f => f K) && fn.all fun d => d.ok K, fn.map fun d => fnAt K (d.at_ K))
def valX (fn : List DefX) : AlX := (true, fn.map DefX.val)
def SaysX (fb : List (PySem.W.Frag → Bool)) (fn : List DefX) (K : PySem.W.Frag) : Prop := obsX fb fn K = valX fn
def obsXG (n : Nat) (fb : List (PySem.W.Frag → Bool)) (fn : List DefX) (g : Addr → Option Obj) : AlX := obsX fb fn (He.frG g (asX g n))
def hookX (n : Nat) (fb : List (PySem.W.Frag → Bool)) (fn : List DefX) : PySem.W.Hook where
  α := AlX
  obs := fun s => obsXG n fb fn s.heap.get?
  val := fun _ => valX fn
  says := fun _ h => ∃ K : PySem.W.Frag, K.In h ∧ SaysX fb fn K
  of := fun _ _ e => ⟨_, He.frG_in, e⟩
  keeps := fun _ _ _ ⟨K, hK, c⟩ k => ⟨K, PySem.W.Frag.In.keeps hK k, c⟩
theorem obsXG_eq {n : Nat} {fb : List (PySem.W.Frag → Bool)} {fn : List DefX} {g : Addr → Option Obj} {s : Shared} (h : ∀ a, g a = s.heap.get? a) : obsXG n fb fn g = (hookX n fb fn).obs s := by
  have e : g = s.heap.get? := funext h
  rw [e]
  rfl
section
variable {fb : List (PySem.W.Frag → Bool)} {fn : List DefX} {K : PySem.W.Frag}
theorem SaysX.fact (c : SaysX fb fn K) (i : Nat) {f : PySem.W.Frag → Bool} (h : fb[i]? = some f := by rfl) : f K = true :=
  List.all_eq_true.mp (He.ba (congrArg Prod.fst c)).1 f (List.mem_of_getElem? h)
theorem SaysX.def_ (c : SaysX fb fn K) (i : Nat) {d : DefX} (h : fn[i]? = some d := by rfl) : ∃ fd, FunD K d.name d.qual d.params d.body d.scope (d.dvs K) (d.kws K) (d.at_ K) fd := by
  have c2 := List.all_eq_true.mp (He.ba (congrArg Prod.fst c)).2 d (List.mem_of_getElem? h)
  have e : fn.map (fun d => fnAt K (d.at_ K)) = fn.map DefX.val := congrArg Prod.snd c
  have e2 : (fn.map fun d => fnAt K (d.at_ K))[i]? = (fn.map DefX.val)[i]? := by rw [e]
  rw [List.getElem?_map, List.getElem?_map, h] at e2
  exact DefX.funD (Option.some.inj e2) c2
end
/-! facts -/
def gA (x : Str) : PySem.W.Frag → Addr := fun K => He.ga K x
def mA (c m : Str) : PySem.W.Frag → Addr := fun K => He.ma K (He.ga K c) m
/-- the def of a classmethod, a property -/
def recA (T : String) (c m : Str) : PySem.W.Frag → Addr := fun K => match PySem.W.recIn K (He.ma K (He.ga K c) m) T with
  | some (.ref g :: _) => g
  | _ => 0
def fB (f : He.Fa) : PySem.W.Frag → Bool := fun K => f.ok K
def cmB (c m : Str) : PySem.W.Frag → Bool := fun K => PySem.W.readsIn K (He.ga K c) (.type "type") && (decide (PySem.W.specialIn K (.ref (He.ga K c)) "__getattribute__" = some (some (.builtin "type.__getattribute__"))) &&
  ((match PySem.W.findCls K (.ref (He.ga K c)) (.type "type") m with
    | some (.get (.builtin g) (.ref p) .none (.ref C)) => decide (g = "classmethod.__get__") && (decide (p = He.ma K (He.ga K c) m) && decide (C = He.ga K c))
    | _ => false) && ((match PySem.W.recIn K (He.ma K (He.ga K c) m) "classmethod" with
    | some (.ref g :: _) => PySem.W.fnIn K g
    | _ => false))))
theorem cmB_ok {K : PySem.W.Frag} {c m : Str} (h : cmB c m K = true) : CRead K (He.ga K c) (.type "type") ∧ CMet K (He.ga K c) (.type "type") m (He.ma K (He.ga K c) m) (recA "classmethod" c m K) := by
  unfold cmB at h
  obtain ⟨h1, h⟩ := He.ba h
  obtain ⟨h2, h⟩ := He.ba h
  obtain ⟨h3, h4⟩ := He.ba h
  refine ⟨⟨h1, of_decide_eq_true h2⟩, ?_⟩
  unfold recA
  cases q : PySem.W.recIn K (He.ma K (He.ga K c) m) "classmethod" with
  | none => rw [q] at h4; cases h4
  | some l =>
    rw [q] at h4
    cases l with
    | nil => cases h4
    | cons v r => cases v with
      | ref g =>
        refine ⟨?_, ⟨r, q⟩, h4⟩
        split at h3
        · rename_i g' p' C' e
          obtain ⟨a1, h3⟩ := He.ba h3
          obtain ⟨a2, a3⟩ := He.ba h3
          rw [e, of_decide_eq_true a1, of_decide_eq_true a2, of_decide_eq_true a3]
        · cases h3
      | _ => cases h4
def ccB (c f : Str) (i : Int) : PySem.W.Frag → Bool := fun K => PySem.W.readsIn K (He.ga K c) (.type "type") && (decide (PySem.W.specialIn K (.ref (He.ga K c)) "__getattribute__" = some (some (.builtin "type.__getattribute__"))) && (match PySem.W.findCls K (.ref (He.ga K c)) (.type "type") f with
    | some (.val (.int j _)) => decide (j = i)
    | _ => false))
theorem ccB_ok {K : PySem.W.Frag} {c f : Str} {i : Int} (h : ccB c f i K = true) : ∃ mc u, CRead K (He.ga K c) mc ∧ CVal K (He.ga K c) mc f (.int i) u := by
  unfold ccB at h
  obtain ⟨h1, h⟩ := He.ba h
  obtain ⟨h2, h⟩ := He.ba h
  split at h
  · rename_i j t e
    have ej := of_decide_eq_true h
    subst ej
    exact ⟨_, _, ⟨h1, of_decide_eq_true h2⟩, e, t, rfl⟩
  · cases h
/-- what a caught exception's class must say -/
def exB (c : Str) : PySem.W.Frag → Bool := fun K => decide (PySem.W.findIn K (.ref (He.ga K c)) "__getattribute__" = some (some (.builtin "BaseException.__getattribute__"))) && (decide (PySem.W.findIn K (.ref (He.ga K c)) "__getattr__" = some none) && (decide (PySem.W.subIn K (.ref (He.ga K c)) (.type "BaseException") = some true) && (PySem.W.hasDictIn K (He.ga K c) &&
  (decide (PySem.W.findIn K (.ref (He.ga K c)) "__class__" = some (some (.builtin "object.__class__"))) && (decide (PySem.W.specialIn K (.builtin "object.__class__") "__get__" = some (some (.builtin "getset_descriptor.__get__"))) && (decide (PySem.W.takesIn K (.builtin "object.__class__") = some true) && decide (PySem.W.mroIn K (He.ga K c) (.type "object") = some true)))))))
theorem exB_ok {K : PySem.W.Frag} {c : Str} (h : exB c K = true) : ExcC K (He.ga K c) := by
  unfold exB at h
  obtain ⟨h1, h⟩ := He.ba h
  obtain ⟨h2, h⟩ := He.ba h
  obtain ⟨h3, h⟩ := He.ba h
  obtain ⟨h4, h⟩ := He.ba h
  obtain ⟨h5, h⟩ := He.ba h
  obtain ⟨h6, h⟩ := He.ba h
  obtain ⟨h7, h8⟩ := He.ba h
  exact ⟨of_decide_eq_true h1, of_decide_eq_true h2, of_decide_eq_true h3, h4, of_decide_eq_true h5, of_decide_eq_true h6, of_decide_eq_true h7, of_decide_eq_true h8⟩
def exmB (exL : List Str) (sub : Str → Str → Bool) (x : Str) : PySem.W.Frag → Bool := fun K => exL.all fun c => decide (PySem.W.exmOne K (.ref (He.ga K c)) (.ref (He.ga K x)) = some (sub c x))
theorem exmB_ok {K : PySem.W.Frag} {exL : List Str} {sub : Str → Str → Bool} {x : Str} (h : exmB exL sub x K = true) : ExTab K exL sub x (.ref (He.ga K x)) := fun c hc => of_decide_eq_true (List.all_eq_true.mp h c hc)
def kitB (exL : List Str) (sub : Str → Str → Bool) (x : Str) : PySem.W.Frag → Bool := fun K => exL.all fun c => decide (PySem.W.kitOne K (.ref (He.ga K c)) (.ref (He.ga K x)) = some (sub c x))
theorem kitB_ok {K : PySem.W.Frag} {exL : List Str} {sub : Str → Str → Bool} {x : Str} (h : kitB exL sub x K = true) : ∀ c ∈ exL, PySem.W.kitOne K (.ref (He.ga K c)) (.ref (He.ga K x)) = some (sub c x) := fun c hc => of_decide_eq_true (List.all_eq_true.mp h c hc)
def kitBT (exL : List Str) (T : String) (b : Str → Bool) : PySem.W.Frag → Bool := fun K => exL.all fun c => decide (PySem.W.kitOne K (.ref (He.ga K c)) (.type T) = some (b c))
theorem kitBT_ok {K : PySem.W.Frag} {exL : List Str} {T : String} {b : Str → Bool} (h : kitBT exL T b K = true) : ∀ c ∈ exL, PySem.W.kitOne K (.ref (He.ga K c)) (.type T) = some (b c) := fun c hc => of_decide_eq_true (List.all_eq_true.mp h c hc)
/-- isinstance of an own class -/
def isiB (cs : List Str) (sub : Str → Str → Bool) (x : Str) : PySem.W.Frag → Bool := fun K => (cs.all fun c => (He.Fa.cls c).ok K && (decide (PySem.W.findIn K (.ref (He.ga K c)) "__class__" = some (some (.builtin "object.__class__"))) && (decide (PySem.W.mroIn K (He.ga K c) (.type "object") = some true) && decide (PySem.W.kitOne K (.ref (He.ga K c)) (.ref (He.ga K x)) = some (sub c x))))) &&
  (decide (PySem.W.specialIn K (.builtin "object.__class__") "__get__" = some (some (.builtin "getset_descriptor.__get__"))) && (decide (PySem.W.takesIn K (.builtin "object.__class__") = some true) && (["NoneType", "bool", "int", "str", "tuple", "list", "dict"].all fun n => decide (PySem.W.kitOne K (.type n) (.ref (He.ga K x)) = some false))))
theorem isiB_ok {K : PySem.W.Frag} {cs : List Str} {sub : Str → Str → Bool} {x : Str} (h : isiB cs sub x K = true) : IsiC K cs sub x := by
  unfold isiB at h
  obtain ⟨h1, h⟩ := He.ba h
  obtain ⟨h2, h⟩ := He.ba h
  obtain ⟨h3, h4⟩ := He.ba h
  refine ⟨fun c hc => ?_, of_decide_eq_true h2, of_decide_eq_true h3, fun n hn => of_decide_eq_true (List.all_eq_true.mp h4 n hn)⟩
  obtain ⟨a1, a⟩ := He.ba (List.all_eq_true.mp h1 c hc)
  obtain ⟨a2, a⟩ := He.ba a
  obtain ⟨a3, a4⟩ := He.ba a
  exact ⟨He.cls_ok a1, of_decide_eq_true a2, of_decide_eq_true a3, of_decide_eq_true a4⟩
/-- fields of instances -/
def fldB (cs : List Str) (f : Str) : PySem.W.Frag → Bool := fun K => cs.all fun c => (He.Fa.cls c).ok K && (He.Fa.noat c f).ok K
theorem fldB_ok {K : PySem.W.Frag} {cs : List Str} {f : Str} (h : fldB cs f K = true) : FldOk K cs f := fun c hc =>
  let z := He.ba (List.all_eq_true.mp h c hc)
  ⟨He.cls_ok z.1, He.noat_ok z.2⟩
theorem exCl_ok {K : PySem.W.Frag} {mg : Str → Option Value} {c : Str} (g : mg c = some (.ref (He.ga K c))) (h : fB (.exc c) K = true) : ExCl K mg c :=
  let ⟨a, b, c, d⟩ := He.exc_ok h
  ⟨a, b, c, d, g⟩
/-- a property -/
def prB (c m : Str) : PySem.W.Frag → Bool := fun K => decide (PySem.W.findIn K (.ref (He.ga K c)) m = some (some (.ref (He.ma K (He.ga K c) m)))) && (decide (PySem.W.specialIn K (.ref (He.ma K (He.ga K c) m)) "__get__" = some (some (.builtin "property.__get__"))) && (decide (PySem.W.takesIn K (.ref (He.ma K (He.ga K c) m)) = some true) && (match PySem.W.recIn K (He.ma K (He.ga K c) m) "property" with
    | some (.ref _ :: _) => true
    | _ => false)))
theorem prB_ok {K : PySem.W.Frag} {c m : Str} (h : prB c m K = true) : PropOf K (He.ga K c) m (He.ma K (He.ga K c) m) (recA "property" c m K) := by
  unfold prB at h
  obtain ⟨h1, h⟩ := He.ba h
  obtain ⟨h2, h⟩ := He.ba h
  obtain ⟨h3, h4⟩ := He.ba h
  refine ⟨of_decide_eq_true h1, of_decide_eq_true h2, of_decide_eq_true h3, ?_⟩
  unfold recA
  cases q : PySem.W.recIn K (He.ma K (He.ga K c) m) "property" with
  | none => rw [q] at h4; cases h4
  | some l =>
    rw [q] at h4
    cases l with
    | nil => cases h4
    | cons v r => cases v with
      | ref g => exact ⟨r, rfl⟩
      | _ => cases h4
end Vl

namespace Vl
open PySem PySem.Spec PyProof.Rows L2
/-! ### what values are drawn from typed ones -/
/-- an encoding whose == is equality -/
class Good {α : Type} [DecidableEq α] (f : α → D) : Prop where
  eq : ∀ a b, (f a).eqv (f b) = decide (a = b)
  dt : ∀ a n, 20 ≤ n → (f a).dt n = true
theorem eqv_strs : ∀ (i j : Str), D.eqv (.str i) (.str j) = decide (i = j) := fun i j => by simp only [D.eqv]; rfl
instance good_str : Good D.str := ⟨eqv_strs, fun a n _ => by simp [D.dt]⟩
instance good_int : Good D.int := ⟨fun a b => by simp only [D.eqv]; rfl, fun a n _ => by simp [D.dt]⟩
instance good_bl : Good D.bl := ⟨fun a b => by simp only [D.eqv]; cases a <;> cases b <;> rfl, fun a n _ => by simp [D.dt]⟩
theorem eqv_map {α : Type} [DecidableEq α] (f : α → D) [g : Good f] : ∀ (xs ys : List α), Ds.eqv (xs.map f) (ys.map f) = decide (xs = ys)
  | [], [] => by simp [Ds.eqv]
  | [], y :: ys => by simp [Ds.eqv]
  | x :: xs, [] => by simp [Ds.eqv]
  | x :: xs, y :: ys => by
    simp only [List.map_cons, Ds.eqv, g.eq, eqv_map f xs ys, List.cons.injEq]
    by_cases h : x = y <;> by_cases h2 : xs = ys <;> simp [h, h2]
theorem dt_map {α : Type} [DecidableEq α] (f : α → D) [g : Good f] {n : Nat} (hn : 20 ≤ n) : ∀ xs : List α, Ds.dt n (xs.map f) = true
  | [] => by simp [Ds.dt]
  | x :: xs => by simp only [List.map_cons, Ds.dt, g.dt x n hn, dt_map f hn xs, Bool.and_self]
theorem any_map {α : Type} [DecidableEq α] (f : α → D) [g : Good f] (a : α) : ∀ xs : List α, ((xs.map f).any fun z => z.eqv (f a)) = decide (a ∈ xs)
  | [] => by simp
  | x :: xs => by
    simp only [List.map_cons, List.any_cons, any_map f a xs, g.eq, List.mem_cons]
    by_cases h : x = a
    · subst h; simp
    · have : ¬ a = x := fun e => h e.symm
      simp [h, this]
/-- pairs of texts -/
abbrev Pr := Str × Str
def eP (s : Pr) : D := .tup [.str s.1, .str s.2]
instance good_eP : Good eP := ⟨fun a b => by
  obtain ⟨a1, a2⟩ := a
  obtain ⟨b1, b2⟩ := b
  simp only [eP, D.eqv, Ds.eqv, Bool.and_true]
  by_cases h : a1 = b1 <;> by_cases h2 : a2 = b2 <;> simp [h, h2], fun a n hn => by
  obtain ⟨m, rfl⟩ : ∃ m, n = m + 1 := ⟨n - 1, by omega⟩
  simp [eP, D.dt, Ds.dt]⟩
/-- tuples, lists -/
def eT {α : Type} (f : α → D) (xs : List α) : D := .tup (xs.map f)
def eL {α : Type} (f : α → D) (xs : List α) : D := .lst (xs.map f)
/-- == at the top -/
theorem eqt {α : Type} [DecidableEq α] (f : α → D) [g : Good f] :
    (∀ xs ys : List α, D.eqv (.tup (xs.map f)) (.tup (ys.map f)) = decide (xs = ys)) ∧ (∀ xs ys : List α, D.eqv (.lst (xs.map f)) (.lst (ys.map f)) = decide (xs = ys)) :=
  ⟨fun xs ys => by simp only [D.eqv]; exact eqv_map f xs ys, fun xs ys => by simp only [D.eqv]; exact eqv_map f xs ys⟩
theorem dtt {α : Type} [DecidableEq α] (f : α → D) [g : Good f] :
    (∀ (n : Nat), 20 ≤ n → ∀ xs : List α, D.dt (n + 1) (.tup (xs.map f)) = true) ∧ (∀ (n : Nat), 20 ≤ n → ∀ xs : List α, D.dt (n + 1) (.lst (xs.map f)) = true) :=
  ⟨fun n h xs => by simp only [D.dt]; exact dt_map f h xs, fun n h xs => by simp only [D.dt]; exact dt_map f h xs⟩
theorem nov_map {α : Type} (f : α → D) {p q : Bool} (h : ∀ a, (f a).nov p q = true) : ∀ xs : List α, Ds.nov p q (xs.map f) = true
  | [] => rfl
  | x :: xs => by simp only [List.map_cons, Ds.nov, h x, nov_map f h xs, Bool.and_self]
/-! ### loops -/
section
variable {α β : Type} {R : ExD} {g : TGD} {tb : TSD} {rt : RD → Gm → Prop} {nx : Gm → Prop} {vs : List Nat} {f : α → D}
/-- a loop that carries what St says of a -/
theorem for_fold (St : β → Gm) (step : β → α → β) (hw : ∀ a, wipeD (St a) vs = St a) : ∀ (xs : List α) (a : β), (∀ a, ∀ x ∈ xs, ∀ (K : Gm → Prop) (bk : Gm → Prop), (∀ Γ, wipeD Γ vs = St (step a x) → K Γ) → g (f x) (St a) fun Γ2 => tb R ⟨K, rt, bk, K⟩ Γ2) → nx (St (xs.foldl step a)) → forD R g tb rt nx vs (xs.map f) (St a)
  | [], a, _, h => h
  | x :: xs, a, hs, h => hs a x List.mem_cons_self _ _ fun Γ e => by
    show forD R g tb rt nx vs (xs.map f) (wipeD Γ vs)
    rw [e]
    exact for_fold St step hw xs (step a x) (fun a y hy => hs a y (List.mem_cons_of_mem _ hy)) h
/-- a loop with what holds of the turns left and of what is carried -/
theorem for_inv (St : β → Gm) (P : List α → β → Prop) (hs : ∀ x xs a, P (x :: xs) a → ∀ (K : Gm → Prop) (bk : Gm → Prop), (∀ b Γ, P xs b → wipeD Γ vs = St b → K Γ) → g (f x) (St a) fun Γ2 => tb R ⟨K, rt, bk, K⟩ Γ2) (h : ∀ b, P [] b → nx (St b)) : ∀ (xs : List α) (a : β), P xs a → forD R g tb rt nx vs (xs.map f) (St a)
  | [], a, p => h a p
  | x :: xs, a, p => hs x xs a p _ _ fun b Γ q e => by
    show forD R g tb rt nx vs (xs.map f) (wipeD Γ vs)
    rw [e]
    exact for_inv St P hs h xs b q
/-- .. that may be left -/
theorem for_invB (St : β → Gm) (P : List α → β → Prop) (Q : β → Prop) (hs : ∀ x xs a, P (x :: xs) a → ∀ (K : Gm → Prop) (bk : Gm → Prop), (∀ b Γ, P xs b → wipeD Γ vs = St b → K Γ) → (∀ b Γ, Q b → wipeD Γ vs = St b → bk Γ) → g (f x) (St a) fun Γ2 => tb R ⟨K, rt, bk, K⟩ Γ2) (h : ∀ b, P [] b → nx (St b)) (h2 : ∀ b, Q b → nx (St b)) : ∀ (xs : List α) (a : β), P xs a → forD R g tb rt nx vs (xs.map f) (St a)
  | [], a, p => h a p
  | x :: xs, a, p => hs x xs a p _ _ (fun b Γ q e => by
    show forD R g tb rt nx vs (xs.map f) (wipeD Γ vs)
    rw [e]
    exact for_invB St P Q hs h h2 xs b q) fun b Γ q e => by
    show nx (wipeD Γ vs)
    rw [e]
    exact h2 b q
/-- a loop that looks: it goes out by P x at the first x with p x -/
theorem for_find {Γ : Gm} (p : α → Bool) (P : α → Prop) : ∀ (xs : List α), (∀ x ∈ xs, ∀ (K : Gm → Prop) (bk : Gm → Prop), (p x = true → P x) → (p x = false → ∀ Γ2, wipeD Γ2 vs = Γ → K Γ2) → g (f x) Γ fun Γ2 => tb R ⟨K, rt, bk, K⟩ Γ2) →
    (match xs.find? p with
      | some x => P x
      | none => nx Γ) → forD R g tb rt nx vs (xs.map f) Γ
  | [], _, h => h
  | x :: xs, hs, h => by
    refine hs x List.mem_cons_self _ _ (fun e => ?_) fun e Γ2 e2 => ?_
    · rw [List.find?_cons_of_pos e] at h
      exact h
    · show forD R g tb rt nx vs (xs.map f) (wipeD Γ2 vs)
      rw [e2]
      rw [List.find?_cons_of_neg (by rw [e]; exact Bool.false_ne_true)] at h
      exact for_find p P xs (fun y hy => hs y (List.mem_cons_of_mem _ hy)) h
/-- a loop that goes out, or raises, the same way whatever it finds -/
theorem for_all {Γ : Gm} (p : α → Bool) (P : Prop) (xs : List α) (hs : ∀ x ∈ xs, ∀ (K : Gm → Prop) (bk : Gm → Prop), (p x = false → P) → (p x = true → ∀ Γ2, wipeD Γ2 vs = Γ → K Γ2) → g (f x) Γ fun Γ2 => tb R ⟨K, rt, bk, K⟩ Γ2)
    (h1 : xs.all p = true → nx Γ) (h2 : xs.all p = false → P) : forD R g tb rt nx vs (xs.map f) Γ := by
  refine for_find (fun x => !p x) (fun _ => P) xs (fun x hx K bk a b => hs x hx K bk (fun e => a (by simp [e])) fun e => b (by simp [e])) ?_
  cases e : xs.find? fun x => !p x with
  | none =>
    refine h1 (List.all_eq_true.mpr fun x hx => ?_)
    have := List.find?_eq_none.mp e x hx
    simpa using this
  | some x =>
    refine h2 (Bool.eq_false_iff.mpr fun q => ?_)
    have e1 := List.find?_some e
    have e2 := List.all_eq_true.mp q x (List.mem_of_find?_eq_some e)
    simp [e2] at e1
/-- a comprehension -/
theorem lc_ok {Φ : Cl → Gm → Prop} {tt : TTD} {te : TF} {Γ : Gm} (p : α → Bool) (q : α → D) : ∀ (xs : List α) (acc : List D), (acc.length + xs.length ≤ sizeLine) →
    (∀ x ∈ xs, ∀ K : Option D → Gm → Prop, (∀ Γ2, wipeD Γ2 vs = Γ → K (if p x = true then some (q x) else none) Γ2) → g (f x) Γ fun Γ2 => tt nvr Γ2 fun b Γ3 => if b = true then te nvr Γ3 fun y Γ4 => K (some y) Γ4 else K none Γ3) →
    Φ (.lst (acc ++ (xs.filter p).map q)) Γ → lcF g tt te vs Φ (xs.map f) acc Γ
  | [], acc, _, _, h => by
    show Φ (.lst acc) Γ
    simpa using h
  | x :: xs, acc, hl, hs, h => by
    have hl2 : acc.length + xs.length + 1 ≤ sizeLine := by simpa [Nat.add_assoc] using hl
    refine hs x List.mem_cons_self (fun o Γ4 => match o with
      | some y => acc.length < sizeLine ∧ lcF g tt te vs Φ (xs.map f) (acc ++ [y]) (wipeD Γ4 vs)
      | none => lcF g tt te vs Φ (xs.map f) acc (wipeD Γ4 vs)) fun Γ2 e => ?_
    by_cases hp : p x = true
    · simp only [hp, if_true]
      refine ⟨by omega, ?_⟩
      rw [e]
      refine lc_ok p q xs (acc ++ [q x]) (by simp; omega) (fun y hy => hs y (List.mem_cons_of_mem _ hy)) ?_
      rw [List.filter_cons_of_pos hp, List.map_cons] at h
      simpa using h
    · simp only [hp, if_false]
      rw [e]
      refine lc_ok p q xs acc (by omega) (fun y hy => hs y (List.mem_cons_of_mem _ hy)) ?_
      rw [List.filter_cons_of_neg hp] at h
      exact h
/-- .. without a test -/
theorem lc_map {Φ : Cl → Gm → Prop} {te : TF} {Γ : Gm} (q : α → D) (xs : List α) (hl : xs.length ≤ sizeLine)
    (hs : ∀ x ∈ xs, ∀ K : D → Gm → Prop, (∀ Γ2, wipeD Γ2 vs = Γ → K (q x) Γ2) → g (f x) Γ fun Γ2 => te nvr Γ2 fun y Γ4 => K y Γ4) (h : Φ (.lst (xs.map q)) Γ) : lcF g tYesD te vs Φ (xs.map f) [] Γ := by
  refine lc_ok (fun _ => true) q xs [] (by simpa using hl) (fun x hx K hK => ?_) (by
    rw [List.filter_eq_self.mpr fun _ _ => rfl]
    simpa using h)
  have := hs x hx (fun y Γ4 => K (some y) Γ4) fun Γ2 e => by simpa using hK Γ2 e
  simpa [tYesD] using this
/-- a comprehension whose turns change what is known -/
theorem lc_inv {Φ : Cl → Gm → Prop} {tt : TTD} {te : TF} (St : β → Gm) (P : List α → List D → β → Prop) (hs : ∀ x xs acc a, P (x :: xs) acc a → acc.length < sizeLine ∧ ∀ K : Option D → Gm → Prop, (∀ d b Γ2, P xs (acc ++ [d]) b → wipeD Γ2 vs = St b → K (some d) Γ2) → (∀ b Γ2, P xs acc b → wipeD Γ2 vs = St b → K none Γ2) → g (f x) (St a) fun Γ2 => tt nvr Γ2 fun b Γ3 => if b = true then te nvr Γ3 fun y Γ4 => K (some y) Γ4 else K none Γ3)
    (h : ∀ acc b, P [] acc b → Φ (.lst acc) (St b)) : ∀ (xs : List α) (acc : List D) (a : β), P xs acc a → lcF g tt te vs Φ (xs.map f) acc (St a)
  | [], acc, a, p => h acc a p
  | x :: xs, acc, a, p => by
    obtain ⟨hl, hq⟩ := hs x xs acc a p
    have := hq (fun o Γ4 => match o with
      | some y => acc.length < sizeLine ∧ lcF g tt te vs Φ (xs.map f) (acc ++ [y]) (wipeD Γ4 vs)
      | none => lcF g tt te vs Φ (xs.map f) acc (wipeD Γ4 vs)) (fun d b Γ2 q e => ⟨hl, by rw [e]; exact lc_inv St P hs h xs (acc ++ [d]) b q⟩) fun b Γ2 q e => by
        show lcF g tt te vs Φ (xs.map f) acc (wipeD Γ2 vs)
        rw [e]
        exact lc_inv St P hs h xs acc b q
    exact this
/-- .. the items by a map into typed ones -/
theorem lc_map2 {γ : Type} {Φ : Cl → Gm → Prop} {te : TF} (St : β → Gm) (e : γ → D) (Q : α → γ → Prop) (I : β → Prop) {xs : List α} {a : β} (hl : xs.length ≤ sizeLine) (ha : I a)
    (hs : ∀ x ∈ xs, ∀ a, I a → ∀ K : D → Gm → Prop, (∀ z b Γ2, Q x z → I b → wipeD Γ2 vs = St b → K (e z) Γ2) → g (f x) (St a) fun Γ2 => te nvr Γ2 fun y Γ4 => K y Γ4) (h : ∀ (zs : List γ) (b : β), zs.length = xs.length → (∀ z ∈ zs, ∃ x ∈ xs, Q x z) → I b → Φ (.lst (zs.map e)) (St b)) : lcF g tYesD te vs Φ (xs.map f) [] (St a) := by
  refine lc_inv St (fun rest acc b => I b ∧ ∃ (zs : List γ), acc = zs.map e ∧ zs.length + rest.length = xs.length ∧ (∀ x ∈ rest, x ∈ xs) ∧ ∀ z ∈ zs, ∃ x ∈ xs, Q x z) ?_ ?_ xs [] a ⟨ha, [], rfl, by simp, fun _ h => h, fun _ h => by cases h⟩
  · rintro x rest acc a ⟨ia, zs, rfl, hz, hm, hq⟩
    have hz2 : zs.length + (rest.length + 1) = xs.length := hz
    refine ⟨by rw [List.length_map]; omega, fun K k1 k2 => ?_⟩
    simp only [tYesD, if_true]
    refine hs x (hm x List.mem_cons_self) a ia (fun y Γ4 => K (some y) Γ4) fun z b Γ2 qz ib w => k1 _ b Γ2 ⟨ib, zs ++ [z], by simp, by simp; omega, fun y hy => hm y (List.mem_cons_of_mem _ hy), fun y hy => ?_⟩ w
    rcases List.mem_append.mp hy with hy | hy
    · exact hq y hy
    · simp at hy
      subst hy
      exact ⟨x, hm x List.mem_cons_self, qz⟩
  · rintro acc b ⟨ib, zs, rfl, hz, _, hq⟩
    exact h zs b (by simpa using hz) hq ib
end
/-! ### small -/
theorem small {n : Nat} (h : n ≤ 1000) : n ≤ sizeLine := Nat.le_trans h (by decide)
theorem slen_app (x y : Str) : (x ++ y).length = x.length + y.length := by
  show (x.cps ++ y.cps).size = _
  rw [Array.size_append]
  rfl
theorem rangeDs_map (lo : Int) (n : Nat) : rangeDs lo n = (List.range n).map fun (i : Nat) => D.int (lo + (i : Int)) := rfl
theorem ix : (∀ (xs : List D) (i : Int) (k : D → Prop), dIx (.lst xs) (.int i) k = ∃ d, L2.atI xs i = some d ∧ k d) ∧ (∀ (xs : List D) (i : Int) (k : D → Prop), dIx (.tup xs) (.int i) k = ∃ d, L2.atI xs i = some d ∧ k d) ∧ (∀ (xs : List D) (i : Int) (k : D → Prop), dIx (.ro xs) (.int i) k = ∃ d, L2.atI xs i = some d ∧ k d) ∧
    (∀ (z : Str) (i : Int) (k : D → Prop), dIx (.str z) (.int i) k = (z.length ≤ sizeLine ∧ ∃ c, L2.atI z.cps.toList i = some c ∧ k (.str ⟨#[c]⟩))) :=
  ⟨fun _ _ _ => rfl, fun _ _ _ => rfl, fun _ _ _ => rfl, fun _ _ _ => rfl⟩
theorem atI_m {α : Type} {f : α → D} {xs : List α} {i : Int} {k : D → Prop} (h0 : 0 ≤ i) (h : i < xs.length) (hk : ∀ x, xs[i.toNat]? = some x → k (f x)) : ∃ d, L2.atI (xs.map f) i = some d ∧ k d := by
  obtain ⟨x, h1, h2⟩ := atI_int (xs := xs.map f) h0 (by rwa [List.length_map])
  rw [List.getElem?_map] at h2
  obtain ⟨y, h3, h4⟩ := Option.map_eq_some_iff.mp h2
  exact ⟨x, h1, h4 ▸ hk y h3⟩
theorem atI_s {α : Type} {xs : List α} {i : Int} {k : α → Prop} (h0 : 0 ≤ i) (h : i < xs.length) (hk : ∀ x, xs[i.toNat]? = some x → k x) : ∃ d, L2.atI xs i = some d ∧ k d := by
  obtain ⟨x, h1, h2⟩ := atI_int (xs := xs) h0 h
  exact ⟨x, h1, hk x h2⟩
theorem tg : (∀ (Γ : Gm) (Φ : Gm → Prop), gNilD [] Γ Φ = Φ Γ) ∧ (∀ (t : TGD) (u : TGsD) (d : D) (r : List D) (Γ : Gm) (Φ : Gm → Prop), gConsD t u (d :: r) Γ Φ = t d Γ fun Γ' => u r Γ' Φ) ∧
    (∀ (n : Nat) (u : TGsD) (ds : List D) (Γ : Gm) (Φ : Gm → Prop), gTupD n u (.tup ds) Γ Φ = (ds.length = n ∧ u ds Γ Φ)) ∧ (∀ (n : Nat) (u : TGsD) (ds : List D) (Γ : Gm) (Φ : Gm → Prop), gTupD n u (.lst ds) Γ Φ = (ds.length = n ∧ u ds Γ Φ)) :=
  ⟨fun Γ Φ => propext ⟨fun h => h.2, fun h => ⟨rfl, h⟩⟩, fun _ _ _ _ _ _ => rfl, fun _ _ _ _ _ => rfl, fun _ _ _ _ _ => rfl⟩
theorem sIx_nat {n d r : Nat} (h : r ≤ n) : HT.sIx n d (some (r : Int)) = r := by
  unfold HT.sIx
  simp
  repeat' split
  all_goals omega
theorem cutD_to {xs : List D} {r : Nat} (h : r ≤ xs.length) : cutD xs none (some (r : Int)) = xs.take r := by
  unfold cutD
  rw [sIx_nat h]
  rfl
theorem cutD_from {xs : List D} {r : Nat} (h : r ≤ xs.length) : cutD xs (some (r : Int)) none = xs.drop r := by
  unfold cutD
  rw [sIx_nat h, show HT.sIx xs.length xs.length none = xs.length from rfl]
  apply List.take_of_length_le
  rw [List.length_drop]
  omega
/-- reading our own cells -/
theorem ox : (∀ (i : Nat) (T : TF) (R : ExD) (Γ : Gm) (Φ : D → Gm → Prop), tIxO i T R Γ Φ = match Γ.sl[i]? with
      | some (.ow (.lst _)) => T R Γ fun d Γ' => d.asInt fun j => match Γ'.sl[i]? with
        | some (.ow (.lst ds)) => ∃ d, L2.atI ds j = some d ∧ Φ d Γ'
        | _ => False
      | _ => False) ∧
    (∀ (cs : List Str) (i : Nat) (f : Str) (R : ExD) (Γ : Gm) (Φ : D → Gm → Prop), tFldO cs i f R Γ Φ = match Γ.sl[i]? with
      | some (.ow (.ins c fs)) => c ∈ cs ∧ ∃ v, fs.lookup f = some v ∧ Φ v Γ
      | _ => False) ∧
    (∀ (i : Nat) (R : ExD) (Γ : Gm) (Φ : Cl → Gm → Prop), tListOw i R Γ Φ = match Γ.sl[i]? with
      | some (.ow (.lst ds)) => Φ (.lst ds) Γ
      | _ => False) ∧
    (∀ (n i : Nat) (sp : SpD) (U : TBD) (R : ExD) (Γ : Gm) (Φ : Cl → Gm → Prop), tCallBO n i sp U R Γ Φ = U R Γ fun bs Γ' => match Γ'.sl[i]? with
      | some (.ow c) => bs.length = n ∧ hasSl bs = true ∧ sp (bs.map (BD.ad c)) (fun r c' => match r, c' with
        | .fr d, some c' => Φ d (Γ'.set i (.ow c'))
        | _, _ => False) (fun nm pl c' => match c' with
        | some c' => R nm pl (Γ'.set i (.ow c'))
        | none => False)
      | _ => False) :=
  ⟨fun _ _ _ _ _ => rfl, fun _ _ _ _ _ _ => rfl, fun _ _ _ _ => rfl, fun _ _ _ _ _ _ _ => rfl⟩
theorem fx : (∀ (i : Nat) (U : TXD) (R : ExD) (D : EndsD) (Γ : Gm), tRetL i U R D Γ = U R Γ fun xs Γ' => ∃ ds c, xs = ds.map XD.im ++ [.vw i] ∧ clAt Γ' i = some c ∧ ds.length + 1 ≤ sizeLine ∧ D.rt (.fl ds c) Γ') ∧
    (∀ (n i : Nat) (sp : SpD) (U : TBD) (R : ExD) (Γ : Gm) (Φ : D → Gm → Prop), tCallBP n i sp U R Γ Φ = U R Γ fun bs Γ' => match Γ'.sl[i]? with
      | some (.ow c) => bs.length = n ∧ hasSl bs = true ∧ sp (bs.map (BD.ad c)) (fun r c' => match r, c' with
        | .fl pre d, some c' => ∀ a : Addr, a ∉ Γ'.as → Φ (.lst (pre ++ [D.ptr (.ref a)])) ⟨Γ'.sl.set i (.ow c'), Γ'.as ++ [a], Γ'.ws ++ [d]⟩
        | _, _ => False) (fun nm pl c' => match c' with
        | some c' => R nm pl (Γ'.set i (.ow c'))
        | none => False)
      | _ => False) :=
  ⟨fun _ _ _ _ _ => rfl, fun _ _ _ _ _ _ _ => rfl⟩
/-! ### the world -/
theorem wx : (∀ (T : TOD) (R : ExD) (Γ : Gm) (Φ : D → Gm → Prop), tWld T R Γ Φ = T R Γ fun c Γ' => ∀ a : Addr, a ∉ Γ'.as → Φ (.ptr (.ref a)) ⟨Γ'.sl, Γ'.as ++ [a], Γ'.ws ++ [c]⟩) ∧
    (∀ (E T : TF) (R : ExD) (Γ : Gm) (Φ : D → Gm → Prop), tWApp E T R Γ Φ = E R Γ fun d Γ1 => match d with
      | .ptr (.ref a) => ∃ n ds0, Γ1.as[n]? = some a ∧ Γ1.ws[n]? = some (.lst ds0) ∧ T R Γ1 fun x Γ2 => ∃ ds, Γ2.ws[n]? = some (.lst ds) ∧ ds.length < sizeLine ∧ Φ .non ⟨Γ2.sl, Γ2.as, Γ2.ws.set n (.lst (ds ++ [x]))⟩
      | _ => False) ∧
    (∀ (E Ti T : TF) (R : ExD) (Γ : Gm) (Φ : D → Gm → Prop), tWIns E Ti T R Γ Φ = E R Γ fun d Γ1 => match d with
      | .ptr (.ref a) => ∃ n ds0, Γ1.as[n]? = some a ∧ Γ1.ws[n]? = some (.lst ds0) ∧ Ti R Γ1 fun di Γ2 => T R Γ2 fun x Γ3 => di.asInt fun i => ∃ ds, Γ3.ws[n]? = some (.lst ds) ∧ ds.length < sizeLine ∧ 0 ≤ i ∧ i < 2 ^ 63 ∧ Φ .non ⟨Γ3.sl, Γ3.as, Γ3.ws.set n (.lst (ds.take i.toNat ++ [x] ++ ds.drop i.toNat))⟩
      | _ => False) ∧
    (∀ (T : TF) (R : ExD) (Γ : Gm) (Φ : D → Gm → Prop), tVw T R Γ Φ = ∃ sl, ResL Γ.as Γ.ws Γ.sl sl ∧ T nvr ⟨sl, [], []⟩ fun d _ => d.nov (gP Γ) (gQ Γ) = true ∧ Φ d Γ) ∧
    (∀ (T : TOD) (R : ExD) (Γ : Gm) (Φ : Cl → Gm → Prop), tVwO T R Γ Φ = ∃ sl, ResL Γ.as Γ.ws Γ.sl sl ∧ T nvr ⟨sl, [], []⟩ fun c _ => c.nov (gP Γ) (gQ Γ) = true ∧ Φ c Γ) ∧
    (∀ (T : TTD) (R : ExD) (Γ : Gm) (Φ : Bool → Gm → Prop), tVwT T R Γ Φ = ∃ sl, ResL Γ.as Γ.ws Γ.sl sl ∧ T nvr ⟨sl, [], []⟩ fun b _ => Φ b Γ) :=
  ⟨fun _ _ _ _ => rfl, fun _ _ _ _ _ => rfl, fun _ _ _ _ _ _ => rfl, fun _ _ _ _ => rfl, fun _ _ _ _ => rfl, fun _ _ _ _ => rfl⟩
/-! ### the readings' rules for views -/
section
variable {R : ExD} {Γ : Gm}
theorem rx :
    (∀ (T : TF) (Φ : XD → Gm → Prop), tIm1 T R Γ Φ = T R Γ fun d Γ' => Φ (.im d) Γ') ∧
    (∀ (j : Nat) (Φ : XD → Gm → Prop), tVw1 j R Γ Φ = ((clAt Γ j).isSome = true ∧ Φ (.vw j) Γ)) ∧
    (∀ (j : Nat) (Φ : XD → Gm → Prop), tSl1 j R Γ Φ = ((clAt Γ j).isSome = true ∧ Φ .sl Γ)) ∧
    (∀ (Φ : List XD → Gm → Prop), tNilX R Γ Φ = Φ [] Γ) ∧
    (∀ (T : TXE) (U : TXD) (Φ : List XD → Gm → Prop), tConsX T U R Γ Φ = T R Γ fun x Γ1 => U R Γ1 fun xs Γ2 => Φ (x :: xs) Γ2) ∧
    (∀ (f : D → D → (D → Prop) → Prop) (A B : TXE) (Φ : D → Gm → Prop), tBinX f A B R Γ Φ = A R Γ fun a Γ1 => B R Γ1 fun b Γ2 => ([a, b].all (XD.ok Γ2 none)) = true ∧ f (a.d Γ2) (b.d Γ2) fun d => d.nov (xP Γ2 [a, b]) (xQ Γ2 [a, b]) = true ∧ Φ d Γ2) ∧
    (∀ (f : D → D → (D → Prop) → Prop) (A B : TXE) (Φ : Bool → Gm → Prop), tBinTX f A B R Γ Φ = A R Γ fun a Γ1 => B R Γ1 fun b Γ2 => ([a, b].all (XD.ok Γ2 none)) = true ∧ f (a.d Γ2) (b.d Γ2) fun d => match d with
      | .bl c => Φ c Γ2
      | _ => False) ∧
    (∀ (n : Nat) (sp : SpD) (U : TAD) (Φ : D → Gm → Prop), tCallD n sp U R Γ Φ = U R Γ fun ds Γ' => ds.length = n ∧ sp (ds.map .im) (fun r _ => Φ r.d Γ') (fun c pl _ => R c pl Γ')) ∧
    (∀ (n : Nat) (sp : SpD) (U : TAD) (Φ : Cl → Gm → Prop), tCallO n sp U R Γ Φ = U R Γ fun ds Γ' => ds.length = n ∧ sp (ds.map .im) (fun r _ => match r with
      | .fr c => Φ c Γ'
      | _ => False) (fun c pl _ => R c pl Γ')) ∧
    (∀ (i : Nat) (U : TBD) (Φ : List BD → Gm → Prop), tSlB i U R Γ Φ = match Γ.sl[i]? with
      | some (.ow _) => U R Γ fun bs Γ2 => Φ (.sl :: bs) Γ2
      | _ => False) ∧
    (∀ (n i : Nat) (sp : SpD) (U : TBD) (Φ : D → Gm → Prop), tCallB n i sp U R Γ Φ = U R Γ fun bs Γ' => match Γ'.sl[i]? with
      | some (.ow c) => bs.length = n ∧ hasSl bs = true ∧ sp (bs.map (BD.ad c)) (fun r c' => match c' with
        | some c' => Φ r.d (Γ'.set i (.ow c'))
        | none => False) (fun nm pl c' => match c' with
        | some c' => R nm pl (Γ'.set i (.ow c'))
        | none => False)
      | _ => False) ∧
    (∀ (n : Nat) (c : Str) (sp : SpD) (U : TAD) (Φ : Cl → Gm → Prop), tMakeO n c sp U R Γ Φ = U R Γ fun ds Γ' => ds.length + 1 = n ∧ sp (.ow (.ins c []) :: ds.map .im) (fun r c' => r = .im .non ∧ match c' with
      | some c1 => Φ c1 Γ'
      | none => False) (fun nm pl _ => R nm pl Γ')) ∧
    (∀ (cs : List Str) (f : Str) (T : TF) (Φ : D → Gm → Prop), tFldD cs f T R Γ Φ = T R Γ fun d Γ' => match d with
      | .obj c fs => c ∈ cs ∧ ∃ v, fs.lookup f = some v ∧ Φ v Γ'
      | _ => False) ∧
    (∀ (n : Nat) (m : Str) (sp : Str → Option SpD) (T : TF) (U : TAD) (Φ : D → Gm → Prop), tMethD n m sp T U R Γ Φ = T R Γ fun d Γ1 => match d with
      | .obj c fs => fs.lookup m = none ∧ ∃ s, sp c = some s ∧ U R Γ1 fun ds Γ2 => ds.length + 1 = n ∧ s (.im (.obj c fs) :: ds.map .im) (fun r _ => Φ r.d Γ2) (fun nm pl _ => R nm pl Γ2)
      | _ => False) ∧
    (∀ (sp : Str → Option SpD) (A B : TF) (Φ : D → Gm → Prop), tBinM sp A B R Γ Φ = A R Γ fun a Γ1 => B R Γ1 fun b Γ2 => match a, b with
      | .obj c fs, .obj c' gs => c = c' ∧ match sp c with
        | some s => s [.im (.obj c fs), .im (.obj c' gs)] (fun r _ => Φ r.d Γ2) (fun nm pl _ => R nm pl Γ2)
        | none => False
      | _, _ => False) ∧
    (∀ (it : TAD) (g : TGD) (tt : TTD) (te : TF) (vs : List Nat) (Φ : Cl → Gm → Prop), tLcD it g tt te vs R Γ Φ = it R Γ fun ds Γ1 => nOw vs Γ1 = true ∧ lcF g tt te vs Φ ds [] (wipeD Γ1 vs)) ∧
    (∀ (T : TF) (Φ : Cl → Gm → Prop), tListO T R Γ Φ = T R Γ fun d Γ' => match d with
      | .tup ds => Φ (.lst ds) Γ'
      | .lst ds => Φ (.lst ds) Γ'
      | .ro ds => Φ (.lst ds) Γ'
      | _ => False) ∧
    (∀ (i : Nat) (T : TF) (Φ : D → Gm → Prop), tAppend i T R Γ Φ = match Γ.sl[i]? with
      | some (.ow (.lst _)) => T R Γ fun d Γ' => match Γ'.sl[i]? with
        | some (.ow (.lst ds)) => ds.length < sizeLine ∧ Φ .non (Γ'.set i (.ow (.lst (ds ++ [d]))))
        | _ => False
      | _ => False) ∧
    (∀ (f : List D → (D → Prop) → Prop) (i : Nat) (Φ : D → Gm → Prop), tOwn f i R Γ Φ = match Γ.sl[i]? with
      | some (.ow (.lst ds)) => f ds fun d => Φ d Γ
      | _ => False) :=
  ⟨fun _ _ => rfl, fun _ _ => rfl, fun _ _ => rfl, fun _ => rfl, fun _ _ _ => rfl, fun _ _ _ _ => rfl, fun _ _ _ _ => rfl, fun _ _ _ _ => rfl, fun _ _ _ _ => rfl, fun _ _ _ => rfl, fun _ _ _ _ _ => rfl, fun _ _ _ _ _ => rfl, fun _ _ _ _ => rfl, fun _ _ _ _ _ _ => rfl, fun _ _ _ _ => rfl, fun _ _ _ _ _ _ => rfl, fun _ _ => rfl, fun _ _ _ => rfl, fun _ _ _ => rfl⟩
end
end Vl

namespace Vl
open PySem PySem.Spec PyProof.Rows L2 PySem.W
/-! ### sorted, each once -/
section
variable {α : Type} [DecidableEq α]
def dd : List α → List α
  | [] => []
  | x :: xs => if x ∈ xs then dd xs else x :: dd xs
theorem mem_dd {a : α} : ∀ {xs : List α}, a ∈ dd xs ↔ a ∈ xs
  | [] => Iff.rfl
  | x :: xs => by
    unfold dd
    split
    · rename_i h
      rw [mem_dd, List.mem_cons]
      exact ⟨.inr, fun q => q.elim (fun e => e ▸ h) id⟩
    · rw [List.mem_cons, mem_dd, List.mem_cons]
theorem nodup_dd : ∀ xs : List α, (dd xs).Nodup
  | [] => List.nodup_nil
  | x :: xs => by
    unfold dd
    split
    · exact nodup_dd xs
    · rename_i h
      exact List.nodup_cons.mpr ⟨fun q => h (mem_dd.mp q), nodup_dd xs⟩
theorem dd_of_nodup : ∀ {xs : List α}, xs.Nodup → dd xs = xs
  | [], _ => rfl
  | x :: xs, h => by
    have h2 := List.nodup_cons.mp h
    unfold dd
    rw [if_neg h2.1, dd_of_nodup h2.2]
theorem dd_len : ∀ xs : List α, (dd xs).length ≤ xs.length
  | [] => Nat.le_refl _
  | x :: xs => by
    have := dd_len xs
    unfold dd
    split <;> simp only [List.length_cons] <;> omega
/-- a total order, as a test -/
structure Ord (le : α → α → Bool) : Prop where
  tr : ∀ a b c, le a b = true → le b c = true → le a c = true
  tot : ∀ a b, (le a b || le b a) = true
  as : ∀ a b, le a b = true → le b a = true → a = b
def srt (le : α → α → Bool) (xs : List α) : List α := (dd xs).mergeSort le
variable {le : α → α → Bool}
theorem mem_srt {a : α} {xs : List α} : a ∈ srt le xs ↔ a ∈ xs := ((List.mergeSort_perm (dd xs) le).mem_iff).trans mem_dd
theorem nodup_srt (xs : List α) : (srt le xs).Nodup := ((List.mergeSort_perm (dd xs) le).nodup_iff).mpr (nodup_dd xs)
theorem srt_len (xs : List α) : (srt le xs).length ≤ xs.length := by
  unfold srt
  rw [List.length_mergeSort]
  exact dd_len xs
theorem sorted_srt (o : Ord le) (xs : List α) : (srt le xs).Pairwise fun a b => le a b = true := List.pairwise_mergeSort o.tr o.tot _
/-- there is one such list -/
theorem srt_uniq (o : Ord le) {xs rs : List α} (h1 : rs.Nodup) (h2 : ∀ k, k ∈ rs ↔ k ∈ xs) (h3 : rs.Pairwise fun a b => le a b = true) : rs = srt le xs :=
  List.Perm.eq_of_pairwise (fun a b _ _ p q => o.as a b p q) h3 (sorted_srt o xs) ((List.perm_ext_iff_of_nodup h1 (nodup_srt xs)).mpr fun a => (h2 a).trans mem_srt.symm)
theorem srt_congr (o : Ord le) {xs ys : List α} (h : ∀ k, k ∈ xs ↔ k ∈ ys) : srt le xs = srt le ys := srt_uniq o (nodup_srt xs) (fun k => mem_srt.trans (h k)) (sorted_srt o xs)
end
/-! ### texts, pairs of texts -/
theorem str_ext {x y : Str} (h : x.cps.toList = y.cps.toList) : x = y := by
  cases x; cases y
  simp only [Str.mk.injEq]
  exact Array.toList_inj.mp h
def sLe (a b : Str) : Bool := decide (a.cps.toList ≤ b.cps.toList)
theorem ord_sLe : Ord sLe := ⟨fun a b c h1 h2 => decide_eq_true (List.le_trans (of_decide_eq_true h1) (of_decide_eq_true h2)), fun a b => by
  rcases List.le_total a.cps.toList b.cps.toList with h | h <;> simp [sLe, h], fun a b h1 h2 => str_ext (List.le_antisymm (of_decide_eq_true h1) (of_decide_eq_true h2))⟩
def pLe (a b : Pr) : Bool := if a.1 = b.1 then sLe a.2 b.2 else sLe a.1 b.1
theorem ord_pLe : Ord pLe where
  tr a b c h1 h2 := by
    unfold pLe at *
    by_cases e1 : a.1 = b.1
    · rw [if_pos e1] at h1
      by_cases e2 : b.1 = c.1
      · rw [if_pos e2] at h2
        rw [if_pos (e1.trans e2)]
        exact ord_sLe.tr _ _ _ h1 h2
      · rw [if_neg e2] at h2
        rw [if_neg (fun e => e2 (e1.symm.trans e)), e1]
        exact h2
    · rw [if_neg e1] at h1
      by_cases e2 : b.1 = c.1
      · rw [if_neg (fun e => e1 (e.trans e2.symm)), ← e2]
        exact h1
      · rw [if_neg e2] at h2
        have e3 : ¬ a.1 = c.1 := fun e => e1 (ord_sLe.as _ _ h1 (by rw [e]; exact h2))
        rw [if_neg e3]
        exact ord_sLe.tr _ _ _ h1 h2
  tot a b := by
    unfold pLe
    by_cases e : a.1 = b.1
    · rw [if_pos e, if_pos e.symm]
      exact ord_sLe.tot _ _
    · rw [if_neg e, if_neg (fun q => e q.symm)]
      exact ord_sLe.tot _ _
  as a b h1 h2 := by
    unfold pLe at *
    by_cases e : a.1 = b.1
    · rw [if_pos e] at h1
      rw [if_pos e.symm] at h2
      exact Prod.ext e (ord_sLe.as _ _ h1 h2)
    · rw [if_neg e] at h1
      rw [if_neg (fun q => e q.symm)] at h2
      exact (e (ord_sLe.as _ _ h1 h2)).elim
def uP (p : Pr) : UK := [.inr p.1, .inr p.2]
theorem uP_inj {p q : Pr} (h : uP p = uP q) : p = q := by
  cases p; cases q
  simp only [uP, List.cons.injEq, Sum.inr.injEq, and_true] at h
  exact Prod.ext h.1 h.2
theorem tupD_uP (p : Pr) : tupD (uP p) = eP p := rfl
theorem uLe_uP (p q : Pr) : uLe (uP p) (uP q) = pLe p q := by
  show (!dataLt (uPd (uP q)) (uPd (uP p))) = pLe p q
  show (!dataLt (.tuple [.str q.1, .str q.2]) (.tuple [.str p.1, .str p.2])) = pLe p q
  rw [dataLt_pair (by simp [alike]) (by simp [alike]), dataLt_str, dataLt_str]
  simp only [PyData.eqv, beq_iff_eq]
  unfold pLe
  by_cases e : p.1 = q.1
  · rw [if_pos e, if_pos e.symm]
    by_cases e2 : q.2 = p.2
    · rw [if_pos e2, e2]
      have := ord_sLe.tot p.2 p.2
      simpa using this.symm
    · rw [if_neg e2, not_lt_str]
      rfl
  · rw [if_neg e, if_neg (fun q => e q.symm), not_lt_str]
    rfl
theorem uPs_map {rs : List UK} {ws : List Pr} (h : ∀ k ∈ rs, k ∈ ws.map uP) : ∃ ps : List Pr, rs = ps.map uP := by
  induction rs with
  | nil => exact ⟨[], rfl⟩
  | cons r rs ih =>
    obtain ⟨ps, rfl⟩ := ih fun k hk => h k (List.mem_cons_of_mem _ hk)
    obtain ⟨p, _, rfl⟩ := List.mem_map.mp (h r List.mem_cons_self)
    exact ⟨p :: ps, rfl⟩
theorem mem_map_inj {α β : Type} {f : α → β} (hf : ∀ {a b}, f a = f b → a = b) {a : α} {xs : List α} : f a ∈ xs.map f ↔ a ∈ xs :=
  ⟨fun h => by obtain ⟨b, hb, e⟩ := List.mem_map.mp h; exact hf e ▸ hb, fun h => List.mem_map_of_mem h⟩
theorem nodup_of_map {α β : Type} {f : α → β} : ∀ {xs : List α}, (xs.map f).Nodup → xs.Nodup
  | [], _ => List.nodup_nil
  | x :: xs, h => by
    have h2 := List.nodup_cons.mp h
    exact List.nodup_cons.mpr ⟨fun q => h2.1 (List.mem_map_of_mem q), nodup_of_map h2.2⟩
/-- the sorts, each once, in order -/
def srtP (ws : List Pr) : List Pr := srt pLe ws
theorem sortSet_pr {i : Nat} {it : TAD} {R : ExD} {Γ : Gm} {Φ : Cl → Gm → Prop} (ws : List Pr) (h1 : Nat.blt i Γ.sl.length = true) (h2 : ws.length < 64) (h : Φ (.lst ((srtP ws).map eP)) Γ) (hi : ∀ Ψ : List D → Gm → Prop, Ψ (ws.map eP) Γ → it R Γ Ψ) : tSortSet i it R Γ Φ := by
  refine hi _ ⟨h1, ws.map uP, ?_, by rwa [List.length_map], ?_, ?_, ?_⟩
  · rw [List.map_map]; rfl
  · intro d hd d' hd'
    rw [List.map_map] at hd hd'
    obtain ⟨k, _, rfl⟩ := List.mem_map.mp hd
    obtain ⟨k', _, rfl⟩ := List.mem_map.mp hd'
    rfl
  · intro k hk
    obtain ⟨p, _, rfl⟩ := List.mem_map.mp hk
    exact fun h => by cases h
  · intro rs n1 n2 n3
    obtain ⟨ps, rfl⟩ := uPs_map (ws := ws) fun k hk => (n2 k).mp hk
    have e : ps = srtP ws := srt_uniq ord_pLe (nodup_of_map n1) (fun k => ⟨fun q => (mem_map_inj uP_inj).mp ((n2 _).mp (List.mem_map_of_mem q)), fun q => (mem_map_inj uP_inj).mp ((n2 _).mpr (List.mem_map_of_mem q))⟩) (by
      rw [List.pairwise_map] at n3
      exact n3.imp fun {a b} q => by rwa [uLe_uP] at q)
    subst e
    rw [List.map_map]
    exact h
theorem mem_srtP {p : Pr} {ws : List Pr} : p ∈ srtP ws ↔ p ∈ ws := mem_srt
theorem srtP_len (ws : List Pr) : (srtP ws).length ≤ ws.length := srt_len ws
theorem srtP_congr {xs ys : List Pr} (h : ∀ k, k ∈ xs ↔ k ∈ ys) : srtP xs = srtP ys := srt_congr ord_pLe h
theorem eP_pd (p : Pr) : (eP p).pd = some (.tuple [.str p.1, .str p.2]) := by simp [eP, D.pd, Ds.pd]
theorem lt_pr {p q : Pr} {k : D → Prop} (h : k (.bl (!pLe q p))) : dLt (eP p) (eP q) k := by
  refine ⟨_, _, eP_pd p, eP_pd q, by simp [alike, alikeAll], by simp, by simp [PyData.depth, PyData.depthAll], ?_⟩
  rw [← uLe_uP] at h
  have e : (!uLe (uP q) (uP p)) = dataLt (.tuple [.str p.1, .str p.2]) (.tuple [.str q.1, .str q.2]) := Bool.not_not _
  rw [e] at h
  exact h
end Vl

namespace Vl
open PySem PySem.Spec PyProof.Rows L2 PySem.W
/-! ### sorted(set(xs)) -/
theorem reps_ul {K : PySem.W.Frag} {G : Hp} : ∀ {xs : List V} {ks : List UK}, Reps K G xs (ks.map tupD) → ∃ L : UL, xs = L.map (fun p => V.ref p.1) ∧ L.map (·.2) = ks ∧ ∀ p ∈ L, SqT K G p.1 (p.2.map kV) ∧ p.2.length ≤ sizeLine
  | _, [], .nil => ⟨[], rfl, rfl, fun _ h => by cases h⟩
  | _, k :: ks, .cons h t => by
    obtain ⟨p, rfl, h1, h2⟩ := rep_tupD h
    obtain ⟨L, rfl, rfl, h3⟩ := reps_ul t
    refine ⟨(p, k) :: L, rfl, rfl, fun q hq => ?_⟩
    rcases List.mem_cons.mp hq with rfl | hq
    · exact ⟨h1, h2⟩
    · exact h3 q hq
theorem ul_reps {K : PySem.W.Frag} {G : Hp} : ∀ l : UL, (∀ r ∈ l, SqT K G r.1 (r.2.map kV) ∧ r.2.length ≤ sizeLine) → Reps K G (l.map fun q => V.ref q.1) ((l.map (·.2)).map tupD)
  | [], _ => .nil
  | r :: l, h => .cons (.tup (h r List.mem_cons_self).1 (by rw [List.length_map]; exact (h r List.mem_cons_self).2) (kDs_rep r.2)) (ul_reps l fun q hq => h q (List.mem_cons_of_mem _ hq))
def tSortSetL (T : TF) : TOD := fun R Γ Φ => T R Γ fun d Γ1 => ∃ ks : List UK, d = .lst (ks.map tupD) ∧ ks.length < 64 ∧ AllAlike (ks.map uPd) ∧ (∀ k ∈ ks, k ≠ []) ∧
  ∀ rs : List UK, rs.Nodup → (∀ k, k ∈ rs ↔ k ∈ ks) → rs.Pairwise (fun a b => uLe a b = true) → Φ (.lst (rs.map tupD)) Γ1
section
variable {X : Cx} {tk : Tk} {e : Expr} {T : TF} {p p2 pos pos2 : Pos} {k : Nat}
theorem po_sortSetL (hr : Room k X.A) (hc : X.calm = true) (hm : X.mg "sorted" = none) (hm2 : X.mg "set" = none) (he : PF X tk e T) (hg : Gl X "sorted" := by rfl) (hg2 : Gl X "set" := by rfl)
    (hs : starEach [e] X.env = (false, eval e X.env) :: starEach [] X.env := by rfl) (hs2 : starEach [.Call (.Name "set" p2) [e] [] pos2] X.env = (false, eval (.Call (.Name "set" p2) [e] [] pos2) X.env) :: starEach [] X.env := by rfl) :
    PFO X tk (.Call (.Name "sorted" p) [.Call (.Name "set" p2) [e] [] pos2] [] pos) (tSortSetL T) := by
  have u64 := hu64 hr
  refine pe_imp (pe_callB (cr_sortU hc u64) hg hm (by decide +kernel) (pa_cons (pe_callTy (cr_setOfU hc u64) hg2 hm2 (by decide +kernel) (pa_cons he pa_nil hs) (by decide) (by decide) hs rfl) pa_nil hs2) (by decide) (by decide) hs2) fun σ H Q ⟨B, R, Γ, G, Φ, t, en, h, kk⟩ => ?_
  refine ⟨B, R, Γ, G, _, t, en, h, fun v G1 H1 Γ1 d p1 rd ⟨ks, ed, few, hal, hne, hΦ⟩ => ?_⟩
  subst ed
  cases rd with
  | lst hp hl rr =>
    obtain ⟨L0, rfl, rfl, hL0⟩ := reps_ul rr
    have e1 := p1.env
    refine ⟨_, L0, rfl, SqL.of (e1.gh _ _ hp), fun q hq => same_t e1.gh (hL0 q hq).1, by rwa [List.length_map] at few, fun D L hD hg => ?_⟩
    have pD := e1.cell (o := SetUO X.prog X.w D L) hD
    have tupL : ∀ q ∈ L, SqT X.K G1 q.1 (q.2.map kV) ∧ q.2.length ≤ sizeLine := fun q hq => hL0 q (hg.sub q hq)
    have mem : ∀ k, k ∈ L.map (·.2) ↔ k ∈ L0.map (·.2) := fun k => ⟨fun z => by
      obtain ⟨q, hq, rfl⟩ := List.mem_map.mp z
      exact List.mem_map.mpr ⟨q, hg.sub q hq, rfl⟩, fun z => by
      obtain ⟨q, hq, rfl⟩ := List.mem_map.mp z
      exact hg.all q (by rw [List.take_length]; exact hq)⟩
    refine ⟨D, L, rfl, upd_same, fun q hq => same_t pD.env.gh (tupL q hq).1, fun d hd d' hd' => ?_, fun q hq => hne _ ((mem _).mp (List.mem_map.mpr ⟨q, hq, rfl⟩)), fun L' p' pm nd pw hp' => ?_⟩
    · obtain ⟨q, hq, rfl⟩ := List.mem_map.mp hd
      obtain ⟨q', hq', rfl⟩ := List.mem_map.mp hd'
      exact hal _ (List.mem_map.mpr ⟨_, (mem _).mp (List.mem_map.mpr ⟨q, hq, rfl⟩), rfl⟩) _ (List.mem_map.mpr ⟨_, (mem _).mp (List.mem_map.mpr ⟨q', hq', rfl⟩), rfl⟩)
    · have pC := pD.trans (pD.env.cell (o := .lst (L'.map fun q => V.ref q.1)) hp')
      have gp : G1 p' = none := pD.env.gh.free hp'
      have hl' : L'.length ≤ sizeLine := by
        rw [pm.length_eq]
        have := hg.len
        rw [List.length_map] at few
        exact Nat.le_trans this (Nat.le_trans (Nat.le_of_lt few) (by decide))
      refine kk (.ref p') G1 _ Γ1 (.lst ((L'.map (·.2)).map tupD)) (p1.trans pC) ⟨p', _, rfl, gp, upd_same, ⟨_, rfl, by rw [List.length_map]; exact hl', ul_reps L' fun r hr => tupL r (pm.mem_iff.mp hr)⟩, (p1.trans pD).back hp', (p1.trans pD).env.wd.out hp'⟩ (hΦ _ nd (fun k => ?_) ((List.pairwise_map (f := fun p : Addr × UK => p.2) (R := fun a b => uLe a b = true)).mpr pw))
      rw [(pm.map (·.2)).mem_iff]
      exact mem k
  | _ => skip
end
theorem sortSetL_pr {T : TF} {R : ExD} {Γ Γ1 : Gm} {Φ : Cl → Gm → Prop} (ws : List Pr) (h2 : ws.length < 64) (hT : ∀ Ψ : D → Gm → Prop, Ψ (.lst (ws.map eP)) Γ1 → T R Γ Ψ) (h : Φ (.lst ((srtP ws).map eP)) Γ1) : tSortSetL T R Γ Φ := by
  refine hT _ ⟨ws.map uP, ?_, by rwa [List.length_map], ?_, ?_, ?_⟩
  · rw [List.map_map]; rfl
  · intro d hd d' hd'
    rw [List.map_map] at hd hd'
    obtain ⟨k, _, rfl⟩ := List.mem_map.mp hd
    obtain ⟨k', _, rfl⟩ := List.mem_map.mp hd'
    rfl
  · intro k hk
    obtain ⟨p, _, rfl⟩ := List.mem_map.mp hk
    exact fun h => by cases h
  · intro rs n1 n2 n3
    obtain ⟨ps, rfl⟩ := uPs_map (ws := ws) fun k hk => (n2 k).mp hk
    have e : ps = srtP ws := srt_uniq ord_pLe (nodup_of_map n1) (fun k => ⟨fun q => (mem_map_inj uP_inj).mp ((n2 _).mp (List.mem_map_of_mem q)), fun q => (mem_map_inj uP_inj).mp ((n2 _).mpr (List.mem_map_of_mem q))⟩) (by
      rw [List.pairwise_map] at n3
      exact n3.imp fun {a b} q => by rwa [uLe_uP] at q)
    subst e
    rw [List.map_map]
    exact h
end Vl

namespace Vl
open PySem PySem.Spec PyProof.Rows L2 PySem.W
/-! ### sorted(xs), of a list of data -/
def tSortL (T : TF) : TOD := fun R Γ Φ => T R Γ fun d Γ1 => ∃ zs : List (D × PyData), d = .lst (zs.map (·.1)) ∧ (∀ z ∈ zs, z.1.pd = some z.2) ∧ AllAlike (zs.map (·.2)) ∧ Sortable (zs.map (·.2)) ∧ (∀ z ∈ zs, z.2.depth ≤ 60) ∧
  Φ (.lst ((zs.mergeSort (dataLe false fun z : D × PyData => z.2)).map (·.1))) Γ1
theorem reps_zip {K : PySem.W.Frag} {G : Hp} : ∀ {xs : List V} {zs : List (D × PyData)}, Reps K G xs (zs.map (·.1)) → ∃ ts : List (V × D × PyData), xs = ts.map (·.1) ∧ zs = ts.map (·.2) ∧ ∀ t ∈ ts, Rep K G t.1 t.2.1
  | _, [], .nil => ⟨[], rfl, rfl, fun _ h => by cases h⟩
  | _, z :: zs, .cons h t => by
    obtain ⟨ts, rfl, rfl, h3⟩ := reps_zip t
    refine ⟨(_, z) :: ts, rfl, rfl, fun q hq => ?_⟩
    rcases List.mem_cons.mp hq with rfl | hq
    · exact h
    · exact h3 q hq
theorem zip_reps {K : PySem.W.Frag} {G : Hp} : ∀ {ts : List (V × D × PyData)}, (∀ t ∈ ts, Rep K G t.1 t.2.1) → Reps K G (ts.map (·.1)) (ts.map (·.2.1))
  | [], _ => .nil
  | t :: ts, h => .cons (h t List.mem_cons_self) (zip_reps fun q hq => h q (List.mem_cons_of_mem _ hq))
section
variable {X : Cx} {tk : Tk} {e : Expr} {T : TF} {p pos : Pos} {k : Nat}
theorem po_sortL (hr : Room k X.A) (hm : X.mg "sorted" = none) (he : PF X tk e T) (hg : Gl X "sorted" := by rfl) (hs : starEach [e] X.env = (false, eval e X.env) :: starEach [] X.env := by rfl) : PFO X tk (.Call (.Name "sorted" p) [e] [] pos) (tSortL T) := by
  have u64 := hu64 hr
  refine pe_imp (pe_callB (cr_sortA u64) hg hm (by decide +kernel) (pa_cons he pa_nil hs) (by decide) (by decide) hs) fun σ H Q ⟨B, R, Γ, G, Φ, t, en, h, kk⟩ => ⟨B, R, Γ, G, _, t, en, h, fun v G1 H1 Γ1 d p1 rd ⟨zs, ed, hpd, hal, hso, hde, hΦ⟩ => ?_⟩
  subst ed
  cases rd with
  | lst hp hl rr =>
    obtain ⟨ts, rfl, rfl, hts⟩ := reps_zip rr
    have e1 := p1.env
    refine ⟨_, ts.map fun t => (t.1, t.2.2), rfl, by rw [List.map_map]; exact SqL.of (e1.gh _ _ hp), fun z hz => ?_, by rw [List.map_map] at hal ⊢; exact hal, by rw [List.map_map] at hso ⊢; exact hso, fun z hz => ?_, fun l hl2 => ?_⟩
    · obtain ⟨t, ht, rfl⟩ := List.mem_map.mp hz
      exact (hts t ht).dp e1.gh (hpd _ (List.mem_map_of_mem ht))
    · obtain ⟨t, ht, rfl⟩ := List.mem_map.mp hz
      exact hde _ (List.mem_map_of_mem ht)
    · have m1 := List.map_mergeSort (r := dataLe false fun t : V × D × PyData => t.2.2) (s := dataLe false fun z : V × PyData => z.2) (f := fun t => (t.1, t.2.2)) (l := ts) fun a _ b _ => rfl
      have m2 := List.map_mergeSort (r := dataLe false fun t : V × D × PyData => t.2.2) (s := dataLe false fun z : D × PyData => z.2) (f := fun t => t.2) (l := ts) fun a _ b _ => rfl
      rw [← m2] at hΦ
      rw [← m1, List.map_map]
      rw [List.map_map] at hΦ
      have mem : ∀ t ∈ ts.mergeSort (dataLe false fun t : V × D × PyData => t.2.2), Rep X.K G1 t.1 t.2.1 := fun t ht => hts t ((List.mergeSort_perm _ _).mem_iff.mp ht)
      refine kk (.ref l) G1 _ Γ1 (.lst (List.map ((fun x : D × PyData => x.1) ∘ fun t : V × D × PyData => t.2) (ts.mergeSort (dataLe false fun t : V × D × PyData => t.2.2)))) (p1.trans (e1.cell hl2)) ⟨l, _, rfl, e1.gh.free hl2, upd_same, ⟨_, rfl, ?_, zip_reps mem⟩, p1.back hl2, e1.wd.out hl2⟩ hΦ
      rw [List.length_map, List.length_mergeSort]
      rw [List.length_map] at hl
      exact hl
end
/-- x.insert(i, e), x our own list -/
def tInsert (i : Nat) (Ti T : TF) : TF := fun R Γ Φ => match Γ.sl[i]? with
  | some (.ow (.lst _)) => Ti R Γ fun di Γ1 => T R Γ1 fun d Γ' => di.asInt fun j => match Γ'.sl[i]? with
    | some (.ow (.lst ds)) => ds.length < sizeLine ∧ 0 ≤ j ∧ j < 2 ^ 63 ∧ Φ .non (Γ'.set i (.ow (.lst (ds.take j.toNat ++ [d] ++ ds.drop j.toNat))))
    | _ => False
  | _ => False
section
variable {X : Cx} {tk : Tk} {e1 e2 : Expr} {T1 T2 : TF} {apos cpos : Pos}
theorem pf_insert (i : Nat) {x : Str} {px : Pos} (ha1 : PF X tk e1 T1) (ha2 : PF X tk e2 T2) (hN : X.N[i]? = some x := by rfl) (hx : Vis X.env.scope x := by first | exact Or.inl rfl | exact Or.inr (Or.inl rfl) | exact Or.inr (Or.inr rfl)) (hd : (x == ("__debug__" : Str)) = false := by decide) (hcd : (x == ("__classdict__" : Str)) = false := by decide)
    (hbase : attributeBase (.Name x px) "insert" X.env (eval (.Name x px) X.env) = eval (.Name x px) X.env := by rfl)
    (hfew : ((backTo cpos (starEach [e1, e2] X.env)).all (fun x => !x.1) && (backToKw cpos (keywordEach [] X.env)).all (fun x => x.1.isSome) && decide ([e1, e2].length + ([] : List Keyword).length + (if ([] : List Keyword).isEmpty then 0 else 1) < 30)) = true := by rfl)
    (hline : (apos.endLine == cpos.line) = true := by rfl) (hs : starEach [e1, e2] X.env = (false, eval e1 X.env) :: starEach [e2] X.env := by rfl) (hs2 : starEach [e2] X.env = (false, eval e2 X.env) :: starEach [] X.env := by rfl) (hpl : (backTo cpos (starEach [e2] X.env)).any (·.1) = false := by rfl) : PF X tk (.Call (.Attribute (.Name x px) "insert" apos) [e1, e2] [] cpos) (tInsert i T1 T2) :=
  pe_imp (pe_bm PySem.F.plainAttrs_list PySem.F.slot_list_insert PySem.F.type_list_insert mt_insert (pe_var hN hx hd hcd) (pa_cons ha1 (pa_cons ha2 pa_nil hs2) hs) hbase hfew hline hs hpl) fun σ H Q ⟨B, R, Γ, G, Φ, t, en, h, k⟩ => by
    unfold tInsert at h
    split at h
    · rename_i ds0 q
      obtain ⟨l, o, a1, a2, a3, ⟨xs0, a4, _, _⟩, _⟩ := en.ow i _ q
      subst a4
      refine ⟨.ref l, a1, .inl ⟨rfl, _, SqL.of a3⟩, B, R, Γ, G, _, t, en, h, fun v1 G1 H1 Γ1 d1 p1 r1 h1 => ⟨B, R, Γ1, G1, _, t, p1.env, h1, fun v2 G2 H2 Γ2 d2 p2 r2 h2 => ?_⟩⟩
      cases d1 with
      | int j =>
        cases r1
        dsimp only [D.asInt] at h2
        split at h2
        · rename_i ds q2
          obtain ⟨l2, o2, b1, b2, b3, ⟨xs, b4, b5, b6⟩, _⟩ := p2.env.ow i _ q2
          rw [a1] at b1
          cases b1
          subst b4
          obtain ⟨h3, j0, j1, h4⟩ := h2
          have hl : xs.length < sizeLine := by rw [b6.length]; exact h3
          refine ⟨l, xs, j, v2, rfl, rfl, b3, hl, j0, j1, k .non G2 _ _ .non ((p1.trans p2).trans (p2.env.write (c' := .lst (ds.take j.toNat ++ [d2] ++ ds.drop j.toNat)) q2 a1 ⟨xs.take j.toNat ++ [v2] ++ xs.drop j.toNat, rfl, ?_, ((Reps.take _ b6).append (.cons r2 .nil)).append (Reps.drop _ b6)⟩)) .non h4⟩
          rw [List.length_append, List.length_append, List.length_take, List.length_drop]
          show _ + 1 + _ ≤ sizeLine
          omega
        · exact h2.elim
      | _ => exact h2.elim
    · exact h.elim
end
theorem sortL_pr {T : TF} {R : ExD} {Γ Γ1 : Gm} {Φ : Cl → Gm → Prop} (ws : List Pr) (hT : ∀ Ψ : D → Gm → Prop, Ψ (.lst (ws.map eP)) Γ1 → T R Γ Ψ) (h : Φ (.lst ((ws.mergeSort pLe).map eP)) Γ1) : tSortL T R Γ Φ := by
  have m := List.map_mergeSort (r := pLe) (s := dataLe false fun z : D × PyData => z.2) (f := fun p : Pr => (eP p, PyData.tuple [.str p.1, .str p.2])) (l := ws) fun a _ b _ => (uLe_uP a b).symm
  refine hT _ ⟨ws.map fun p => (eP p, PyData.tuple [.str p.1, .str p.2]), by rw [List.map_map]; rfl, fun z hz => ?_, fun d hd d' hd' => ?_, .inl fun d hd => ?_, fun z hz => ?_, ?_⟩
  · obtain ⟨p, _, rfl⟩ := List.mem_map.mp hz
    exact eP_pd p
  · rw [List.map_map] at hd hd'
    obtain ⟨p, _, rfl⟩ := List.mem_map.mp hd
    obtain ⟨q, _, rfl⟩ := List.mem_map.mp hd'
    simp [alike, alikeAll]
  · rw [List.map_map] at hd
    obtain ⟨p, _, rfl⟩ := List.mem_map.mp hd
    exact ⟨_, _, rfl⟩
  · obtain ⟨p, _, rfl⟩ := List.mem_map.mp hz
    simp [PyData.depth, PyData.depthAll]
  · rw [← m, List.map_map]
    exact h
theorem dd_in {α : Type} [DecidableEq α] {x : α} {xs : List α} (h : x ∈ xs) : dd (x :: xs) = dd xs := if_pos h
theorem dd_out {α : Type} [DecidableEq α] {x : α} {xs : List α} (h : x ∉ xs) : dd (x :: xs) = x :: dd xs := if_neg h
theorem dd_full {α : Type} [DecidableEq α] : ∀ {xs : List α}, (dd xs).length = xs.length ↔ xs.Nodup
  | [] => by simp [dd]
  | x :: xs => by
    have l := dd_len xs
    by_cases c : x ∈ xs
    · rw [dd_in c, List.nodup_cons]
      constructor
      · intro e
        simp only [List.length_cons] at e
        omega
      · intro h
        exact (h.1 c).elim
    · rw [dd_out c, List.nodup_cons, List.length_cons, List.length_cons, ← dd_full (xs := xs)]
      exact ⟨fun e => ⟨c, by omega⟩, fun h => by rw [h.2]⟩
/-! ### len({x for x in ..}), of whole numbers and texts -/
def tLenSet (i : Nat) (it : TAD) : TF := fun R Γ Φ => it R Γ fun ds Γ1 => Nat.blt i Γ1.sl.length = true ∧ ∃ ks : List L2.Key, ds = ks.map kD ∧ ks.length < 64 ∧ Φ (.int (dd ks.reverse).length) Γ1
section
variable {X : Cx} {tk : Tk} {it : TAD} {iter : Expr} {scope : Scope} {pos p p2 px py : Pos} {x : Str} {k : Nat}
theorem pf_lenSet (i : Nat) (hc : X.calm = true) (hN : X.N.Nodup) (hm : X.mg "len" = none) (hi : PFI X tk (.Name x px) iter it) (ok : BlkOk X.N X.env.scope scope [(x, i)])
    (hg : ∀ (s : Shared) (H : Hp) (C : Addr) (cl : List (Str × Addr)) (fp : List Addr), PG (X.blk s H scope (compEnvC scope cl C X.env) fp) (.Name x px) (gName i))
    (he : ∀ (s : Shared) (H : Hp) (C : Addr) (cl : List (Str × Addr)) (fp : List Addr), PE (X.blk s H scope (compEnvC scope cl C X.env) fp) (.Name x py) (tVar i)) (hi2 : X.N[i]? = some x := by rfl) (hs : ∀ x, foldedSetIterable iter X.env x = pure x := by intro _; rfl)
    (hg2 : Gl X "len" := by rfl) (hs2 : starEach [.SetComp (.Name x py) [⟨.Name x px, iter, [], 0⟩] scope p2] X.env = (false, eval (.SetComp (.Name x py) [⟨.Name x px, iter, [], 0⟩] scope p2) X.env) :: starEach [] X.env := by rfl) :
    PF X tk (.Call (.Name "len" p) [.SetComp (.Name x py) [⟨.Name x px, iter, [], 0⟩] scope p2] [] pos) (tLenSet i it) := by
  refine pe_imp (pe_callB cr_lenU hg2 hm PySem.boot_len (pa_cons (pe_scg newSet_k hc hN hi ok hg (fun _ _ _ _ _ => pts_nil) he hs) pa_nil hs2) (by decide) (by decide) hs2) fun σ H Q ⟨B, R, Γ, G, Φ, t, en, h, kk⟩ => ?_
  refine ⟨B, R, Γ, G, _, t, en, h, fun J G1 H1 Γ1 ds p1 iok ⟨hΓ, ks, hds, few, hΦ⟩ D hD => ?_⟩
  subst hds
  have e1 := p1.env
  have gD1 : G1 D = none := e1.gh.free hD
  have bD : B.H D = none := e1.bhNone hD
  have nmD : D ∉ Γ1.as := e1.wd.out hD
  have nD1 : ∀ (i : Nat) c, Γ1.sl[i]? = some (.ow c) → σ[i]? ≠ some (some (.ref D)) := e1.noOw hD
  have cnt : ∀ n (lt : n < ks.length), ks.take (n + 1) = ks.take n ++ [ks[n]] := fun n lt => by rw [List.take_add_one, List.getElem?_eq_getElem lt]; rfl
  refine ⟨fun n m H' => m = ks.length - n ∧ n ≤ ks.length ∧ ∃ (G' : Hp) (S : L2.Key → Bool), EvP X.K B σ G1 H1 Γ1 G' H' Γ1 ∧ H' D = some (SetK X.prog X.w D S (dd (ks.take n).reverse).length) ∧ G' D = none ∧ ∀ k : L2.Key, S k = true ↔ k ∈ ks.take n,
    ⟨ks.length, by simp, Nat.zero_le _, G1, fun _ => false, e1.cell hD, upd_same, gD1, fun k => by simp⟩, ?_⟩
  rintro n m H' ⟨rfl, hle, G', S, p', hD', gD', hS⟩
  by_cases hlt : n < ks.length
  · refine .inr ⟨iok.1 n H' (p'.gg.trans p'.env.gh) (by rw [List.length_map]; exact hlt), fun H2 => ∃ (G' : Hp) (S : L2.Key → Bool), EvP X.K B σ G1 H1 Γ1 G' H2 Γ1 ∧ H2 D = some (SetK X.prog X.w D S (dd (ks.take (n + 1)).reverse).length) ∧ G' D = none ∧ ∀ k : L2.Key, S k = true ↔ k ∈ ks.take (n + 1), fun H2 z => ⟨ks.length - (n + 1), by omega, rfl, hlt, z⟩, fun v H2 hy => ?_⟩
    obtain ⟨d, G2, hd, ex, rd⟩ := iok.2.2 n G' H' v H2 p'.gg p'.env.gh (by rw [List.length_map]; exact hlt) hy
    rw [List.getElem?_map, List.getElem?_eq_getElem hlt] at hd
    cases hd
    have ev := rep_kD rd
    subst ev
    have pe := p'.env.ext ex
    have pA := p'.trans pe
    have hD2 : H2 D = some (SetK X.prog X.w D S (dd (ks.take n).reverse).length) := pe.hh D _ hD' nD1 nmD
    have gD2 : G2 D = none := by
      cases w : G2 D with
      | none => rfl
      | some o => rcases ex.gn D o w with z | z
                  · rw [gD'] at z; cases z
                  · rw [hD'] at z; cases z
    have li : i < σ.length := by
      rw [← e1.len]
      exact Nat.le_of_ble_eq_true hΓ
    refine ⟨wipe1_set, ?_⟩
    simp only [tYes, ↓reduceIte]
    refine ⟨kV ks[n], List.getElem?_set_self (by rw [wipe_length]; exact li), ?_⟩
    have ld : (dd (ks.take n).reverse).length ≤ n := Nat.le_trans (dd_len _) (by rw [List.length_reverse, List.length_take]; omega)
    refine addOk_k hD2 (Nat.lt_of_le_of_lt (m := 64) (by omega) (by decide)) ?_
    have pB := pA.poke (o := SetK X.prog X.w D (fun j => S j || decide (j = ks[n])) (if S ks[n] = true then (dd (ks.take n).reverse).length else (dd (ks.take n).reverse).length + 1)) hD gD2 nD1 bD nmD
    refine ⟨G2, fun j => S j || decide (j = ks[n]), pB, ?_, gD2, fun k => ?_⟩
    · rw [upd_same, cnt n hlt, List.reverse_append]
      show _ = some (SetK X.prog X.w D _ (dd (ks[n] :: (ks.take n).reverse)).length)
      have e : (if S ks[n] = true then (dd (ks.take n).reverse).length else (dd (ks.take n).reverse).length + 1) = (dd (ks[n] :: (ks.take n).reverse)).length := by
        by_cases c : ks[n] ∈ ks.take n
        · rw [if_pos ((hS _).mpr c), dd_in (List.mem_reverse.mpr c)]
        · rw [if_neg (fun z => c ((hS _).mp z)), dd_out (fun z => c (List.mem_reverse.mp z))]
          rfl
      rw [e]
    · rw [cnt n hlt, List.mem_append, List.mem_singleton, ← hS k, Bool.or_eq_true, decide_eq_true_eq]
  · have en : n = ks.length := by omega
    subst en
    refine .inl ⟨iok.2.1 _ H' (p'.gg.trans p'.env.gh) (by rw [List.length_map]), ?_⟩
    rw [List.take_length] at hD'
    exact ⟨D, rfl, .inr ⟨S, _, hD', kk _ G' H' Γ1 _ (p1.trans p') (.int _) hΦ⟩⟩
end
end Vl

namespace Vl
open PySem PySem.Spec PyProof.Rows L2
/-! ### [e for x in .. for y in ..] -/
def lc2F (g : TGD) (tt : TTD) (it1 : TAD) (g1 : TGD) (tt1 : TTD) (te : TF) (vs vs1 : List Nat) (Φ : Cl → Gm → Prop) : List D → List D → Gm → Prop
  | [], acc, Γ => Φ (.lst acc) Γ
  | d :: ds, acc, Γ => g d Γ fun Γ2 => tt nvr Γ2 fun b Γ3 => if b = true then it1 nvr Γ3 fun es Γ4 => nOw vs1 Γ4 = true ∧ lcF g1 tt1 te vs1 (fun c Γ5 => match c with
      | .lst acc2 => lc2F g tt it1 g1 tt1 te vs vs1 Φ ds acc2 (wipeD Γ5 vs)
      | _ => False) es acc (wipeD Γ4 vs1) else lc2F g tt it1 g1 tt1 te vs vs1 Φ ds acc (wipeD Γ3 vs)
def tLc2D (it : TAD) (g : TGD) (tt : TTD) (it1 : TAD) (g1 : TGD) (tt1 : TTD) (te : TF) (vs vs1 : List Nat) : TOD := fun R Γ Φ => it R Γ fun ds Γ1 => nOw vs Γ1 = true ∧ lc2F g tt it1 g1 tt1 te vs vs1 Φ ds [] (wipeD Γ1 vs)
theorem drop_at {α : Type} {ds : List α} {i : Nat} {d : α} (e : ds[i]? = some d) : ds.drop i = d :: ds.drop (i + 1) := by
  have hi := (List.getElem?_eq_some_iff.mp e).1
  rw [List.drop_eq_getElem_cons hi]
  congr 1
  exact (List.getElem?_eq_some_iff.mp e).2
section
variable {X : Cx} {tk : Tk} {bs : Option Nat} {it it1 : TAD} {g g1 : TGD} {tt tt1 : TTD} {te : TF}
theorem lc2_read (own : List (Str × Nat)) {vs1 : List Nat} (hv1 : ∀ v ∈ vs1, v ∈ own.map (·.2)) (tb : TkBs tk bs) (hb : ∀ p ∈ own, bs ≠ some p.2) {σ : L2.St} {H : Hp} {Q : VK} (h : lO X.K tk (tLc2D it g tt it1 g1 tt1 te (own.map (·.2)) vs1) σ H Q) :
    tLc2 (lI X.K tk it) (lGv X.K (TkB bs) (List.map (fun x : Str × Nat => x.2) own) g) (lT X.K (TkB bs) tt) (lI X.K (TkB bs) it1) (lGv X.K (TkB bs) vs1 g1) (lT X.K (TkB bs) tt1) (lE X.K (TkB bs) te) (own.map (·.2)) vs1 σ H Q := by
  obtain ⟨B, R, Γ, G, Φ, t, en, h, kk⟩ := h
  refine ⟨B, R, Γ, G, _, t, en, h, fun J G1 H1 Γ1 ds p1 iok ⟨no, hF⟩ D hD => ?_⟩
  have bo := tb B R t
  have nb : ∀ v ∈ own.map (·.2), ∀ l, B.bo ≠ some (v, l) := fun v hv l q => by
    obtain ⟨p, hp, rfl⟩ := List.mem_map.mp hv
    exact hb p hp (bo _ _ q)
  have tB : TkB bs B nvr := ⟨rfl, bo⟩
  generalize own.map (·.2) = vs at *
  have nb1 : ∀ v ∈ vs1, ∀ l, B.bo ≠ some (v, l) := fun v hv => nb v (hv1 v hv)
  have e1 := p1.env
  have gD1 : G1 D = none := e1.gh.free hD
  have bD : B.H D = none := e1.bhNone hD
  have e1w : EnvOk X.K B G1 H1 σ (wipeD Γ1 vs) := e1.dull nb
  have nmD : D ∉ Γ1.as := e1.wd.out hD
  have pw : EvP X.K B σ G1 H1 Γ1 G1 H1 (wipeD Γ1 vs) := ⟨e1w, Same.refl _, fun _ _ q => .inl q, fun _ _ q _ _ => q, fun i => ⟨fun ⟨c, q⟩ => ⟨c, by rw [wipeD_out fun z => nOw_ok no z q]; exact q⟩, fun ⟨c, q⟩ => ⟨c, (wipeD_ow q).2⟩⟩, [], by simp [wipeD], fun _ h => by cases h⟩
  have nD1 : ∀ (i : Nat) c, (wipeD Γ1 vs).sl[i]? = some (.ow c) → σ[i]? ≠ some (some (.ref D)) := e1w.noOw hD
  refine ⟨fun i m H' => m = ds.length - i ∧ i ≤ ds.length ∧ ∃ G' Γ' acc ys, EvP X.K B σ G1 H1 (wipeD Γ1 vs) G' H' Γ' ∧ Cln vs Γ' ∧ lc2F g tt it1 g1 tt1 te vs vs1 Φ (ds.drop i) acc Γ' ∧ H' D = some (.lst ys) ∧ D ∉ Γ'.as ∧ G' D = none ∧ ys.length ≤ sizeLine ∧ Reps X.K G' ys acc,
    ⟨ds.length, by simp, Nat.zero_le _, G1, wipeD Γ1 vs, [], [], e1w.cell hD, wipeD_cln Γ1 vs, hF, upd_same, nmD, gD1, Nat.zero_le _, .nil⟩, ?_⟩
  rintro i m H' ⟨rfl, hle, G', Γ', acc, ys, p', cl, hP, hD', nmD', gD', hz, rr⟩
  have nD' : ∀ (i : Nat) c, Γ'.sl[i]? = some (.ow c) → σ[i]? ≠ some (some (.ref D)) := fun i c q => by
    obtain ⟨c', q'⟩ := (p'.sh i).mpr ⟨c, q⟩
    exact nD1 i c' q'
  by_cases hlt : i < ds.length
  · refine .inr ⟨iok.1 i H' (p'.gg.trans p'.env.gh) hlt, fun H2 => ∃ G2 Γ2 acc ys, EvP X.K B σ G1 H1 (wipeD Γ1 vs) G2 H2 Γ2 ∧ Cln vs Γ2 ∧ lc2F g tt it1 g1 tt1 te vs vs1 Φ (ds.drop (i + 1)) acc Γ2 ∧ H2 D = some (.lst ys) ∧ D ∉ Γ2.as ∧ G2 D = none ∧ ys.length ≤ sizeLine ∧ Reps X.K G2 ys acc, fun H2 z => ⟨ds.length - (i + 1), by omega, rfl, hlt, z⟩, fun x H2 hy => ?_⟩
    obtain ⟨d, G2, hdi, ex, rd⟩ := iok.2.2 i G' H' x H2 p'.gg p'.env.gh hlt hy
    rw [drop_at hdi] at hP
    have pe := p'.env.ext ex
    have e2 := pe.env
    have hD2 : H2 D = some (.lst ys) := pe.hh D _ hD' nD' nmD'
    have gD2 : G2 D = none := by
      cases q : G2 D with
      | none => rfl
      | some o => rcases ex.gn D o q with z | z
                  · rw [gD'] at z; cases z
                  · rw [hD'] at z; cases z
    refine ⟨B, nvr, Γ', G2, d, _, tB, e2.wipes cl, rd, hP, fun σ2 Γ2 en2 tg2 h2 => ⟨tg2.w.trans (wipe_idem σ vs), B, nvr, Γ2, G2, _, tB, en2, h2, fun b G3 H3 Γ3 p3 h3 => ?_⟩⟩
    have hw2 : wipe σ2 vs = wipe σ vs := tg2.w.trans (wipe_idem σ vs)
    have nD2 : ∀ (j : Nat) c, Γ2.sl[j]? = some (.ow c) → σ2[j]? ≠ some (some (.ref D)) := fun j c e => by
      have e2 := tg2.o j c e
      rw [wipe_eq_out hw2 fun z => by have z2 := cl j z _ e2; cases z2]
      exact nD' j c e2
    have nm2 : D ∉ Γ2.as := by rw [tg2.a]; exact nmD'
    -- the base without the list
    have b2 : EvP X.K B σ2 G2 (ItX.dropH H2 D) Γ2 G2 H2 Γ2 := ⟨en2, Same.refl _, fun _ _ q => .inl q, fun a o q _ _ => by
      have ne : a ≠ D := fun z => by rw [z, ItX.dropH_same] at q; cases q
      rwa [ItX.dropH_ne ne] at q, fun _ => Iff.rfl, [], by simp, fun _ h => by cases h⟩
    have pd : EvP X.K B σ G1 H1 (wipeD Γ1 vs) G2 (ItX.dropH H2 D) Γ' := (p'.trans pe).drop hD gD2 nD' bD nmD'
    have back : ∀ {GX HX : Hp} {ΓX : Gm}, EvP X.K B σ2 G2 (ItX.dropH H2 D) Γ2 GX HX ΓX → EvP X.K B σ G1 H1 (wipeD Γ1 vs) GX HX (wipeD ΓX vs) := fun {GX HX ΓX} q => pd.trans (q.blk nb hw2 tg2.o tg2.s cl tg2.a)
    have nDX : ∀ {GX HX : Hp} {ΓX : Gm}, EvP X.K B σ2 G2 (ItX.dropH H2 D) Γ2 GX HX ΓX → ∀ (j : Nat) c, ΓX.sl[j]? = some (.ow c) → σ2[j]? ≠ some (some (.ref D)) := fun {GX HX ΓX} q j c e => by
      obtain ⟨c', e'⟩ := (q.sh j).mpr ⟨c, e⟩
      exact nD2 j c' e'
    have b3 := b2.trans p3
    have hD3 : H3 D = some (.lst ys) := p3.hh D _ hD2 nD2 nm2
    have gD3 : G3 D = none := by
      cases q : G3 D with
      | none => rfl
      | some o => rcases p3.gn D o q with z | z
                  · rw [gD2] at z; cases z
                  · rw [hD2] at z; cases z
    have nm3 : D ∉ Γ3.as := p3.nas hD2 nm2
    cases b with
    | false =>
      refine iteF ?_
      exact ⟨G3, _, acc, ys, back b3, wipeD_cln _ _, by simpa using h3, hD3, nm3, gD3, hz, rr.mono (ex.gg.trans p3.gg)⟩
    | true =>
      refine iteT ?_
      rw [if_pos rfl] at h3
      refine ⟨B, nvr, Γ3, G3, _, tB, p3.env, h3, fun J1 G4 H4 Γ4 es p4 iok1 ⟨no1, hF1⟩ => ?_⟩
      have b4 := b3.trans p4
      have hD4 : H4 D = some (.lst ys) := p4.hh D _ hD3 (nDX b3) nm3
      have gD4 : G4 D = none := by
        cases q : G4 D with
        | none => rfl
        | some o => rcases p4.gn D o q with z | z
                    · rw [gD3] at z; cases z
                    · rw [hD3] at z; cases z
      have nm4 : D ∉ Γ4.as := p4.nas hD3 nm3
      have e4w : EnvOk X.K B G4 H4 σ2 (wipeD Γ4 vs1) := p4.env.dull nb1
      have pw4 : EvP X.K B σ2 G4 H4 Γ4 G4 H4 (wipeD Γ4 vs1) := ⟨e4w, Same.refl _, fun _ _ q => .inl q, fun _ _ q _ _ => q, fun i => ⟨fun ⟨c, q⟩ => ⟨c, by rw [wipeD_out fun z => nOw_ok no1 z q]; exact q⟩, fun ⟨c, q⟩ => ⟨c, (wipeD_ow q).2⟩⟩, [], by simp [wipeD], fun _ h => by cases h⟩
      refine ⟨fun j k H5 => k = es.length - j ∧ j ≤ es.length ∧ ∃ G5 Γ5 acc ys, EvP X.K B σ2 G2 (ItX.dropH H2 D) Γ2 G5 H5 Γ5 ∧ Same G4 G5 ∧ Cln vs1 Γ5 ∧ lcF g1 tt1 te vs1 (fun c Γ5 => match c with
          | .lst acc2 => lc2F g tt it1 g1 tt1 te vs vs1 Φ (ds.drop (i + 1)) acc2 (wipeD Γ5 vs)
          | _ => False) (es.drop j) acc Γ5 ∧ H5 D = some (.lst ys) ∧ D ∉ Γ5.as ∧ G5 D = none ∧ ys.length ≤ sizeLine ∧ Reps X.K G5 ys acc,
        ⟨es.length, by simp, Nat.zero_le _, G4, wipeD Γ4 vs1, acc, ys, b4.trans pw4, Same.refl _, wipeD_cln Γ4 vs1, hF1, hD4, nm4, gD4, hz, rr.mono ((ex.gg.trans p3.gg).trans p4.gg)⟩, ?_⟩
      rintro j k H5 ⟨rfl, hle1, G5, Γ5, acc5, ys5, b5, sm5, cl5, hP5, hD5, nm5, gD5, hz5, rr5⟩
      by_cases hlt1 : j < es.length
      · refine .inr ⟨iok1.1 j H5 (sm5.trans b5.env.gh) hlt1, fun H6 => ∃ G6 Γ6 acc ys, EvP X.K B σ2 G2 (ItX.dropH H2 D) Γ2 G6 H6 Γ6 ∧ Same G4 G6 ∧ Cln vs1 Γ6 ∧ lcF g1 tt1 te vs1 (fun c Γ5 => match c with
          | .lst acc2 => lc2F g tt it1 g1 tt1 te vs vs1 Φ (ds.drop (i + 1)) acc2 (wipeD Γ5 vs)
          | _ => False) (es.drop (j + 1)) acc Γ6 ∧ H6 D = some (.lst ys) ∧ D ∉ Γ6.as ∧ G6 D = none ∧ ys.length ≤ sizeLine ∧ Reps X.K G6 ys acc, fun H6 z => ⟨es.length - (j + 1), by omega, rfl, hlt1, z⟩, fun y H6 hy6 => ?_⟩
        obtain ⟨d6, G6, hd6, ex6, rd6⟩ := iok1.2.2 j G5 H5 y H6 sm5 b5.env.gh hlt1 hy6
        rw [drop_at hd6] at hP5
        have pe6 := b5.env.ext ex6
        have e6 := pe6.env
        have hD6 : H6 D = some (.lst ys5) := pe6.hh D _ hD5 (nDX b5) nm5
        have gD6 : G6 D = none := by
          cases q : G6 D with
          | none => rfl
          | some o => rcases ex6.gn D o q with z | z
                      · rw [gD5] at z; cases z
                      · rw [hD5] at z; cases z
        have b6 := b5.trans pe6
        refine ⟨B, nvr, Γ5, G6, d6, _, tB, e6.wipes cl5, rd6, hP5, fun σ3 Γ7 en7 tg7 h7 => ⟨tg7.w.trans (wipe_idem σ2 vs1), B, nvr, Γ7, G6, _, tB, en7, h7, fun b G8 H8 Γ8 p8 h8 => ?_⟩⟩
        have hw7 : wipe σ3 vs1 = wipe σ2 vs1 := tg7.w.trans (wipe_idem σ2 vs1)
        have noB : ∀ {GX HX : Hp} {ΓX : Gm}, EvP X.K B σ3 G6 H6 Γ7 GX HX ΓX → EvP X.K B σ2 G2 (ItX.dropH H2 D) Γ2 GX HX (wipeD ΓX vs1) ∧ HX D = some (.lst ys5) ∧ D ∉ (wipeD ΓX vs1).as ∧ GX D = none := fun {GX HX ΓX} q => by
          refine ⟨b6.trans (q.blk nb1 hw7 tg7.o tg7.s cl5 tg7.a), q.hh D _ hD6 (fun j c e => ?_) (by rw [tg7.a]; exact nm5), q.nas hD6 (by rw [tg7.a]; exact nm5), ?_⟩
          · have e2 := tg7.o j c e
            rw [wipe_eq_out hw7 fun z => by have z2 := cl5 j z _ e2; cases z2]
            exact nDX b5 j c e2
          · cases w : GX D with
            | none => rfl
            | some o => rcases q.gn D o w with z | z
                        · rw [gD6] at z; cases z
                        · rw [hD6] at z; cases z
        cases b with
        | false =>
          refine iteF ?_
          obtain ⟨a1, a2, am, a3⟩ := noB p8
          exact ⟨G8, _, acc5, ys5, a1, (sm5.trans ex6.gg).trans p8.gg, wipeD_cln _ _, by simpa using h8, a2, am, a3, hz5, rr5.mono (ex6.gg.trans p8.gg)⟩
        | true =>
          refine iteT ?_
          rw [if_pos rfl] at h8
          refine ⟨B, nvr, Γ8, G8, _, tB, p8.env, h8, fun w G9 H9 Γ9 dw p9 rw9 ⟨hs9, hP9⟩ => ?_⟩
          obtain ⟨a1, a2, am, a3⟩ := noB (p8.trans p9)
          have lacc : ys5.length = acc5.length := rr5.length
          refine ⟨ys5, a2, by rw [lacc]; exact hs9, G9, _, acc5 ++ [dw], ys5 ++ [w], a1.poke ItX.dropH_same a3 (nDX a1) bD am, ((sm5.trans ex6.gg).trans p8.gg).trans p9.gg, wipeD_cln _ _, hP9, upd_same, am, a3, ?_, (rr5.mono ((ex6.gg.trans p8.gg).trans p9.gg)).append (.cons rw9 .nil)⟩
          rw [List.length_append, lacc]
          exact hs9
      · have ej : j = es.length := by omega
        subst ej
        rw [List.drop_length] at hP5
        refine .inl ⟨iok1.2.1 _ H5 (sm5.trans b5.env.gh) rfl, G5, _, acc5, ys5, back b5, wipeD_cln _ _, hP5, hD5, nm5, gD5, hz5, rr5⟩
  · have ei : i = ds.length := by omega
    subst ei
    refine .inl ⟨iok.2.1 _ H' (p'.gg.trans p'.env.gh) rfl, ?_⟩
    rw [List.drop_length] at hP
    exact kk (.ref D) G' H' Γ' (.lst acc) (p1.trans (pw.trans p')) ⟨D, _, rfl, gD', hD', ⟨ys, rfl, hz, rr⟩, p1.back hD, nmD'⟩ hP
end
section
variable {X : Cx} {tk : Tk} {bs : Option Nat} {elt tg iter tg1 iter1 : Expr} {ifs ifs1 : List Expr} {scope : Scope} {pos : Pos} {it it1 : TAD} {g g1 : TGD} {tt tt1 : TTD} {te : TF}
theorem po_lc2 (own : List (Str × Nat)) (vs1 : List Nat) (hv1 : ∀ v ∈ vs1, v ∈ own.map (·.2)) (hc : X.calm = true) (hN : X.N.Nodup) (tb : TkBs tk bs) (hb : ∀ p ∈ own, bs ≠ some p.2) (hi : PFI X tk tg iter it) (ok : BlkOk X.N X.env.scope scope own)
    (hg : ∀ (s : Shared) (H : Hp) (C : Addr) (cl : List (Str × Addr)) (fp : List Addr), PGV (X.blk s H scope (compEnvC scope cl C X.env) fp) (TkB bs) (own.map (·.2)) tg g)
    (ht : ∀ (s : Shared) (H : Hp) (C : Addr) (cl : List (Str × Addr)) (fp : List Addr), PFTs (X.blk s H scope (compEnvC scope cl C X.env) fp) (TkB bs) ifs tt)
    (hi1 : ∀ (s : Shared) (H : Hp) (C : Addr) (cl : List (Str × Addr)) (fp : List Addr), PFI (X.blk s H scope (compEnvC scope cl C X.env) fp) (TkB bs) tg1 iter1 it1)
    (hg1 : ∀ (s : Shared) (H : Hp) (C : Addr) (cl : List (Str × Addr)) (fp : List Addr), PGV (X.blk s H scope (compEnvC scope cl C X.env) fp) (TkB bs) vs1 tg1 g1)
    (ht1 : ∀ (s : Shared) (H : Hp) (C : Addr) (cl : List (Str × Addr)) (fp : List Addr), PFTs (X.blk s H scope (compEnvC scope cl C X.env) fp) (TkB bs) ifs1 tt1)
    (he : ∀ (s : Shared) (H : Hp) (C : Addr) (cl : List (Str × Addr)) (fp : List Addr), PF (X.blk s H scope (compEnvC scope cl C X.env) fp) (TkB bs) elt te) (hs : ∀ x, foldedSetIterable iter X.env x = pure x := by intro _; rfl) (hs1 : ∀ env x, foldedSetIterable iter1 env x = pure x := by intro _ _; rfl) :
    PFO X tk (.ListComp elt [⟨tg, iter, ifs, 0⟩, ⟨tg1, iter1, ifs1, 0⟩] scope pos) (tLc2D it g tt it1 g1 tt1 te (own.map (·.2)) vs1) :=
  pe_imp (pe_lc2 (wi := lI X.K tk it) (wi1 := lI X.K (TkB bs) it1) (g := lGv X.K (TkB bs) (List.map (fun x : Str × Nat => x.2) own) g) (tt := lT X.K (TkB bs) tt) (g1 := lGv X.K (TkB bs) vs1 g1) (tt1 := lT X.K (TkB bs) tt1) (te := lE X.K (TkB bs) te) hc hN hi ok hv1 hg ht hi1 hg1 ht1 he hs hs1) fun σ H Q h => lc2_read own hv1 tb hb h
end
end Vl

namespace Vl
open PySem PySem.Spec PyProof.Rows L2 ClX
/-! ### C(..) with arguments left to their defaults -/
section
variable {X : Cx} {CX : CXT} {k : Nat} {f C : Addr} {fd : FuncData} {ps : List Str} {sp : Sp} {E : L2.St → XK} {dvs : List V} {ds : List Value}
theorem run_makeSD {pins : List (Addr × Obj)} {σ : L2.St} {H : Hp} {s : Shared} {Q : VK} {us : List Value} {vs : List V} (M : Mk X.K C f) (F : FnOk X.prog X.w X.K X.mg X.base CX k f fd ps sp) (hr : Room (k + 1) X.A) (hb : Binds X.K fd ps ds) (hd : Vals dvs ds) (hx : PassesAt CX X σ (E σ)) (I : Inv X pins σ H s) (r : Vals vs us)
    (h : ∀ x dx, H x = none → H dx = none → dx ≠ x → sp (.ref x :: (vs ++ dvs)) (upd (upd H dx (.own x)) x (.ins C dx [])) (fun v H2 => v = .non ∧ Q (.ref x) H2) (E σ)) : wpAny (model X.prog X.w) X.A (call (.ref C) us) (EP X pins σ Q) X.xe s := by
  have n1 : H (s.heap.objs.size + 1) = none := I.hok.fresh (Nat.le_succ _)
  have n2 : H s.heap.objs.size = none := I.hok.fresh (Nat.le_refl _)
  have hq := h _ _ n1 n2 (Nat.ne_of_lt (Nat.lt_succ_self _))
  have I2 := Inv.made (C := C) I
  have rv : Vals (V.ref (s.heap.objs.size + 1) :: (vs ++ dvs)) (Value.ref (s.heap.objs.size + 1) :: (us ++ ds)) := .cons rfl (r.append hd)
  have hl : (Value.ref (s.heap.objs.size + 1) :: (us ++ ds)).length = ps.length := rv.length.symm.trans (F.len _ _ _ _ hq)
  have bd := hb _ (Value.ref (s.heap.objs.size + 1) :: us) I2.kIn hl
  refine wpAny_call (make_map (f := f) I.kIn M.makes M.init (beq_iff_eq.mp M.fn) (codeAny_mono (F.run _ X.stack _ _ _ _ _ _ (E σ) (hr.make C us []) (I2.env0.make C us []) bd rv hq) fun r s' q => ?_))
  cases r with
  | error e => exact hx pins _ _ e s' I2 q
  | ok fl =>
    cases fl with
    | ret u =>
      obtain ⟨v, H', I3, rv, rfl, q3⟩ := I2.after q
      exact ⟨rv, ⟨V.ref (s.heap.objs.size + 1), H', I3, rfl, q3⟩⟩
    | next => exact False.elim q
    | brk => exact False.elim q
    | cont => exact False.elim q
end
section
variable {X : Cx} {k : Nat} {f C : Addr} {fd : FuncData} {ps : List Str} {sp : Sp} {x : Str} {p pos : Pos} {e : Expr} {es : List Expr} {t : TA} {dvs : List V} {ds : List Value}
theorem pe_makeGD (M : Mk X.K C f) (F : FnOk X.prog X.w X.K X.mg X.base (L2.CX X.prog X.w) k f fd ps sp) (hr : Room (k + 1) X.A) (hg : Gl X x) (hm : X.mg x = some (.ref C)) (hb : Binds X.K fd ps ds) (hd : Vals dvs ds) (ha : PA X (e :: es) t)
    (hdb : (x == ("__debug__" : Str)) = false) (he : starEach (e :: es) X.env = (false, eval e X.env) :: starEach es X.env) (hpl : (backTo pos (starEach es X.env)).any (·.1) = false) :
    PE X (.Call (.Name x p) (e :: es) [] pos) (fun σ H Q => t σ H fun vs H1 => ∃ W : WX, Takes X W ∧ ∀ x dx, H1 x = none → H1 dx = none → dx ≠ x → sp (.ref x :: (vs ++ dvs)) (upd (upd H1 dx (.own x)) x (.ins C dx [])) (fun v H2 => v = .non ∧ Q (.ref x) H2) (WE W σ)) :=
  ⟨fun pins s σ H Q I h => wpAny_Call_Name_kw (ld_glob I hg hm (PySem.W.callWith_K (h₀ := X.base) I.ok.mod.kin M.kp (thn (ha.run pos pins s σ H _ I h) fun us s1 ⟨vs, H1, I1, r, W, tw, q⟩ => ⟨I1.kIn, run_makeSD (E := WE W) M F hr hb hd (passAt tw σ) I1 r q⟩) he hpl) hdb)⟩
end
/-- .. the values of what is left out: dds -/
structure MakerD (P : Program) (w : World) (K : PySem.W.Frag) (mg : Str → Option Value) (base : Heap) (k : Nat) (x : Str) (ps : List Str) (dds : List D) (sp : SpD) : Prop where
  ex : ∃ f fd ds dvs, FnV P w K mg base k f fd ps sp ∧ Binds K fd ps ds ∧ Vals dvs ds ∧ (∀ G : Hp, Reps K G dvs dds) ∧ Mk K (He.ga K x) f
  g : mg x = some (.ref (He.ga K x))
def tMakeOD (n : Nat) (c : Str) (dds : List D) (sp : SpD) (U : TAD) : TOD := fun R Γ Φ => U R Γ fun ds Γ' => ds.length + dds.length + 1 = n ∧ sp (.ow (.ins c []) :: (ds ++ dds).map .im) (fun r c' => r = .im .non ∧ match c' with
  | some c1 => Φ c1 Γ'
  | none => False) (fun nm pl _ => R nm pl Γ')
section
variable {X : Cx} {tk : Tk} {k j n : Nat} {ps : List Str} {dds : List D} {sp : SpD} {x : Str} {p pos : Pos} {e : Expr} {es : List Expr} {U : TAD}
theorem po_makeD (C : MakerD X.prog X.w X.K X.mg X.base k x ps dds sp) (tw : TkOk X tk) (hr : Room j X.A) (hk : k + 1 ≤ j) (ha : PFA X tk (e :: es) U) (hg : Gl X x := by rfl) (hn : ps.length = n := by rfl)
    (hdb : (x == ("__debug__" : Str)) = false := by decide) (he : starEach (e :: es) X.env = (false, eval e X.env) :: starEach es X.env := by rfl) (hpl : (backTo pos (starEach es X.env)).any (·.1) = false := by rfl) : PFO X tk (.Call (.Name x p) (e :: es) [] pos) (tMakeOD n x dds sp U) := by
  subst hn
  obtain ⟨f, fd, dss, dvs, F, hb, hdv, hrep, M⟩ := C.ex
  refine pe_imp (pe_makeGD M F (hr.mono hk) hg C.g hb hdv ha hdb he hpl) fun σ H Q ⟨B, R, Γ, G, Φ, t, en, h, kk⟩ => ⟨B, R, Γ, G, _, t, en, h, fun vs G1 H1 Γ1 ds p1 r1 ⟨h1, h2⟩ => ⟨ExOk X.K B R, tw B R t, fun a dx na nd ne => ?_⟩⟩
  have r2 : Reps X.K G1 (vs ++ dvs) (ds ++ dds) := r1.append (hrep G1)
  have gn1 : G1 a = none := p1.env.gh.free na
  have gd1 : G1 dx = none := p1.env.gh.free nd
  have up : ∀ b u, H1 b = some u → upd (upd H1 dx (.own a)) a (.ins (He.ga X.K x) dx []) b = some u := fun b u q => by rw [upd_ne (ne_of_none q na), upd_ne (ne_of_none q nd)]; exact q
  have s0 : Same G1 (upd (upd H1 dx (.own a)) a (.ins (He.ga X.K x) dx [])) := fun b u q => up b u (p1.env.gh b u q)
  have ext : ∀ {c' : Option Cl} {G' H' : Hp}, PostR X.K G1 (upd (upd H1 dx (.own a)) a (.ins (He.ga X.K x) dx [])) (some a) G' H' c' → Ext G1 H1 G' H' := fun {c' G' H'} q => by
    refine ⟨q.gg, fun b u z => q.hh b u (up b u z) fun w => ?_, q.gh, fun b u z => ?_⟩
    · cases w
      rw [na] at z
      cases z
    · rcases q.gn b u z with w | w
      · exact .inl w
      · refine .inr ?_
        cases y : H1 b with
        | none => rfl
        | some v => rw [up b v y] at w; cases w
  refine ⟨G1, .ow (.ins x []) :: (ds ++ dds).map .im, _, _, ?_, s0, .cons ⟨a, _, rfl, gn1, upd_same, dx, [], rfl, .nil⟩ (AsOk.ims' r2), h2, fun v r c' G' H' q rr hq => ?_, fun nm pl c' G' H' dd q pq hq => ?_⟩
  · rw [List.length_cons, r2.length, List.length_append]
    exact h1
  · obtain ⟨e1, e2⟩ := hq
    subst e1
    cases rr
    obtain ⟨c1, o, rfl, b1, b2, b3⟩ := q.bo a rfl
    exact ⟨rfl, kk (.ref a) G' H' Γ1 c1 (p1.trans (p1.env.ext (ext q))) ⟨a, o, rfl, b1, b2, b3, p1.back na, p1.env.wd.out na⟩ e2⟩
  · exact ⟨nm, pl, G', Γ1, rfl, (p1.env.ext (ext q)).env, pq, hq⟩
end
end Vl

namespace Vl
open PySem PySem.Spec PyProof.Rows L2 ClX
/-! ### defs with defaults -/
def DefAtD (K : PySem.W.Frag) (x qual : Str) (st : Stmt) (dvs : List V) (f : Addr) : Prop := ∃ fd, FunD K x qual (defArgs st) (defBody st) (defScope st) dvs [] f fd
/-- .. that can be called with all arguments and with the defaults -/
structure CalleeD (P : Program) (w : World) (K : PySem.W.Frag) (mg : Str → Option Value) (base : Heap) (k : Nat) (f : Addr) (ps : List Str) (sp : SpD) (dvs : List V) : Prop where
  ex : ∃ fd, FnV P w K mg base k f fd ps sp ∧ Binds K fd ps [] ∧ ∃ ds, Vals dvs ds ∧ Binds K fd ps ds
  kp : PySem.W.keepIn K (.ref f) = true
section
variable {P : Program} {w : World} {K : PySem.W.Frag} {mg : Str → Option Value} {base : Heap}
theorem CalleeD.of {x qual : Str} {st : Stmt} {f : Addr} {N ps : List Str} {k : Nat} {T : TSD} {dvs : List V} (n : Nat) (bs : Option Nat) (F : DefAtD K x qual st dvs f) (S : FnScope N ps (defScope st)) (hn : ps.length ≤ N.length) (hd : dvs ≠ []) (hl : n + dvs.length = ps.length)
    (hb1 : ∀ (T : Addr) (kV doc pm : Value) (an : Option Addr) (cdv ct : Value) (us its : List Value), us.length = ps.length → its.length = dvs.length →
      ∃ k, bindArgs (PySem.W.fnOf x qual (defArgs st) (defBody st) (defScope st) (.ref T) kV doc pm an cdv ct) ⟨us, []⟩ = seqItems? (.ref T) >>= k ∧ k (some its.toArray) = pure (ps.zip (us ++ its.drop dvs.length)))
    (hb2 : ∀ (T : Addr) (kV doc pm : Value) (an : Option Addr) (cdv ct : Value) (us its : List Value), us.length = n → its.length = dvs.length →
      ∃ k, bindArgs (PySem.W.fnOf x qual (defArgs st) (defBody st) (defScope st) (.ref T) kV doc pm an cdv ct) ⟨us, []⟩ = seqItems? (.ref T) >>= k ∧ k (some its.toArray) = pure (ps.zip (us ++ its.drop 0)))
    (hbody : ∀ (f : Addr) (cdv : Value) (A : Around) (outer : List Env) (s : Shared) (H : Hp) (E : XK), Room k (A.deeper (envOfC qual (defScope st) s.heap.objs.size f cdv)) →
      PFSs (cxOf (L2.CX P w) P w K mg base N qual (defScope st) f cdv A outer s H E) (TkS (cxOf (L2.CX P w) P w K mg base N qual (defScope st) f cdv A outer s H E) bs) (defBody st) T) :
    CalleeD P w K mg base (k + 1) f ps (bodySp N.length bs T) dvs := by
  obtain ⟨fd, F⟩ := F
  obtain ⟨d1, r1, b1⟩ := F.binds1 ps.length dvs.length hd (by omega) hb1
  obtain ⟨d2, r2, b2⟩ := F.binds1 n 0 hd (by omega) hb2
  have e : d1 = [] := by
    have h := r1.length
    rw [List.length_drop, Nat.sub_self] at h
    exact List.length_eq_zero_iff.mp h.symm
  subst e
  exact ⟨⟨fd, Fun.okV bs F S hn (hbody f), b1, d2, r2, b2⟩, F.kp⟩
end
/-- an empty tuple of the module -/
def etB (p : PySem.W.Frag → Addr) : PySem.W.Frag → Bool := fun K => match K.lookup (p K) with
  | some ⟨.type n, _, .seq its _, _⟩ => decide (n = "tuple") && decide (its.size = 0)
  | _ => false
theorem etB_ok {K : PySem.W.Frag} {p : PySem.W.Frag → Addr} (h : etB p K = true) (G : Hp) : Rep K G (.ref (p K)) (.tup []) := by
  unfold etB at h
  generalize p K = a at *
  split at h
  · rename_i n od its m sl q
    obtain ⟨h1, h2⟩ := He.ba h
    have e1 : n = "tuple" := of_decide_eq_true h1
    have e2 : its.size = 0 := of_decide_eq_true h2
    have e3 : its = #[] := Array.eq_empty_of_size_eq_zero e2
    subst e1 e3
    exact .tup (xs := []) (.inr ⟨_, _, _, q, rfl, rfl, Nat.zero_le _, .nil⟩) (Nat.zero_le _) .nil
  · cases h
end Vl

namespace Vl
open PySem PySem.Spec PyProof.Rows L2 ClX
/-! ### C(.., k = v), keyword-only parameters -/
theorem pk_imp {X : Cx} {kws : List Keyword} {t t' : TA} (h : PK X kws t) (i : ∀ σ H Q, t' σ H Q → t σ H Q) : PK X kws t' := ⟨fun pos pins s σ H Q I w => h.run pos pins s σ H Q I (i σ H Q w)⟩
def PFK (X : Cx) (tk : Tk) (kws : List Keyword) (T : TAD) : Prop := PK X kws (lA X.K tk T)
section
variable {X : Cx} {tk : Tk} {kws : List Keyword} {e : Expr} {T : TF} {U : TAD} {nm : Option Str} {kpos : Pos}
theorem pfk_nil : PFK X tk [] tNilD := pk_imp pk_nil fun σ H Q ⟨B, R, Γ, G, Φ, t, en, h, k⟩ => k [] G H Γ [] (EvP.refl en) .nil h
theorem pfk_cons (ha : PF X tk e T) (hr : PFK X tk kws U) : PFK X tk (⟨nm, e, kpos⟩ :: kws) (tConsD T U) :=
  pk_imp (pk_cons ha hr) fun σ H Q ⟨B, R, Γ, G, Φ, t, en, h, k⟩ => ⟨B, R, Γ, G, _, t, en, h, fun v G1 H1 Γ1 d p1 r1 h1 => ⟨B, R, Γ1, G1, _, t, p1.env, h1, fun vs G2 H2 Γ2 ds p2 r2 h2 =>
    k (v :: vs) G2 H2 Γ2 (d :: ds) (p1.trans p2) (.cons (r1.mono p2.gg) r2) h2⟩⟩
end
section
variable {X : Cx} {CX : CXT} {k n : Nat} {f C : Addr} {fd : FuncData} {ps ks : List Str} {sp : Sp} {E : L2.St → XK} {g : List Value → List Value → List Value} {gV : List V → List V → List V}
theorem run_makeSK {pins : List (Addr × Obj)} {σ : L2.St} {H : Hp} {s : Shared} {Q : VK} {us ws : List Value} {vs zs : List V} (M : Mk X.K C f) (F : FnOk X.prog X.w X.K X.mg X.base CX k f fd ps sp) (hr : Room (k + 1) X.A) (hb : KBn X.K fd ps (n + 1) ks g gV) (hx : PassesAt CX X σ (E σ))
    (I : Inv X pins σ H s) (r : Vals vs us) (rz : Vals zs ws) (l1 : vs.length = n) (l2 : zs.length = ks.length)
    (h : ∀ x dx, H x = none → H dx = none → dx ≠ x → sp (gV (.ref x :: vs) zs) (upd (upd H dx (.own x)) x (.ins C dx [])) (fun v H2 => v = .non ∧ Q (.ref x) H2) (E σ)) :
    wpAny (model X.prog X.w) X.A (call (.ref C) us (ks.zip ws)) (EP X pins σ Q) X.xe s := by
  have hq := h (s.heap.objs.size + 1) s.heap.objs.size (I.hok.fresh (Nat.le_succ _)) (I.hok.fresh (Nat.le_refl _)) (Nat.ne_of_lt (Nat.lt_succ_self _))
  have I2 := Inv.made (C := C) I
  have r1 : Vals (V.ref (s.heap.objs.size + 1) :: vs) (Value.ref (s.heap.objs.size + 1) :: us) := .cons rfl r
  have r2 := hb.rel r1 rz
  have n1 : (Value.ref (s.heap.objs.size + 1) :: us).length = n + 1 := by
    rw [List.length_cons, ← r.length, l1]
  refine wpAny_call (make_map (f := f) I.kIn M.makes M.init (beq_iff_eq.mp M.fn) (codeAny_mono (F.run _ X.stack _ _ ⟨Value.ref (s.heap.objs.size + 1) :: us, ks.zip ws⟩ (g (Value.ref (s.heap.objs.size + 1) :: us) ws) _ _ (E σ) (hr.make C us (ks.zip ws))
    (I2.env0.make C us (ks.zip ws)) (hb.to _ (Value.ref (s.heap.objs.size + 1) :: us) ws I2.kIn n1 (rz.length.symm.trans l2)) r2 hq) fun r s' hq' => ?_))
  cases r with
  | error e => exact hx pins _ _ e s' I2 hq'
  | ok fl =>
    cases fl with
    | ret u =>
      obtain ⟨v, H', I3, rv, ev, q3⟩ := I2.after hq'
      subst ev
      exact ⟨rv, ⟨V.ref (s.heap.objs.size + 1), H', I3, rfl, q3⟩⟩
    | next => exact False.elim hq'
    | brk => exact False.elim hq'
    | cont => exact False.elim hq'
end
section
variable {X : Cx} {k n : Nat} {f C : Addr} {fd : FuncData} {ps ks : List Str} {sp : Sp} {x : Str} {p pos : Pos} {e : Expr} {es : List Expr} {kws : List Keyword} {t tk : TA} {g : List Value → List Value → List Value} {gV : List V → List V → List V}
theorem pe_makeGK (M : Mk X.K C f) (F : FnOk X.prog X.w X.K X.mg X.base (L2.CX X.prog X.w) k f fd ps sp) (hr : Room (k + 1) X.A) (hg : Gl X x) (hm : X.mg x = some (.ref C)) (hb : KBn X.K fd ps (n + 1) ks g gV) (ha : PA X (e :: es) t) (hkw : PK X kws tk)
    (hall : (backToKw pos (keywordEach kws X.env)).all (·.1.isSome) = true) (hks : (backToKw pos (keywordEach kws X.env)).filterMap (·.1) = ks) (hdb : (x == ("__debug__" : Str)) = false)
    (he : starEach (e :: es) X.env = (false, eval e X.env) :: starEach es X.env) (hpl : ((backTo pos (starEach (e :: es) X.env)).any (·.1) || (backToKw pos (keywordEach kws X.env)).any (·.1.isNone)) = false) :
    PE X (.Call (.Name x p) (e :: es) kws pos) (fun σ H Q => t σ H fun vs H1 => tk σ H1 fun zs H2 => vs.length = n ∧ zs.length = ks.length ∧ ∃ W : WX, Takes X W ∧ ∀ x dx, H2 x = none → H2 dx = none → dx ≠ x → sp (gV (.ref x :: vs) zs) (upd (upd H2 dx (.own x)) x (.ins C dx [])) (fun v H3 => v = .non ∧ Q (.ref x) H3) (WE W σ)) := by
  refine ⟨fun pins s σ H Q I h => ?_⟩
  refine wpAny_Call_Name_kw (ld_glob I hg hm ?_ hdb)
  refine PySem.W.callWith_KW (h₀ := X.base) I.ok.mod.kin M.kp hall (thn (ha.run pos pins s σ H _ I h) fun us s1 ⟨vs, H1, I1, r, q⟩ => ?_) hpl he
  refine thn (hkw.run pos pins s1 σ H1 _ I1 q) fun ws s2 ⟨zs, H2, I2, rz, l1, l2, W, tw, q2⟩ => ⟨I2.kIn, ?_⟩
  rw [hks]
  exact run_makeSK (E := WE W) M F hr hb (passAt tw σ) I2 r rz l1 l2 q2
end
/-- .. the keywords named ks, behind n arguments -/
structure MakerK (P : Program) (w : World) (K : PySem.W.Frag) (mg : Str → Option Value) (base : Heap) (k : Nat) (x : Str) (ps : List Str) (n : Nat) (ks : List Str) (sp : SpD) : Prop where
  ex : ∃ f fd g, FnV P w K mg base k f fd ps sp ∧ KBn K fd ps (n + 1) ks g (fun vs zs => vs ++ zs) ∧ Mk K (He.ga K x) f
  g : mg x = some (.ref (He.ga K x))
  l : n + ks.length + 1 = ps.length
def tMakeOK (n m : Nat) (c : Str) (sp : SpD) (U V : TAD) : TOD := fun R Γ Φ => U R Γ fun ds Γ1 => V R Γ1 fun es Γ' => ds.length = n ∧ es.length = m ∧ sp (.ow (.ins c []) :: (ds ++ es).map .im) (fun r c' => r = .im .non ∧ match c' with
  | some c1 => Φ c1 Γ'
  | none => False) (fun nm pl _ => R nm pl Γ')
section
variable {X : Cx} {tk : Tk} {k j n m : Nat} {ps ks : List Str} {sp : SpD} {x : Str} {p pos : Pos} {e : Expr} {es : List Expr} {kws : List Keyword} {U V : TAD}
theorem po_makeK (C : MakerK X.prog X.w X.K X.mg X.base k x ps n ks sp) (tw : TkOk X tk) (hr : Room j X.A) (hk : k + 1 ≤ j) (ha : PFA X tk (e :: es) U) (hkw : PFK X tk kws V) (hg : Gl X x := by rfl) (hm : ks.length = m := by rfl)
    (hall : (backToKw pos (keywordEach kws X.env)).all (·.1.isSome) = true := by rfl) (hks : (backToKw pos (keywordEach kws X.env)).filterMap (·.1) = ks := by rfl) (hdb : (x == ("__debug__" : Str)) = false := by decide)
    (he : starEach (e :: es) X.env = (false, eval e X.env) :: starEach es X.env := by rfl) (hpl : ((backTo pos (starEach (e :: es) X.env)).any (·.1) || (backToKw pos (keywordEach kws X.env)).any (·.1.isNone)) = false := by rfl) :
    PFO X tk (.Call (.Name x p) (e :: es) kws pos) (tMakeOK n m x sp U V) := by
  subst hm
  obtain ⟨f, fd, g, F, hb, M⟩ := C.ex
  refine pe_imp (pe_makeGK M F (hr.mono hk) hg C.g hb ha hkw hall hks hdb he hpl) fun σ H Q ⟨B, R, Γ, G, Φ, t, en, h, kk⟩ => ⟨B, R, Γ, G, _, t, en, h, fun vs G0 H0 Γ0 ds p0 r0 h0 => ⟨B, R, Γ0, G0, _, t, p0.env, h0, fun zs G1 H1 Γ1 es' p01 r1 ⟨l1, l2, h2⟩ => ⟨by rw [r0.length]; exact l1, by rw [r1.length]; exact l2, ExOk X.K B R, tw B R t, fun a dx na nd ne => ?_⟩⟩⟩
  have p1 := p0.trans p01
  have r2 : Reps X.K G1 (vs ++ zs) (ds ++ es') := (r0.mono p01.gg).append r1
  have gn1 : G1 a = none := p1.env.gh.free na
  have gd1 : G1 dx = none := p1.env.gh.free nd
  have up : ∀ b u, H1 b = some u → upd (upd H1 dx (.own a)) a (.ins (He.ga X.K x) dx []) b = some u := fun b u q => by rw [upd_ne (ne_of_none q na), upd_ne (ne_of_none q nd)]; exact q
  have s0 : Same G1 (upd (upd H1 dx (.own a)) a (.ins (He.ga X.K x) dx [])) := fun b u q => up b u (p1.env.gh b u q)
  have ext : ∀ {c' : Option Cl} {G' H' : Hp}, PostR X.K G1 (upd (upd H1 dx (.own a)) a (.ins (He.ga X.K x) dx [])) (some a) G' H' c' → Ext G1 H1 G' H' := fun {c' G' H'} q => by
    refine ⟨q.gg, fun b u z => q.hh b u (up b u z) fun w => ?_, q.gh, fun b u z => ?_⟩
    · cases w
      rw [na] at z
      cases z
    · rcases q.gn b u z with w | w
      · exact .inl w
      · refine .inr ?_
        cases y : H1 b with
        | none => rfl
        | some v => rw [up b v y] at w; cases w
  refine ⟨G1, .ow (.ins x []) :: (ds ++ es').map .im, _, _, ?_, s0, .cons ⟨a, _, rfl, gn1, upd_same, dx, [], rfl, .nil⟩ (AsOk.ims' r2), h2, fun v r c' G' H' q rr hq => ?_, fun nm pl c' G' H' dd q pq hq => ?_⟩
  · show (L2.V.ref a :: (vs ++ zs)).length = _
    rw [List.length_cons, r2.length, List.length_append, l1, l2]
    exact C.l
  · obtain ⟨e1, e2⟩ := hq
    subst e1
    cases rr
    obtain ⟨c1, o, rfl, b1, b2, b3⟩ := q.bo a rfl
    exact ⟨rfl, kk (.ref a) G' H' Γ1 c1 (p1.trans (p1.env.ext (ext q))) ⟨a, o, rfl, b1, b2, b3, p1.back na, p1.env.wd.out na⟩ e2⟩
  · exact ⟨nm, pl, G', Γ1, rfl, (p1.env.ext (ext q)).env, pq, hq⟩
end
/-! ### defs with keyword-only defaults -/
def DefAtK (K : PySem.W.Frag) (x qual : Str) (st : Stmt) (kws : List (Str × V)) (f : Addr) : Prop := ∃ fd, FunD K x qual (defArgs st) (defBody st) (defScope st) [] kws f fd
structure CalleeK (P : Program) (w : World) (K : PySem.W.Frag) (mg : Str → Option Value) (base : Heap) (k : Nat) (f : Addr) (ps : List Str) (sp : SpD) (n : Nat) (ks : List Str) (dvs : List V) : Prop where
  ex : ∃ fd, FnV P w K mg base k f fd ps sp ∧ (∃ g, KBn K fd ps n ks g (fun vs zs => vs ++ zs)) ∧ ∃ ds, Vals dvs ds ∧ Binds K fd ps ds
  kp : PySem.W.keepIn K (.ref f) = true
section
variable {P : Program} {w : World} {K : PySem.W.Frag} {mg : Str → Option Value} {base : Heap}
theorem CalleeK.of {x qual : Str} {st : Stmt} {f : Addr} {N ps : List Str} {k : Nat} {T : TSD} {kws : List (Str × V)} (n : Nat) (bs : Option Nat) (F : DefAtK K x qual st kws f) (S : FnScope N ps (defScope st)) (hn : ps.length ≤ N.length) (hd : kws ≠ []) (hl : n + kws.length = ps.length)
    (hb1 : ∀ (D : Addr) (doc pm : Value) (an : Option Addr) (cdv ct : Value) (us ws : List Value), us.length = n → ws.length = (kws.map (·.1)).length →
      bindArgs (PySem.W.fnOf x qual (defArgs st) (defBody st) (defScope st) .none (.ref D) doc pm an cdv ct) ⟨us, (kws.map (·.1)).zip ws⟩ = pure (ps.zip (us ++ ws)))
    (hb2 : ∀ (D : Addr) (doc pm : Value) (an : Option Addr) (cdv ct : Value) (us ks : List Value), us.length = n → ks.length = kws.length →
      KwChain D ((kws.map (·.1)).zip ks) (bindArgs (PySem.W.fnOf x qual (defArgs st) (defBody st) (defScope st) .none (.ref D) doc pm an cdv ct) ⟨us, []⟩) (ps.zip (us ++ ks)))
    (hbody : ∀ (f : Addr) (cdv : Value) (A : Around) (outer : List Env) (s : Shared) (H : Hp) (E : XK), Room k (A.deeper (envOfC qual (defScope st) s.heap.objs.size f cdv)) →
      PFSs (cxOf (L2.CX P w) P w K mg base N qual (defScope st) f cdv A outer s H E) (TkS (cxOf (L2.CX P w) P w K mg base N qual (defScope st) f cdv A outer s H E) bs) (defBody st) T) :
    CalleeK P w K mg base (k + 1) f ps (bodySp N.length bs T) n (kws.map (·.1)) (kws.map (·.2)) := by
  obtain ⟨fd, F⟩ := F
  obtain ⟨mv, b1⟩ := F.kbinds0 (ps := ps) n (kws.map (·.1)) [] (fun vs _ zs => vs ++ zs) hd (fun _ h => by cases h) (fun r1 _ r2 => r1.append r2) fun D doc pm an cdv ct us mv ws l1 l2 l3 => by
    cases mv with
    | nil => exact hb1 D doc pm an cdv ct us ws l1 l3
    | cons _ _ => cases l2
  exact ⟨⟨fd, Fun.okV bs F S hn (hbody f), ⟨_, b1⟩, F.binds0 n hd hl hb2⟩, F.kp⟩
end
/-- the keyword-only default named x -/
def kwdAt (f : Str × Option Str) (x : Str) (K : PySem.W.Frag) : Addr := match K.lookup (He.fAd K f) with
  | some ⟨_, _, .func fd, _⟩ => (match fd.kwdefaults with
    | .ref D => (match PySem.W.nsIn K D x with
      | some (some (.ref a)) => a
      | _ => 0)
    | _ => 0)
  | _ => 0
end Vl

namespace PySem
open Sem (wp)
theorem meets_enumerate_new1 {v : Value} {o : Obj} {H : Heap → Prop} (B : Begins v o H) :
    Meets (Builtin.«enumerate.__new__» ⟨[.type "enumerate", v], []⟩) (fun _ R s => H s.heap ∧
      R (.ok (.ret (.ref (s.heap.push o).objs.size))) { s with heap := (s.heap.push o).push { cls := .type "enumerate", data := .fields #[.none, .bool false, .ref s.heap.objs.size, rawInt 0, .none, .none] } }) :=
  .of_wp fun prog w A R s h => by
    obtain ⟨hp, g, d, tk, os⟩ := s; obtain ⟨h1, h⟩ := h
    have hsub := sub_enumerate
    have q1 : ∀ {A' : Around} {E : Value → Shared → Prop} {Q : Value → Shared → Prop}, Q (.ref hp.objs.size) ⟨hp.push o, g, d, tk, os⟩ → wpAny (model prog w) A' (pyIter v) Q E ⟨hp, g, d, tk, os⟩ :=
      fun q => B.iter prog w _ _ ⟨hp, g, d, tk, os⟩ _ h1 q
    wp_walk using q1
    refine wpAny_stack_any fun st => wpAny_pure ?_
    split
    · rename_i c _ _ _ _ _
      cases (c == Value.type "enumerate")
      · wp_walk using q1
        exact ⟨_, rfl, h⟩
      · wp_walk using q1
        exact ⟨_, rfl, h⟩
    · wp_walk using q1
      exact ⟨_, rfl, h⟩
section
variable {prog : Program} {w : World} {A : Around} {E : Value → Shared → Prop} {s : Shared}
theorem enum1_begins {v : Value} {o : Obj} {H : Heap → Prop} {Q : Value → Shared → Prop} (B : Begins v o H) (h1 : H s.heap)
    (h : ∀ h', IsEnum h' (s.heap.objs.size + 1) s.heap.objs.size 0 .none → h'.get? s.heap.objs.size = some o → h'.objs.size = s.heap.objs.size + 2 →
      (∀ b o, s.heap.get? b = some o → h'.get? b = some o) → Q (.ref (s.heap.objs.size + 1)) { s with heap := h' }) :
    wpAny (model prog w) A (call (.type "enumerate") [v]) Q E s := by
  refine callType_new F.called_enumerate (by decide) (F.typeCall_enumerate_1 _) (F.newCall_enumerate_1 _) (fun obj => F.args_object_init_2 obj _) F.entry_enumerate_new
    (meets_enumerate_new1 B) ⟨h1, ?_⟩
  have hz : (s.heap.push o).objs.size = s.heap.objs.size + 1 := Heap.size_push ..
  show _ ∧ _
  rw [hz]
  have he : IsEnum ((s.heap.push o).push { cls := .type "enumerate", data := .fields #[.none, .bool false, .ref s.heap.objs.size, rawInt 0, .none, .none] }) (s.heap.objs.size + 1) s.heap.objs.size 0 .none := by
    have := Heap.get?_push_size (s.heap.push o) (o := { cls := .type "enumerate", data := .fields #[.none, .bool false, .ref s.heap.objs.size, rawInt 0, .none, .none] }) rfl
    rw [hz] at this; exact this
  refine ⟨⟨_, he, rfl⟩, h _ he (Heap.get?_push_of_some _ (Heap.get?_push_size _ B.free)) (by rw [Heap.size_push, hz]) fun b o x => Heap.get?_push_of_some _ (Heap.get?_push_of_some _ x)⟩
end
end PySem
namespace L2
open PySem PySem.Spec PyProof.Rows
/-- the tuple at a as it stands at each turn, the items in new pairs -/
def IteT (K : PySem.W.Frag) (a : Addr) : It :=
  ⟨fun i H => ∃ (xs : List V) (x : V), SqT K H a xs ∧ xs[i]? = some x, fun i H v H' => ∃ T x, v = .ref T ∧ H T = none ∧ H' = upd H T (.tup [.int (i : Nat), x]) ∧ ∀ xs, SqT K H a xs → xs[i]? = some x, fun i H => ∃ xs : List V, SqT K H a xs ∧ xs.length ≤ i⟩
theorem turn_enumT {P : Program} {w : World} {K : PySem.W.Frag} {elts : List Expr} {kk : Nat} {tpos : Pos} (a e it : Addr) (hai : a ≠ it) (hae : a ≠ e) :
    Turn P w K (.Tuple elts kk tpos) (IteT K a) [e, it] e (fun i h => (∃ old, IsEnum h e it ((i : Nat) : Int) old) ∧ h.IsTupleIter it a i ∧ e ≠ it) where
  mem := by simp
  obj := fun i h st b hb => by
    obtain ⟨⟨old, he⟩, ⟨o, ho, hc, hd⟩, _⟩ := st
    have e' : b = e ∨ b = it := by simpa using hb
    rcases e' with z | z
    · rw [z]; exact ⟨_, he, fun v q => nomatch q⟩
    · rw [z]; exact ⟨o, ho, fun v q => by rw [hd] at q; cases q⟩
  keep := fun i h h' st k => let ⟨⟨old, he⟩, hi, hne⟩ := st; ⟨⟨old, k e (by simp) _ he⟩, hi.at fun o q => k it (by simp) o q, hne⟩
  item := by
    intro X hP hw hK hc i pins s σ H E I hf st hg
    subst hP hw hK
    obtain ⟨⟨old, he⟩, hit, hne⟩ := st
    obtain ⟨xs, x, hq, hx⟩ := hg
    obtain ⟨its, rv, p, hz⟩ := I.tuple hq
    obtain ⟨u, hu, ru⟩ := rv.get hx
    have hel : e < s.heap.objs.size := Heap.lt_size he
    have hil : it < s.heap.objs.size := by obtain ⟨_, q, _⟩ := hit; exact Heap.lt_size q
    have hlt : i < its.toArray.size := by
      have := (List.getElem?_eq_some_iff.mp hu).1
      simpa using this
    refine wpAny_pyNext_enum_itemD (Draws.tuple (prog := X.prog) (w := X.w) (A := X.A.in1) (I.ok.hd hc) it a hai its.toArray) he ⟨hit, p⟩ hlt hne (by simp; exact ⟨hne, fun z => hae z.symm⟩) fun x' h' tk hx' ho hst hT hsz hk => ?_
    have ex : x' = u := by
      have h1 : its.toArray[i]? = some x' := hx'
      rw [List.getElem?_toArray, hu] at h1
      exact (Option.some.inj h1).symm
    subst ex
    refine ⟨_, rfl, wpAny_letOwnedTupleGo_enum (s := { s with heap := h', toks := tk + 1 }) ho fun h'' he' sb => ?_⟩
    have hT2 : h''.get? s.heap.objs.size = some { cls := .type "tuple", data := .seq #[.int i tk, x'] } := (sb.2 _ (Nat.ne_of_gt hel)).trans hT
    have new : ObjOk X.prog X.w (upd H s.heap.objs.size (.tup [.int (i : Nat), x])) h'' s.heap.objs.size (.tup [.int (i : Nat), x]) :=
      ⟨by show 2 ≤ sizeLine; decide, [.int i tk, x'], .cons ⟨_, rfl⟩ (.cons ru .nil), ⟨_, hT2, rfl, _, rfl⟩⟩
    have I1 : Inv X pins σ (upd H s.heap.objs.size (.tup [.int (i : Nat), x])) { s with heap := h'', toks := tk + 1 } :=
      I.turnedNew (ch := [e, it]) (fun b ob hb q => (sb.2 b (fun z => hb (by simp [z]))).trans (hk b ob (fun z => hb (by simp [z])) (fun z => hb (by simp [z])) q)) hf (Nat.le_refl _) new
    refine ⟨.ref s.heap.objs.size, _, I1, rfl, ⟨_, x, rfl, I.hok.fresh (Nat.le_refl _), rfl, fun ys hy => by rw [I.tuple_inj hy hq]; exact hx⟩, ⟨⟨x', ?_⟩, hst.1.at fun o q => (sb.2 it (Ne.symm hne)).trans q, hne⟩, fun b hb => ?_⟩
    · have e1 : ((i + 1 : Nat) : Int) = (i : Int) + 1 := by omega
      rw [e1]; exact he'
    · have hb' : b < s.heap.objs.size := by
        have e' : b = e ∨ b = it := by simpa using hb
        rcases e' with z | z
        · rw [z]; exact hel
        · rw [z]; exact hil
      rw [upd_ne (Nat.ne_of_lt hb')]
      exact (hf b hb).1
  done := by
    intro X hP hw hK hc i pins s σ H E I hf st hg
    subst hP hw hK
    obtain ⟨⟨old, he⟩, hit, hne⟩ := st
    obtain ⟨xs, hq, hx⟩ := hg
    obtain ⟨its, rv, p, hz⟩ := I.tuple hq
    obtain ⟨f0, f1, f2, f3, f4, f5⟩ := hf it (by simp)
    have hl := rv.length
    have hT : s.TypeIs (.ref e) "enumerate" := ⟨_, he, rfl⟩
    unfold pyNext
    refine wpAny_bind (wpAny_attempt (wpAny_callSpecial?_slot (name := Str.ofString "__next__") hT F.slot_enumerate_next
      (wpAny_call_entry F.slot_enumerate_next hT F.entry_enumerate_next ?_ (F.args_enumerate_next_1 _))))
    show wpAny _ _ (field (.ref e) 2 >>= _) _ _ _
    refine wpAny_bind (wpAny_field he rfl (x := .ref it) rfl ?_)
    refine wpAny_bind (wpAny_nextOf_tuple_end (I.ok.hd hc) hit (show s.heap.IsTuple a its.toArray from p) (by simp; omega) fun h' x he' hx' => ?_)
    obtain ⟨o, ho, hcc⟩ := hx'
    refine wpAny_bind (wpAny_isInstance (T := "StopIteration") (b := true) ⟨o, ho, hcc⟩ isSubtype_stop ?_)
    exact wpAny_pure ⟨rfl, I.turned (t' := s.toks) (fun b o hb q => he' b o hb q) f0 f1 f3 f4 f5⟩
  self := fun A i s Q E st h => let ⟨⟨_, he⟩, _⟩ := st; wpAny_pyIter_enum he h
def iEnumT (K : PySem.W.Frag) (ta : TA) : TI := fun σ H R => ta σ H fun vs H1 => ∃ a xs, vs = [.ref a] ∧ ((SqL K H1 a xs ∧ R (Ite K a) H1) ∨ (SqT K H1 a xs ∧ R (IteT K a) H1))
theorem pi_enumT {X : Cx} {e : Expr} {ta : TA} {p pos tpos : Pos} {elts : List Expr} {kk : Nat} (hg : Gl X "enumerate") (hm : X.mg "enumerate" = none) (ha : PA X [e] ta) (hs : starEach [e] X.env = [(false, eval e X.env)] := by rfl) :
    PI X (.Tuple elts kk tpos) (.Call (.Name "enumerate" p) [e] [] pos) (iEnumT X.K ta) := by
  refine ⟨fun pins s σ H R I h => ?_⟩
  refine Call_ (ld_blt I hg hm boot_enumerate (PyProof.Rows.callWith_type1 (thn (ha.run pos pins s σ H _ I h) fun us s1 ⟨vs, H1, I1, r1, q1⟩ => ?_) hs rfl))
  obtain ⟨a, xs, ex, q⟩ := q1
  subst ex
  cases r1 with
  | cons r rr =>
    cases rr
    cases r
    have fin : ∀ b, (b = s1.heap.objs.size + 1 ∨ b = s1.heap.objs.size) → s1.heap.objs.size ≤ b := fun b e' => by
      rcases e' with z | z
      · rw [z]; exact Nat.le_add_right _ _
      · rw [z]; exact Nat.le_refl _
    rcases q with ⟨hq, q⟩ | ⟨hq, q⟩
    · obtain ⟨its, rv, p', hz⟩ := I1.list hq
      refine call_enumerate_list p'.isList fun h' he hit hsz hk => wpAny_pyIter_enum he ?_
      have I2 : Inv X pins σ H1 { s1 with heap := h' } := I1.kept (t' := s1.toks) hk
      refine ⟨s1.heap.objs.size + 1, [s1.heap.objs.size + 1, s1.heap.objs.size], _, _, H1, rfl, I2, turn_enum a (s1.heap.objs.size + 1) s1.heap.objs.size, ⟨⟨.none, he⟩, hit, Nat.succ_ne_self _⟩, fun b hb => ?_, q⟩
      have hle := fin b (by simpa using hb)
      exact I1.fpOk hle (I1.hok.fresh hle)
    · obtain ⟨its, rv, p', hz⟩ := I1.tuple hq
      have ht : s1.heap.IsTuple a its.toArray := p'
      have hlt : a < s1.heap.objs.size := by obtain ⟨_, q, _⟩ := ht; exact Heap.lt_size q
      refine enum1_begins (begins_tuple a its.toArray) ht fun h' he hit hsz hk => wpAny_pyIter_enum he ?_
      have I2 : Inv X pins σ H1 { s1 with heap := h' } := I1.kept (t' := s1.toks) hk
      refine ⟨s1.heap.objs.size + 1, [s1.heap.objs.size + 1, s1.heap.objs.size], _, _, H1, rfl, I2, turn_enumT a (s1.heap.objs.size + 1) s1.heap.objs.size (Nat.ne_of_lt hlt) (Nat.ne_of_lt (Nat.lt_succ_of_lt hlt)), ⟨⟨.none, he⟩, ⟨_, hit, rfl, rfl⟩, Nat.succ_ne_self _⟩, fun b hb => ?_, q⟩
      have hle := fin b (by simpa using hb)
      exact I1.fpOk hle (I1.hok.fresh hle)
end L2
namespace Vl
open PySem PySem.Spec PyProof.Rows L2
def enumDs (ds : List D) : List D := ds.zipIdx.map fun p => .tup [.int (p.2 : Int), p.1]
theorem enumDs_map {α : Type} (f : α → D) (xs : List α) : enumDs (xs.map f) = xs.zipIdx.map fun p => .tup [.int (p.2 : Int), f p.1] := by
  unfold enumDs
  rw [List.zipIdx_map, List.map_map]
  rfl
theorem enumDs_length (ds : List D) : (enumDs ds).length = ds.length := by unfold enumDs; simp
section
variable {K : PySem.W.Frag} {G : Hp}
theorem it_enum {p : Addr} {xs : List V} {ds : List D} (h : SqL K G p xs) (r : Reps K G xs ds) : ItOk K (Ite K p) G (enumDs ds) := by
  refine ⟨fun i H s hi => ?_, fun i H s hi => ⟨xs, same_l s h, by rw [r.length, hi, enumDs_length]; exact Nat.le_refl _⟩, fun i G2 H x H' s1 s2 hi ⟨T, v, e1, e2, e3, y⟩ => ?_⟩
  · rw [enumDs_length] at hi
    obtain ⟨v, h1, _⟩ := r.get (i := i) (List.getElem?_eq_getElem hi)
    exact ⟨xs, v, same_l s h, h1⟩
  · subst e1 e3
    obtain ⟨d, h1, h2⟩ := r.getV (y xs (same_l s2 (same_l s1 h)))
    have ex := Ext.new (o := .tup [.int (i : Nat), v]) s2 e2
    refine ⟨.tup [.int (i : Int), d], _, ?_, ex, .tup (xs := [.int (i : Nat), v]) (.inl (.inl upd_same)) (Nat.le_of_ble_eq_true rfl) (.cons (.int _) (.cons ((h2.mono s1).mono ex.gg) .nil))⟩
    unfold enumDs
    rw [List.getElem?_map, List.getElem?_zipIdx, h1]
    simp
theorem it_enumT {p : Addr} {xs : List V} {ds : List D} (h : SqT K G p xs) (r : Reps K G xs ds) : ItOk K (IteT K p) G (enumDs ds) := by
  refine ⟨fun i H s hi => ?_, fun i H s hi => ⟨xs, same_t s h, by rw [r.length, hi, enumDs_length]; exact Nat.le_refl _⟩, fun i G2 H x H' s1 s2 hi ⟨T, v, e1, e2, e3, y⟩ => ?_⟩
  · rw [enumDs_length] at hi
    obtain ⟨v, h1, _⟩ := r.get (i := i) (List.getElem?_eq_getElem hi)
    exact ⟨xs, v, same_t s h, h1⟩
  · subst e1 e3
    obtain ⟨d, h1, h2⟩ := r.getV (y xs (same_t s2 (same_t s1 h)))
    have ex := Ext.new (o := .tup [.int (i : Nat), v]) s2 e2
    refine ⟨.tup [.int (i : Int), d], _, ?_, ex, .tup (xs := [.int (i : Nat), v]) (.inl (.inl upd_same)) (Nat.le_of_ble_eq_true rfl) (.cons (.int _) (.cons ((h2.mono s1).mono ex.gg) .nil))⟩
    unfold enumDs
    rw [List.getElem?_map, List.getElem?_zipIdx, h1]
    simp
end
/-- for k, x in enumerate(e) -/
def D.seq : D → (List D → Prop) → Prop
  | .tup ds, k => k ds
  | .lst ds, k => k ds
  | .ro ds, k => k ds
  | _, _ => False
def tEnum (T : TF) : TAD := fun R Γ Φ => T R Γ fun d Γ' => d.seq fun ds => Φ (enumDs ds) Γ'
section
variable {X : Cx} {tk : Tk} {e : Expr} {Te : TF} {pos p tpos : Pos} {elts : List Expr} {kk : Nat}
theorem pfi_enum (hm : X.mg "enumerate" = none) (he : PF X tk e Te) (hg : Gl X "enumerate" := by rfl) (hs : starEach [e] X.env = [(false, eval e X.env)] := by rfl) : PFI X tk (.Tuple elts kk tpos) (.Call (.Name "enumerate" p) [e] [] pos) (tEnum Te) :=
  pi_imp (pi_enumT hg hm (pa_cons he pa_nil hs) hs) fun σ H Q ⟨B, R, Γ, G, Φ, t, en, h, k⟩ => ⟨B, R, Γ, G, _, t, en, h, fun v G1 H1 Γ1 d p1 r1 h1 => by
    cases r1 with
    | tup hp l r => exact ⟨_, _, rfl, .inr ⟨same_t p1.env.gh hp, k _ G1 H1 Γ1 _ p1 (it_enumT hp r) h1⟩⟩
    | lst hp l r => exact ⟨_, _, rfl, .inl ⟨SqL.of (p1.env.gh _ _ hp), k _ G1 H1 Γ1 _ p1 (it_enum (SqL.of hp) r) h1⟩⟩
    | ro hp l r => exact ⟨_, _, rfl, .inl ⟨same_l p1.env.gh hp, k _ G1 H1 Γ1 _ p1 (it_enum hp r) h1⟩⟩
    | _ => exact h1.elim⟩
end
end Vl

namespace Vl
open PySem PySem.Spec PyProof.Rows L2
/-! ### name = [e for x in .. for y in ..], on one line -/
section
variable {X : Cx} {tk : Tk} {bs : Option Nat} {elt tg iter tg1 iter1 : Expr} {ifs ifs1 : List Expr} {scope : Scope} {pos : Pos} {it it1 : TAD} {g g1 : TGD} {tt tt1 : TTD} {te : TF}
theorem pfs_setLc2 (i : Nat) {y : Str} {py spos : Pos} (own : List (Str × Nat)) (vs1 : List Nat) (hv1 : ∀ v ∈ vs1, v ∈ own.map (·.2)) (nb : NbT tk i) (hc : X.calm = true) (hN : X.N.Nodup) (tb : TkBs tk bs) (hb : ∀ p ∈ own, bs ≠ some p.2) (hi : PFI X tk tg iter it) (ok : BlkOk X.N X.env.scope scope own)
    (hg : ∀ (s : Shared) (H : Hp) (C : Addr) (cl : List (Str × Addr)) (fp : List Addr), PGV (X.blk s H scope (compEnvC scope cl C X.env) fp) (TkB bs) (own.map (·.2)) tg g)
    (ht : ∀ (s : Shared) (H : Hp) (C : Addr) (cl : List (Str × Addr)) (fp : List Addr), PFTs (X.blk s H scope (compEnvC scope cl C X.env) fp) (TkB bs) ifs tt)
    (hi1 : ∀ (s : Shared) (H : Hp) (C : Addr) (cl : List (Str × Addr)) (fp : List Addr), PFI (X.blk s H scope (compEnvC scope cl C X.env) fp) (TkB bs) tg1 iter1 it1)
    (hg1 : ∀ (s : Shared) (H : Hp) (C : Addr) (cl : List (Str × Addr)) (fp : List Addr), PGV (X.blk s H scope (compEnvC scope cl C X.env) fp) (TkB bs) vs1 tg1 g1)
    (ht1 : ∀ (s : Shared) (H : Hp) (C : Addr) (cl : List (Str × Addr)) (fp : List Addr), PFTs (X.blk s H scope (compEnvC scope cl C X.env) fp) (TkB bs) ifs1 tt1)
    (he : ∀ (s : Shared) (H : Hp) (C : Addr) (cl : List (Str × Addr)) (fp : List Addr), PF (X.blk s H scope (compEnvC scope cl C X.env) fp) (TkB bs) elt te) (hy : X.N[i]? = some y := by rfl) (hyl : X.env.scope.names.lookup y = some .local := by rfl)
    (hsw : swapsWith (.ListComp elt [⟨tg, iter, ifs, 0⟩, ⟨tg1, iter1, ifs1, 0⟩] scope pos) (some (.Name y py)) spos.line X.env = pure true := by rfl) (hs : ∀ x, foldedSetIterable iter X.env x = pure x := by intro _; rfl) (hs1 : ∀ env x, foldedSetIterable iter1 env x = pure x := by intro _ _; rfl) :
    PFS X tk (.Assign [.Name y py] (.ListComp elt [⟨tg, iter, ifs, 0⟩, ⟨tg1, iter1, ifs1, 0⟩] scope pos) spos) (tSetO i (tLc2D it g tt it1 g1 tt1 te (own.map (·.2)) vs1)) :=
  ps_imp (ps_setLc2 (wi := lI X.K tk it) (wi1 := lI X.K (TkB bs) it1) (g := lGv X.K (TkB bs) (List.map (fun x : Str × Nat => x.2) own) g) (tt := lT X.K (TkB bs) tt) (g1 := lGv X.K (TkB bs) vs1 g1) (tt1 := lT X.K (TkB bs) tt1) (te := lE X.K (TkB bs) te) hc hN hy hyl hsw hi ok hv1 hg ht hi1 hg1 ht1 he hs hs1) fun D' σ H h => lc2_read own hv1 tb hb (asg_coreO nb h)
theorem pfs_setLc2F (i : Nat) {y : Str} {py spos : Pos} (own : List (Str × Nat)) (vs1 : List Nat) (hv1 : ∀ v ∈ vs1, v ∈ own.map (·.2)) (nb : NbT tk i) (hc : X.calm = true) (hN : X.N.Nodup) (tb : TkBs tk bs) (hb : ∀ p ∈ own, bs ≠ some p.2) (hi : PFI X tk tg iter it) (ok : BlkOk X.N X.env.scope scope own)
    (hg : ∀ (s : Shared) (H : Hp) (C : Addr) (cl : List (Str × Addr)) (fp : List Addr), PGV (X.blk s H scope (compEnvC scope cl C X.env) fp) (TkB bs) (own.map (·.2)) tg g)
    (ht : ∀ (s : Shared) (H : Hp) (C : Addr) (cl : List (Str × Addr)) (fp : List Addr), PFTs (X.blk s H scope (compEnvC scope cl C X.env) fp) (TkB bs) ifs tt)
    (hi1 : ∀ (s : Shared) (H : Hp) (C : Addr) (cl : List (Str × Addr)) (fp : List Addr), PFI (X.blk s H scope (compEnvC scope cl C X.env) fp) (TkB bs) tg1 iter1 it1)
    (hg1 : ∀ (s : Shared) (H : Hp) (C : Addr) (cl : List (Str × Addr)) (fp : List Addr), PGV (X.blk s H scope (compEnvC scope cl C X.env) fp) (TkB bs) vs1 tg1 g1)
    (ht1 : ∀ (s : Shared) (H : Hp) (C : Addr) (cl : List (Str × Addr)) (fp : List Addr), PFTs (X.blk s H scope (compEnvC scope cl C X.env) fp) (TkB bs) ifs1 tt1)
    (he : ∀ (s : Shared) (H : Hp) (C : Addr) (cl : List (Str × Addr)) (fp : List Addr), PF (X.blk s H scope (compEnvC scope cl C X.env) fp) (TkB bs) elt te) (hy : X.N[i]? = some y := by rfl) (hyl : X.env.scope.names.lookup y = some .local := by rfl)
    (hsw : swapsWith (.ListComp elt [⟨tg, iter, ifs, 0⟩, ⟨tg1, iter1, ifs1, 0⟩] scope pos) (some (.Name y py)) spos.line X.env = pure true := by rfl) (hs : ∀ x, foldedSetIterable iter X.env x = pure x := by intro _; rfl) (hs1 : ∀ env x, foldedSetIterable iter1 env x = pure x := by intro _ _; rfl) :
    PFS X tk (.Assign [.Name y py] (.ListComp elt [⟨tg, iter, ifs, 0⟩, ⟨tg1, iter1, ifs1, 0⟩] scope pos) spos) (tSetD i (tFz (tLc2D it g tt it1 g1 tt1 te (own.map (·.2)) vs1))) :=
  ps_imp (ps_setLc2 (wi := lI X.K tk it) (wi1 := lI X.K (TkB bs) it1) (g := lGv X.K (TkB bs) (List.map (fun x : Str × Nat => x.2) own) g) (tt := lT X.K (TkB bs) tt) (g1 := lGv X.K (TkB bs) vs1 g1) (tt1 := lT X.K (TkB bs) tt1) (te := lE X.K (TkB bs) te) hc hN hy hyl hsw hi ok hv1 hg ht hi1 hg1 ht1 he hs hs1) fun D' σ H h => lc2_read own hv1 tb hb (fz_core (asg_core nb h))
end
end Vl

namespace Vl
open PySem PySem.Spec PyProof.Rows L2
/-! ### xs + ys, lists, a new cell -/
def tAddO (A B : TF) : TOD := fun R Γ Φ => A R Γ fun a Γ1 => B R Γ1 fun b Γ2 => match a, b with
  | .lst xs, .lst ys => xs.length + ys.length ≤ sizeLine ∧ Φ (.lst (xs ++ ys)) Γ2
  | _, _ => False
section
variable {X : Cx} {tk : Tk} {a b : Expr} {Ta Tb : TF} {pos : Pos}
theorem po_addL (ha : PF X tk a Ta) (hb : PF X tk b Tb) : PFO X tk (.BinOp a .Add b pos) (tAddO Ta Tb) :=
  pe_imp (pe_op op_cat ha hb) fun σ H Q ⟨B, R, Γ, G, Φ, t, en, h, k⟩ => ⟨B, R, Γ, G, _, t, en, h, fun v G1 H1 Γ1 d p1 r1 h1 => ⟨B, R, Γ1, G1, _, t, p1.env, h1, fun v2 G2 H2 Γ2 d2 p2 r2 h2 => by
    cases r1 with
    | lst hp l r =>
      cases r2 with
      | lst hp2 l2 r2 =>
        obtain ⟨hl, hΦ⟩ := h2
        have g1 := p2.env.gh _ _ (p2.gg _ _ hp)
        have g2 := p2.env.gh _ _ hp2
        refine ⟨_, _, _, _, rfl, rfl, g1, g2, by rw [r.length, r2.length]; exact hl, fun q hq => ?_⟩
        exact k (.ref q) G2 _ Γ2 (.lst _) ((p1.trans p2).trans (p2.env.cell hq)) ⟨q, _, rfl, p2.env.gh.free hq, upd_same, ⟨_, rfl, by rw [List.length_append, r.length, r2.length]; exact hl, (r.mono p2.gg).append r2⟩, (p1.trans p2).back hq, p2.env.wd.out hq⟩ hΦ
      | _ => exact h2.elim
    | _ => exact h2.elim⟩⟩
end
/-! ### xs += ys, xs our own list -/
def tAugL (i : Nat) (T : TF) : TSD := fun R D Γ => match Γ.sl[i]? with
  | some (.ow (.lst _)) => T R Γ fun d Γ' => match Γ'.sl[i]?, d with
    | some (.ow (.lst ds)), .lst es => ds.length + es.length ≤ sizeLine ∧ D.nx (Γ'.set i (.ow (.lst (ds ++ es))))
    | _, _ => False
  | _ => False
theorem set_self {σ : L2.St} {i : Nat} {v : V} (h : σ[i]? = some (some v)) : σ.set i (some v) = σ := by
  obtain ⟨hi, e⟩ := List.getElem?_eq_some_iff.mp h
  rw [← e]
  exact List.set_getElem_self hi
section
variable {X : Cx} {tk : Tk} {e : Expr} {T : TF} {pos pos' : Pos}
theorem pfs_augL (i : Nat) {x : Str} (hN : X.N.Nodup) (he : PF X tk e T) (hi : X.N[i]? = some x := by rfl) (hx : Loc X.env.scope x := by first | exact Or.inl rfl | exact Or.inr rfl) (hf : X.fn x = true ∨ X.env.scope.names.lookup x = some .local := by first | exact .inl rfl | exact .inr rfl) :
    PFS X tk (.AugAssign (.Name x pos') .Add e pos) (tAugL i T) :=
  ps_imp (ps_aug (ti := rExt2) hN hi hx he (fun pins s σ H x y v u Q I r1 r2 h => iop_ext pins s σ H x y v u Q I r1 r2 h) hf) fun D' σ H ⟨B, R, Γ, G, D, t, en, h, xx⟩ => by
    unfold tAugL at h
    split at h
    · rename_i ds0 q
      obtain ⟨l, o, a1, a2, a3, ⟨xs0, a4, _, _⟩, _⟩ := en.ow i _ q
      refine ⟨.ref l, a1, B, R, Γ, G, _, t, en, h, fun v G1 H1 Γ1 d p r h1 => ?_⟩
      split at h1
      · rename_i ds es q2
        obtain ⟨l2, o2, b1, b2, b3, ⟨xs, b4, b5, b6⟩, _⟩ := p.env.ow i _ q2
        rw [a1] at b1
        cases b1
        subst b4
        obtain ⟨h3, h4⟩ := h1
        cases r with
        | @lst pb ys _ hp l2 r2 =>
          have hp2 := p.env.gh _ _ hp
          refine ⟨l, pb, xs, ys, rfl, rfl, b3, hp2, by rw [b6.length, r2.length]; exact h3, ?_⟩
          show D'.nx (σ.set i (some (V.ref l))) _
          rw [set_self a1]
          have w := p.env.write (c' := .lst (ds ++ es)) q2 a1 (o' := .lst (xs ++ ys)) ⟨xs ++ ys, rfl, by rw [List.length_append, b6.length, r2.length]; exact h3, b6.append r2⟩
          exact xx.nx _ _ _ _ w.env h4
      · exact h1.elim
    · exact h.elim
end
/-! ### sep.join(xs) -/
def dJoin (s : Str) (d : D) (k : D → Prop) : Prop := match d with
  | .lst ds => ∃ ys : List Str, ds = ys.map D.str ∧ (ys.map (·.length)).sum + ys.length * s.length ≤ 16777216 ∧ k (.str (Txt.join s ys))
  | .tup ds => ∃ ys : List Str, ds = ys.map D.str ∧ (ys.map (·.length)).sum + ys.length * s.length ≤ 16777216 ∧ k (.str (Txt.join s ys))
  | _ => False
def tJoin (T U : TF) : TF := fun R Γ Φ => T R Γ fun a Γ1 => match a with
  | .str s => U R Γ1 fun d Γ2 => dJoin s d fun r => Φ r Γ2
  | _ => False
theorem reps_strs {K : PySem.W.Frag} {G : Hp} : ∀ {xs : List V} {ys : List Str}, Reps K G xs (ys.map D.str) → xs = ys.map V.str
  | _, [], .nil => rfl
  | _, y :: ys, .cons h t => by
    cases h
    rw [reps_strs t]
    rfl
section
variable {X : Cx} {tk : Tk} {o e : Expr} {T U : TF} {apos pos : Pos}
theorem pf_join (ho : PF X tk o T) (he : PF X tk e U) (hs : starEach [e] X.env = [(false, eval e X.env)] := by rfl) (hbase : attributeBase o "join" X.env (eval o X.env) = eval o X.env := by rfl) (hline : (apos.endLine == pos.line) = true := by rfl) :
    PF X tk (.Call (.Attribute o "join" apos) [e] [] pos) (tJoin T U) :=
  pe_imp (pe_join ho he hs hbase hline) fun σ H Q ⟨B, R, Γ, G, Φ, t, en, h, k⟩ => ⟨B, R, Γ, G, _, t, en, h, fun v G1 H1 Γ1 d p1 r1 h1 => by
    cases r1 with
    | str s =>
      refine ⟨⟨s, rfl⟩, B, R, Γ1, G1, _, t, p1.env, h1, fun v2 G2 H2 Γ2 d2 p2 r2 h2 => ?_⟩
      cases r2 with
      | lst hp l r =>
        obtain ⟨ys, rfl, hz, hΦ⟩ := h2
        have := reps_strs r
        subst this
        exact ⟨s, _, ys, rfl, rfl, .inl (SqL.of (p2.env.gh _ _ hp)), hz, k _ G2 H2 Γ2 _ (p1.trans p2) (.str _) hΦ⟩
      | tup hp l r =>
        obtain ⟨ys, rfl, hz, hΦ⟩ := h2
        have := reps_strs r
        subst this
        exact ⟨s, _, ys, rfl, rfl, .inr (same_t p2.env.gh hp), hz, k _ G2 H2 Γ2 _ (p1.trans p2) (.str _) hΦ⟩
      | _ => exact h2.elim
    | _ => exact h1.elim⟩
end
/-! ### dict(pairs), d[k] -/
/-- a pair: a tuple or a list of two -/
def PrAt (K : PySem.W.Frag) (H : Hp) (x : V) (kv : L2.Key × V) : Prop := ∃ p, x = .ref p ∧ (SqT K H p [kV kv.1, kv.2] ∨ SqL K H p [kV kv.1, kv.2])
theorem pairs_of2 {X : Cx} {pins : List (Addr × Obj)} {σ : L2.St} {H : Hp} {s : Shared} (I : Inv X pins σ H s) : ∀ {ys : List V} {its : List Value} {kvs : List (L2.Key × V)}, Paired (PrAt X.K H) ys kvs → Vals ys its →
    ∃ (prs : List (L2.Key × Value)) (vs : List (Value × Value)), KV kvs prs ∧ prs.length = its.length ∧ vs.length = its.length ∧
      ∀ (j : Nat) (k v : Value), vs[j]? = some (k, v) → ∃ (b : Addr) (kk : L2.Key), its[j]? = some (.ref b) ∧ PairAt s.heap b k v ∧ prs[j]? = some (kk, v) ∧ (mixKind X.prog X.w).is kk k = true
  | _, _, _, .nil, .nil => ⟨[], [], .nil, rfl, rfl, fun j k v e => by simp at e⟩
  | _, _, _, .cons (b := kv) ⟨p, rfl, h⟩ t, .cons (b := u) ru rt => by
    obtain ⟨prs, vs, r, l1, l2, hp⟩ := pairs_of2 I t rt
    cases ru
    have key : ∃ (ku y : Value), RelV (kV kv.1) ku ∧ RelV kv.2 y ∧ PairAt s.heap p ku y := by
      rcases h with h | h
      · obtain ⟨its2, rv, ht, _⟩ := I.tuple h
        obtain ⟨ku, y, ei, r1, r2⟩ := vals2 rv
        subst ei
        exact ⟨ku, y, r1, r2, .inl ht⟩
      · obtain ⟨its2, rv, ht, _⟩ := I.list h
        obtain ⟨ku, y, ei, r1, r2⟩ := vals2 rv
        subst ei
        exact ⟨ku, y, r1, r2, .inr ht.isList⟩
    obtain ⟨ku, y, r1, r2, pa⟩ := key
    refine ⟨(kv.1, y) :: prs, (ku, y) :: vs, .cons ⟨rfl, r2⟩ r, by simp [l1], by simp [l2], fun j k v e => ?_⟩
    cases j with
    | zero =>
      cases e
      exact ⟨p, kv.1, rfl, pa, rfl, kV_is (P := X.prog) (w := X.w) r1⟩
    | succ j =>
      obtain ⟨b, kk, e1, e2, e3, e4⟩ := hp j k v (by simpa using e)
      exact ⟨b, kk, by simpa using e1, e2, by simpa using e3, e4⟩
section
variable {X : Cx}
theorem cr_dictP (hcalm : X.calm = true) : CallR X (.type "dict") (fun xs H Q => ∃ (a : Addr) (ys : List V) (kvs : List (L2.Key × V)), xs = [.ref a] ∧ SqL X.K H a ys ∧ Paired (PrAt X.K H) ys kvs ∧
    ∀ p, H p = none → Q (.ref p) (upd H p (.dK (mergeK [] kvs)))) := by
  intro pins s σ H xs us Q I r q
  obtain ⟨a, ys, kvs, ex, hq, hp, q⟩ := q
  subst ex
  obtain ⟨u, eu, rx⟩ := vals1 r
  subst eu
  cases rx
  obtain ⟨its, rv, pl, hz⟩ := I.list hq
  obtain ⟨prs, vs, rel, l1, l2, hpr⟩ := pairs_of2 I hp rv
  have ly := rv.length
  let Ts : Nat → Addr := fun j => match its[j]? with
    | some (.ref b) => b
    | _ => 0
  have ok : PlainSeq "list" s.heap a its.toArray ∧ PairItems s.heap its.toArray Ts vs := by
    obtain ⟨o, n, ho, hc, hd, hdat⟩ := pl
    refine ⟨⟨o, n, ho, hc, hd, hdat⟩, by simp [l2], fun j k v e => ?_⟩
    obtain ⟨b, kk, e1, e2, e3, e4⟩ := hpr j k v e
    have et : Ts j = b := by
      show (match its[j]? with | some (.ref b) => b | _ => 0) = b
      rw [e1]
    rw [et]
    exact ⟨by simp [e1], e2⟩
  refine PySem.call_dict_pairs (knd := mixKind X.prog X.w) (kvs := prs) (PairArg.list a its.toArray Ts vs) (I.ok.hd hcalm) ok ⟨by rw [l1, l2], fun i key v rel2 => ?_⟩ (by rw [l2]; omega) fun h' tk hd' hk => ?_
  · obtain ⟨b, kk, e1, e2, e3, e4⟩ := hpr i key v rel2
    exact ⟨kk, e3, e4⟩
  · have hm : (s.heap.objs.size == sysModules) = false := beq_eq_false_iff_ne.mpr (Nat.ne_of_gt I.big)
    have hlen : (mergeK [] kvs).length ≤ sizeLine := by
      refine Nat.le_trans (length_mergeK kvs []) ?_
      rw [List.length_nil, Nat.zero_add, rel.length, l1]
      omega
    exact ⟨.ref s.heap.objs.size, upd H s.heap.objs.size (.dK (mergeK [] kvs)), I.laid (t' := tk) (fun b o e => hk b o (by simp) e) (Nat.le_refl _) (show ObjOk X.prog X.w _ _ _ (.dK (mergeK [] kvs)) from ⟨hlen, hm, merged [] prs, KV.merge rel .nil, hd'⟩), rfl, q _ (I.hok.fresh (Nat.le_refl _))⟩
end
theorem mergeK_nodup {kvs acc : List (L2.Key × V)} (h : ((acc ++ kvs).map (·.1)).Nodup) : mergeK acc kvs = acc ++ kvs := by
  induction kvs generalizing acc with
  | nil => simp [mergeK]
  | cons kv kvs ih =>
    have h1 : (acc.any fun q => decide (q.1 = kv.1)) = false := by
      rw [List.any_eq_false]
      intro q hq
      rw [List.map_append, List.nodup_append] at h
      have := h.2.2 q.1 (List.mem_map_of_mem hq) kv.1 (by simp)
      simpa using this
    have e : putK acc kv.1 kv.2 = acc ++ [kv] := by
      unfold putK
      rw [h1]
      simp
    show mergeK (putK acc kv.1 kv.2) kvs = _
    rw [e, ih (by simpa using h)]
    simp
/-- what a pair holds -/
inductive PrD : D → L2.Key × D → Prop
  | tup (k : L2.Key) (d : D) : PrD (.tup [kD k, d]) (k, d)
  | lst (k : L2.Key) (d : D) : PrD (.lst [kD k, d]) (k, d)
def tDictP (T : TF) : TOD := fun R Γ Φ => T R Γ fun d Γ1 => ∃ (ds : List D) (kvs : List (L2.Key × D)), d = .lst ds ∧ Paired PrD ds kvs ∧ (kvs.map (·.1)).Nodup ∧ Φ (.dct kvs) Γ1
theorem reps_prs {K : PySem.W.Frag} {G H : Hp} (s : Same G H) : ∀ {xs : List V} {ds : List D} {kvs : List (L2.Key × D)}, Reps K G xs ds → Paired PrD ds kvs → ∃ vs : List (L2.Key × V), Paired (PrAt K H) xs vs ∧ RepK K G vs kvs ∧ vs.map (·.1) = kvs.map (·.1)
  | _, _, _, .nil, .nil => ⟨[], .nil, .nil, rfl⟩
  | _, _, _, .cons h t, .cons hp tp => by
    obtain ⟨vs, h1, h2, h3⟩ := reps_prs s t tp
    cases hp with
    | tup k d =>
      cases h with
      | tup hq l r =>
        cases r with
        | cons ra rb =>
          cases rb with
          | cons rb rc =>
            cases rc
            have := rep_kD ra
            subst this
            exact ⟨(k, _) :: vs, .cons ⟨_, rfl, .inl (same_t s hq)⟩ h1, .cons rb h2, by simp [h3]⟩
    | lst k d =>
      cases h with
      | lst hq l r =>
        cases r with
        | cons ra rb =>
          cases rb with
          | cons rb rc =>
            cases rc
            have := rep_kD ra
            subst this
            exact ⟨(k, _) :: vs, .cons ⟨_, rfl, .inr (SqL.of (s _ _ hq))⟩ h1, .cons rb h2, by simp [h3]⟩
section
variable {X : Cx} {tk : Tk} {e a b : Expr} {T Ta Tb : TF} {p pos : Pos} {k : Nat}
theorem po_dictP (hc : X.calm = true) (hm : X.mg "dict" = none) (he : PF X tk e T) (hg : Gl X "dict" := by rfl) (hs : starEach [e] X.env = (false, eval e X.env) :: starEach [] X.env := by rfl) : PFO X tk (.Call (.Name "dict" p) [e] [] pos) (tDictP T) :=
  pe_imp (pe_callTy (cr_dictP hc) hg hm (by decide +kernel) (pa_cons he pa_nil hs) (by decide) (by decide) hs) fun σ H Q ⟨B, R, Γ, G, Φ, t, en, h, kk⟩ => ⟨B, R, Γ, G, _, t, en, h, fun v G1 H1 Γ1 d p1 r1 ⟨ds, kvs, ed, hp, nd, hΦ⟩ => by
    subst ed
    cases r1 with
    | lst hq l rr =>
      obtain ⟨vs, h1, h2, h3⟩ := reps_prs p1.env.gh rr hp
      have em : mergeK [] vs = vs := by
        have := mergeK_nodup (acc := []) (kvs := vs) (by rw [List.nil_append, h3]; exact nd)
        rwa [List.nil_append] at this
      have lv : vs.length ≤ sizeLine := by
        have := h1.length
        omega
      refine ⟨_, _, vs, rfl, SqL.of (p1.env.gh _ _ hq), h1, fun q hq2 => ?_⟩
      rw [em]
      exact kk (.ref q) G1 _ Γ1 (.dct kvs) (p1.trans (p1.env.cell hq2)) ⟨q, _, rfl, p1.env.gh.free hq2, upd_same, ⟨vs, rfl, lv, h2⟩, p1.back hq2, p1.env.wd.out hq2⟩ hΦ⟩
/-- d[k], d frozen -/
def valD (kvs : List (L2.Key × D)) (k : L2.Key) : Option D := (kvs.find? fun kv => decide (kv.1 = k)).map (·.2)
def dIxK : D → D → (D → Prop) → Prop
  | .dct kvs, d, k => ∃ q v, d = kD q ∧ valD kvs q = some v ∧ k v
  | _, _, _ => False
theorem repk_val {K : PySem.W.Frag} {G : Hp} {q : L2.Key} {v : D} : ∀ {vs : List (L2.Key × V)} {kvs : List (L2.Key × D)}, RepK K G vs kvs → valD kvs q = some v → ∃ x, valV vs q = some x ∧ Rep K G x v
  | _, _, .nil, h => by cases h
  | _, _, .cons (k := k) (d := d) h t, e => by
    by_cases c : k = q
    · rw [valV_pos c]
      have e2 : some d = some v := by simpa [valD, c] using e
      cases e2
      exact ⟨_, rfl, h⟩
    · rw [valV_neg c]
      refine repk_val t ?_
      simpa [valD, c] using e
theorem pf_ixK (hr : Room k X.A) (ha : PF X tk a Ta) (hb : PF X tk b Tb) (hs : NoSl b := by intro _ _; rfl) : PF X tk (.Subscript a b pos) (tBin dIxK Ta Tb) :=
  pe_imp (pe_dget (by have := hr.un; omega) ha hb hs) fun σ H Q ⟨B, R, Γ, G, Φ, t, en, h, kk⟩ => ⟨B, R, Γ, G, _, t, en, h, fun v1 G1 H1 Γ1 d1 p1 r1 h1 => ⟨B, R, Γ1, G1, _, t, p1.env, h1, fun v2 G2 H2 Γ2 d2 p2 r2 h2 => by
    cases r1 with
    | dct hp l r =>
      obtain ⟨q, v, rfl, hv, hΦ⟩ := h2
      have e2 := rep_kD r2
      subst e2
      obtain ⟨x, e3, rx⟩ := repk_val (r.mono p2.gg) hv
      refine ⟨_, x, rfl, ?_, kk _ G2 H2 Γ2 _ (p1.trans p2) rx hΦ⟩
      rw [← e3]
      exact .inl ⟨_, q, .inl (p2.env.gh _ _ (p2.gg _ _ hp)), rfl, rfl⟩
    | _ => exact h2.elim⟩⟩
end
end Vl

namespace Vl
open PySem PySem.Spec PyProof.Rows L2

/-! ### readings (row free) -/
def exL : List Str := ["BadBook", "BadScene", "BadSignature"]
def insL : List Str := ["Scene", "Signature", "Book"]
def exSub (c x : Str) : Bool := decide ((c, x) ∈ ([("HeldError", "HeldError"), ("BadSignature", "BadSignature"), ("BadSignature", "HeldError"), ("Unlike", "Unlike"), ("Unlike", "HeldError"), ("BadBook", "BadBook"), ("BadBook", "HeldError"), ("BadText", "BadText"), ("BadText", "HeldError"), ("BadScene", "BadScene"), ("BadScene", "HeldError"), ("Scene", "Scene"), ("Signature", "Signature"), ("Book", "Book")] : List (Str × Str)))
def T_law_draws_5 : TSD := tSeqD (tSetD 3 (tBin (dIC (fun _ j => 0 < j) fun i j => i % j) (tCBD dInt (tConsD (tBin dMul (tBin dAdd (tBin dMul (tCD (.int 2)) (tVarD 3)) (tCBD dInt (tConsD (tBin (dB fun i j => decide (i < j)) (tBin dIx (tVarD 0) (tVarD 2)) (tCD (.int 0))) (tNilD)))) (tBin dAdd (tCD (.int 48271)) (tBin dMul (tCD (.int 2)) (tVarD 2)))) (tNilD))) (tCD (.int 2147483647)))) (tSetD 3 (tBin (dIC (fun _ j => 0 < j) fun i j => i % j) (tCBD dInt (tConsD (tBin dMul (tVarD 3) (tBin dAdd (tVarD 3) (tCD (.int 69621)))) (tNilD))) (tCD (.int 999999937))))
theorem e_T_law_draws_5 (R : ExD) (D : EndsD) (Γ : Gm) : T_law_draws_5 R D Γ = (tSeqD (tSetD 3 (tBin (dIC (fun _ j => 0 < j) fun i j => i % j) (tCBD dInt (tConsD (tBin dMul (tBin dAdd (tBin dMul (tCD (.int 2)) (tVarD 3)) (tCBD dInt (tConsD (tBin (dB fun i j => decide (i < j)) (tBin dIx (tVarD 0) (tVarD 2)) (tCD (.int 0))) (tNilD)))) (tBin dAdd (tCD (.int 48271)) (tBin dMul (tCD (.int 2)) (tVarD 2)))) (tNilD))) (tCD (.int 2147483647)))) (tSetD 3 (tBin (dIC (fun _ j => 0 < j) fun i j => i % j) (tCBD dInt (tConsD (tBin dMul (tVarD 3) (tBin dAdd (tVarD 3) (tCD (.int 69621)))) (tNilD))) (tCD (.int 999999937))))) R D Γ := rfl
def T_law_draws_9 : TSD := tSeqD (tDropD (tAppend 1 (tBin (dIC (fun _ j => 0 < j) fun i j => i % j) (tCBD dInt (tConsD (tVarD 3) (tNilD))) (tCD (.int 1000))))) (tSetD 3 (tBin (dIC CDiv fun i j => i / j) (tVarD 3) (tCD (.int 1000))))
theorem e_T_law_draws_9 (R : ExD) (D : EndsD) (Γ : Gm) : T_law_draws_9 R D Γ = (tSeqD (tDropD (tAppend 1 (tBin (dIC (fun _ j => 0 < j) fun i j => i % j) (tCBD dInt (tConsD (tVarD 3) (tNilD))) (tCD (.int 1000))))) (tSetD 3 (tBin (dIC CDiv fun i j => i / j) (tVarD 3) (tCD (.int 1000))))) R D Γ := rfl
def L_law_draws_7 : TSD := tIfSD (tOrD (tBinT (dB fun i j => decide (j < i)) (tVarD 3) (tCD (.int 0))) (tBinT (dEq false) (tVarD 4) (tCD (.int 0)))) (T_law_draws_9) (tNextD)
theorem e_L_law_draws_7 (R : ExD) (D : EndsD) (Γ : Gm) : L_law_draws_7 R D Γ = (tIfSD (tOrD (tBinT (dB fun i j => decide (j < i)) (tVarD 3) (tCD (.int 0))) (tBinT (dEq false) (tVarD 4) (tCD (.int 0)))) (T_law_draws_9) (tNextD)) R D Γ := rfl
def F_law_draws_7 : TSD := tForD (tRng1 (tCD (.int 60))) (gNameD 4) (L_law_draws_7) [4]
theorem e_F_law_draws_7 (R : ExD) (D : EndsD) (Γ : Gm) : F_law_draws_7 R D Γ = (tForD (tRng1 (tCD (.int 60))) (gNameD 4) (L_law_draws_7) [4]) R D Γ := rfl
def T_law_draws_4 : TSD := tSeqD (tIfSD (tBinT (dB fun i j => decide (i < j)) (tVarD 3) (tBin (dIC CPow fun i j => i ^ j.toNat) (tCD (.int 10)) (tCD (.int 18)))) (T_law_draws_5) (tNextD)) (F_law_draws_7)
theorem e_T_law_draws_4 (R : ExD) (D : EndsD) (Γ : Gm) : T_law_draws_4 R D Γ = (tSeqD (tIfSD (tBinT (dB fun i j => decide (i < j)) (tVarD 3) (tBin (dIC CPow fun i j => i ^ j.toNat) (tCD (.int 10)) (tCD (.int 18)))) (T_law_draws_5) (tNextD)) (F_law_draws_7)) R D Γ := rfl
def T_law_draws_3 : TSD := tSeqD (tSetD 3 (tCBD dAbs (tConsD (tCBD dInt (tConsD (tBin dIx (tVarD 0) (tVarD 2)) (tNilD))) (tNilD)))) (T_law_draws_4)
theorem e_T_law_draws_3 (R : ExD) (D : EndsD) (Γ : Gm) : T_law_draws_3 R D Γ = (tSeqD (tSetD 3 (tCBD dAbs (tConsD (tCBD dInt (tConsD (tBin dIx (tVarD 0) (tVarD 2)) (tNilD))) (tNilD)))) (T_law_draws_4)) R D Γ := rfl
def F_law_draws_2 : TSD := tForD (tRng1 (tCBD dMin2 (tConsD (tCBD dLen (tConsD (tVarD 0) (tNilD))) (tConsD (tCD (.int 63)) (tNilD))))) (gNameD 2) (T_law_draws_3) [2, 3, 4]
theorem e_F_law_draws_2 (R : ExD) (D : EndsD) (Γ : Gm) : F_law_draws_2 R D Γ = (tForD (tRng1 (tCBD dMin2 (tConsD (tCBD dLen (tConsD (tVarD 0) (tNilD))) (tConsD (tCD (.int 63)) (tNilD))))) (gNameD 2) (T_law_draws_3) [2, 3, 4]) R D Γ := rfl
def T_law_draws_2 : TSD := tSeqD (F_law_draws_2) (tRetV 1)
theorem e_T_law_draws_2 (R : ExD) (D : EndsD) (Γ : Gm) : T_law_draws_2 R D Γ = (tSeqD (F_law_draws_2) (tRetV 1)) R D Γ := rfl
def T_law_draws : TSD := tSeqD (tSetO 1 (tLstO (tNilD))) (T_law_draws_2)
theorem e_T_law_draws (R : ExD) (D : EndsD) (Γ : Gm) : T_law_draws R D Γ = (tSeqD (tSetO 1 (tLstO (tNilD))) (T_law_draws_2)) R D Γ := rfl
def S_law_draws : SpD := bodySp 5 none T_law_draws
def T_law_take : TSD := tSeqD (tIfSD (tBinT (dEq false) (tOwn dLenL 0) (tCD (.int 0))) (tRetD (tCD (.int 0))) (tNextD)) (tRetD (tBin (dIC (fun _ j => 0 < j) fun i j => i % j) (tCBD dInt (tConsD (tPopAt 0 (tCD (.int 0))) (tNilD))) (tVarD 1)))
theorem e_T_law_take (R : ExD) (D : EndsD) (Γ : Gm) : T_law_take R D Γ = (tSeqD (tIfSD (tBinT (dEq false) (tOwn dLenL 0) (tCD (.int 0))) (tRetD (tCD (.int 0))) (tNextD)) (tRetD (tBin (dIC (fun _ j => 0 < j) fun i j => i % j) (tCBD dInt (tConsD (tPopAt 0 (tCD (.int 0))) (tNilD))) (tVarD 1)))) R D Γ := rfl
def S_law_take : SpD := bodySp 2 (some 0) T_law_take
def C_law_book_8 : TOD := tLcD (tRng1 (tBin dAdd (tCD (.int 1)) (tCallB 2 0 S_law_take (tSlB 0 (tImB (tCD (.int 3)) (tNilB)))))) (gNameD 14) (tYesD) (tBin dIx (tVarD 2) (tBin (dIC (fun _ j => 0 < j) fun i j => i % j) (tCBD dInt (tConsD (tBin dAdd (tVarD 8) (tBin dMul (tCD (.int 3)) (tVarD 14))) (tNilD))) (tCD (.int 5)))) [14]
theorem e_C_law_book_8 (R : ExD) (Γ : Gm) (Φ : Cl → Gm → Prop) : C_law_book_8 R Γ Φ = (tLcD (tRng1 (tBin dAdd (tCD (.int 1)) (tCallB 2 0 S_law_take (tSlB 0 (tImB (tCD (.int 3)) (tNilB)))))) (gNameD 14) (tYesD) (tBin dIx (tVarD 2) (tBin (dIC (fun _ j => 0 < j) fun i j => i % j) (tCBD dInt (tConsD (tBin dAdd (tVarD 8) (tBin dMul (tCD (.int 3)) (tVarD 14))) (tNilD))) (tCD (.int 5)))) [14]) R Γ Φ := rfl
def C_law_book_10 : TOD := tLcD (tItsD (tVarD 9)) (gNameD 16) (tYesD) (tTupD (tConsD (tBin dIx (tIxO 4 (tVarD 6)) (tCD (.int 0))) (tConsD (tVarD 16) (tNilD)))) [16]
theorem e_C_law_book_10 (R : ExD) (Γ : Gm) (Φ : Cl → Gm → Prop) : C_law_book_10 R Γ Φ = (tLcD (tItsD (tVarD 9)) (gNameD 16) (tYesD) (tTupD (tConsD (tBin dIx (tIxO 4 (tVarD 6)) (tCD (.int 0))) (tConsD (tVarD 16) (tNilD)))) [16]) R Γ Φ := rfl
def T_law_book_9 : TSD := tSeqD (tDropD (tAppend 4 (tFz (tLstO (tConsD (tBin dIx (tVarD 1) (tBin (dIC (fun _ j => 0 < j) fun i j => i % j) (tCBD dInt (tConsD (tBin dAdd (tVarD 3) (tBin dMul (tCD (.int 2)) (tVarD 6))) (tNilD))) (tCD (.int 5)))) (tConsD (tVarD 9) (tNilD))))))) (tSetD 5 (tFz (tSortL (tBin dAdd (tVarD 5) (tFz (C_law_book_10))))))
theorem e_T_law_book_9 (R : ExD) (D : EndsD) (Γ : Gm) : T_law_book_9 R D Γ = (tSeqD (tDropD (tAppend 4 (tFz (tLstO (tConsD (tBin dIx (tVarD 1) (tBin (dIC (fun _ j => 0 < j) fun i j => i % j) (tCBD dInt (tConsD (tBin dAdd (tVarD 3) (tBin dMul (tCD (.int 2)) (tVarD 6))) (tNilD))) (tCD (.int 5)))) (tConsD (tVarD 9) (tNilD))))))) (tSetD 5 (tFz (tSortL (tBin dAdd (tVarD 5) (tFz (C_law_book_10))))))) R D Γ := rfl
def T_law_book_8 : TSD := tSeqD (tSetD 9 (tFz (C_law_book_8))) (T_law_book_9)
theorem e_T_law_book_8 (R : ExD) (D : EndsD) (Γ : Gm) : T_law_book_8 R D Γ = (tSeqD (tSetD 9 (tFz (C_law_book_8))) (T_law_book_9)) R D Γ := rfl
def T_law_book_7 : TSD := tSeqD (tSetD 8 (tCallB 2 0 S_law_take (tSlB 0 (tImB (tCD (.int 5)) (tNilB))))) (T_law_book_8)
theorem e_T_law_book_7 (R : ExD) (D : EndsD) (Γ : Gm) : T_law_book_7 R D Γ = (tSeqD (tSetD 8 (tCallB 2 0 S_law_take (tSlB 0 (tImB (tCD (.int 5)) (tNilB))))) (T_law_book_8)) R D Γ := rfl
def F_law_book_6 : TSD := tForD (tRng1 (tBin dIx (tFz (tLstO (tConsD (tCD (.int 1)) (tConsD (tCD (.int 2)) (tConsD (tCD (.int 1)) (tConsD (tCD (.int 3)) (tNilD))))))) (tCallB 2 0 S_law_take (tSlB 0 (tImB (tCD (.int 4)) (tNilB)))))) (gNameD 6) (T_law_book_7) [6, 8, 9]
theorem e_F_law_book_6 (R : ExD) (D : EndsD) (Γ : Gm) : F_law_book_6 R D Γ = (tForD (tRng1 (tBin dIx (tFz (tLstO (tConsD (tCD (.int 1)) (tConsD (tCD (.int 2)) (tConsD (tCD (.int 1)) (tConsD (tCD (.int 3)) (tNilD))))))) (tCallB 2 0 S_law_take (tSlB 0 (tImB (tCD (.int 4)) (tNilB)))))) (gNameD 6) (T_law_book_7) [6, 8, 9]) R D Γ := rfl
def C_law_book_13 : TOD := tLcD (tRng1 (tCallB 2 0 S_law_take (tSlB 0 (tImB (tCD (.int 4)) (tNilB))))) (gNameD 14) (tYesD) (tBin dIx (tBin dIx (tVarD 4) (tCallB 2 0 S_law_take (tSlB 0 (tImB (tCBD dLen (tConsD (tVarD 4) (tNilD))) (tNilB))))) (tCD (.int 0))) [14]
theorem e_C_law_book_13 (R : ExD) (Γ : Gm) (Φ : Cl → Gm → Prop) : C_law_book_13 R Γ Φ = (tLcD (tRng1 (tCallB 2 0 S_law_take (tSlB 0 (tImB (tCD (.int 4)) (tNilB))))) (gNameD 14) (tYesD) (tBin dIx (tBin dIx (tVarD 4) (tCallB 2 0 S_law_take (tSlB 0 (tImB (tCBD dLen (tConsD (tVarD 4) (tNilD))) (tNilB))))) (tCD (.int 0))) [14]) R Γ Φ := rfl
def C_law_book_14 : TOD := tLcD (tItsD (tVarD 10)) (gNameD 15) (tYesD) (tBin (dEq false) (tCallB 2 0 S_law_take (tSlB 0 (tImB (tCD (.int 2)) (tNilB)))) (tCD (.int 1))) [15]
theorem e_C_law_book_14 (R : ExD) (Γ : Gm) (Φ : Cl → Gm → Prop) : C_law_book_14 R Γ Φ = (tLcD (tItsD (tVarD 10)) (gNameD 15) (tYesD) (tBin (dEq false) (tCallB 2 0 S_law_take (tSlB 0 (tImB (tCD (.int 2)) (tNilB)))) (tCD (.int 1))) [15]) R Γ Φ := rfl
def C_law_book_16 : TOD := tLcD (tRng1 (tCBD dLen (tConsD (tVarD 5) (tNilD)))) (gNameD 14) (tBinT (dEq false) (tBin (dIC (fun _ j => 0 < j) fun i j => i % j) (tCBD dInt (tConsD (tBin (dIC (fun _ j => 0 ≤ j) fun i j => i / 2 ^ j.toNat) (tVarD 12) (tVarD 14)) (tNilD))) (tCD (.int 2))) (tCD (.int 0))) (tBin dIx (tVarD 5) (tVarD 14)) [14]
theorem e_C_law_book_16 (R : ExD) (Γ : Gm) (Φ : Cl → Gm → Prop) : C_law_book_16 R Γ Φ = (tLcD (tRng1 (tCBD dLen (tConsD (tVarD 5) (tNilD)))) (gNameD 14) (tBinT (dEq false) (tBin (dIC (fun _ j => 0 < j) fun i j => i % j) (tCBD dInt (tConsD (tBin (dIC (fun _ j => 0 ≤ j) fun i j => i / 2 ^ j.toNat) (tVarD 12) (tVarD 14)) (tNilD))) (tCD (.int 2))) (tCD (.int 0))) (tBin dIx (tVarD 5) (tVarD 14)) [14]) R Γ Φ := rfl
def T_law_book_16 : TSD := tSeqD (tSetD 13 (tFz (C_law_book_16))) (tDropD (tAppend 7 (tFz (tLstO (tConsD (tBin dIx (tFz (tLstO (tConsD (tCD (.str "fill")) (tConsD (tCD (.str "r")) (tConsD (tCD (.str "call")) (tConsD (tCD (.str "t7")) (tConsD (tCD (.str "fil")) (tNilD)))))))) (tBin (dIC (fun _ j => 0 < j) fun i j => i % j) (tCBD dInt (tConsD (tBin dAdd (tVarD 3) (tBin dMul (tCD (.int 2)) (tVarD 6))) (tNilD))) (tCD (.int 5)))) (tConsD (tVarD 10) (tConsD (tVarD 11) (tConsD (tVarD 13) (tNilD)))))))))
theorem e_T_law_book_16 (R : ExD) (D : EndsD) (Γ : Gm) : T_law_book_16 R D Γ = (tSeqD (tSetD 13 (tFz (C_law_book_16))) (tDropD (tAppend 7 (tFz (tLstO (tConsD (tBin dIx (tFz (tLstO (tConsD (tCD (.str "fill")) (tConsD (tCD (.str "r")) (tConsD (tCD (.str "call")) (tConsD (tCD (.str "t7")) (tConsD (tCD (.str "fil")) (tNilD)))))))) (tBin (dIC (fun _ j => 0 < j) fun i j => i % j) (tCBD dInt (tConsD (tBin dAdd (tVarD 3) (tBin dMul (tCD (.int 2)) (tVarD 6))) (tNilD))) (tCD (.int 5)))) (tConsD (tVarD 10) (tConsD (tVarD 11) (tConsD (tVarD 13) (tNilD)))))))))) R D Γ := rfl
def T_law_book_15 : TSD := tSeqD (tSetD 12 (tCallB 2 0 S_law_take (tSlB 0 (tImB (tCD (.int 512)) (tNilB))))) (T_law_book_16)
theorem e_T_law_book_15 (R : ExD) (D : EndsD) (Γ : Gm) : T_law_book_15 R D Γ = (tSeqD (tSetD 12 (tCallB 2 0 S_law_take (tSlB 0 (tImB (tCD (.int 512)) (tNilB))))) (T_law_book_16)) R D Γ := rfl
def T_law_book_14 : TSD := tSeqD (tSetD 11 (tFz (C_law_book_14))) (T_law_book_15)
theorem e_T_law_book_14 (R : ExD) (D : EndsD) (Γ : Gm) : T_law_book_14 R D Γ = (tSeqD (tSetD 11 (tFz (C_law_book_14))) (T_law_book_15)) R D Γ := rfl
def T_law_book_13 : TSD := tSeqD (tSetD 10 (tFz (C_law_book_13))) (T_law_book_14)
theorem e_T_law_book_13 (R : ExD) (D : EndsD) (Γ : Gm) : T_law_book_13 R D Γ = (tSeqD (tSetD 10 (tFz (C_law_book_13))) (T_law_book_14)) R D Γ := rfl
def F_law_book_12 : TSD := tForD (tRng1 (tBin dIx (tFz (tLstO (tConsD (tCD (.int 1)) (tConsD (tCD (.int 2)) (tConsD (tCD (.int 0)) (tConsD (tCD (.int 3)) (tConsD (tCD (.int 4)) (tNilD)))))))) (tCallB 2 0 S_law_take (tSlB 0 (tImB (tCD (.int 5)) (tNilB)))))) (gNameD 6) (T_law_book_13) [6, 10, 11, 12, 13]
theorem e_F_law_book_12 (R : ExD) (D : EndsD) (Γ : Gm) : F_law_book_12 R D Γ = (tForD (tRng1 (tBin dIx (tFz (tLstO (tConsD (tCD (.int 1)) (tConsD (tCD (.int 2)) (tConsD (tCD (.int 0)) (tConsD (tCD (.int 3)) (tConsD (tCD (.int 4)) (tNilD)))))))) (tCallB 2 0 S_law_take (tSlB 0 (tImB (tCD (.int 5)) (tNilB)))))) (gNameD 6) (T_law_book_13) [6, 10, 11, 12, 13]) R D Γ := rfl
def Z_law_book_12 : TSD := tFrz 7 (tRetO (tLstO (tConsD (tVarD 4) (tConsD (tVarD 7) (tNilD)))))
theorem e_Z_law_book_12 (R : ExD) (D : EndsD) (Γ : Gm) : Z_law_book_12 R D Γ = (tFrz 7 (tRetO (tLstO (tConsD (tVarD 4) (tConsD (tVarD 7) (tNilD)))))) R D Γ := rfl
def T_law_book_12 : TSD := tSeqD (F_law_book_12) (Z_law_book_12)
theorem e_T_law_book_12 (R : ExD) (D : EndsD) (Γ : Gm) : T_law_book_12 R D Γ = (tSeqD (F_law_book_12) (Z_law_book_12)) R D Γ := rfl
def T_law_book_11 : TSD := tSeqD (tSetO 7 (tLstO (tNilD))) (T_law_book_12)
theorem e_T_law_book_11 (R : ExD) (D : EndsD) (Γ : Gm) : T_law_book_11 R D Γ = (tSeqD (tSetO 7 (tLstO (tNilD))) (T_law_book_12)) R D Γ := rfl
def Z_law_book_6 : TSD := tFrz 4 (T_law_book_11)
theorem e_Z_law_book_6 (R : ExD) (D : EndsD) (Γ : Gm) : Z_law_book_6 R D Γ = (tFrz 4 (T_law_book_11)) R D Γ := rfl
def T_law_book_6 : TSD := tSeqD (F_law_book_6) (Z_law_book_6)
theorem e_T_law_book_6 (R : ExD) (D : EndsD) (Γ : Gm) : T_law_book_6 R D Γ = (tSeqD (F_law_book_6) (Z_law_book_6)) R D Γ := rfl
def T_law_book_5 : TSD := tSeqD (tSetD 5 (tFz (tLstO (tNilD)))) (T_law_book_6)
theorem e_T_law_book_5 (R : ExD) (D : EndsD) (Γ : Gm) : T_law_book_5 R D Γ = (tSeqD (tSetD 5 (tFz (tLstO (tNilD)))) (T_law_book_6)) R D Γ := rfl
def T_law_book_4 : TSD := tSeqD (tSetO 4 (tLstO (tNilD))) (T_law_book_5)
theorem e_T_law_book_4 (R : ExD) (D : EndsD) (Γ : Gm) : T_law_book_4 R D Γ = (tSeqD (tSetO 4 (tLstO (tNilD))) (T_law_book_5)) R D Γ := rfl
def T_law_book_3 : TSD := tSeqD (tSetD 3 (tCallB 2 0 S_law_take (tSlB 0 (tImB (tCD (.int 5)) (tNilB))))) (T_law_book_4)
theorem e_T_law_book_3 (R : ExD) (D : EndsD) (Γ : Gm) : T_law_book_3 R D Γ = (tSeqD (tSetD 3 (tCallB 2 0 S_law_take (tSlB 0 (tImB (tCD (.int 5)) (tNilB))))) (T_law_book_4)) R D Γ := rfl
def T_law_book_2 : TSD := tSeqD (tSetD 2 (tFz (tLstO (tConsD (tCD (.str "size")) (tConsD (tCD (.str "f")) (tConsD (tCD (.str "a")) (tConsD (tCD (.str "lid")) (tConsD (tCD (.str "w9")) (tNilD))))))))) (T_law_book_3)
theorem e_T_law_book_2 (R : ExD) (D : EndsD) (Γ : Gm) : T_law_book_2 R D Γ = (tSeqD (tSetD 2 (tFz (tLstO (tConsD (tCD (.str "size")) (tConsD (tCD (.str "f")) (tConsD (tCD (.str "a")) (tConsD (tCD (.str "lid")) (tConsD (tCD (.str "w9")) (tNilD))))))))) (T_law_book_3)) R D Γ := rfl
def T_law_book : TSD := tSeqD (tSetD 1 (tFz (tLstO (tConsD (tCD (.str "lid")) (tConsD (tCD (.str "box")) (tConsD (tCD (.str "a")) (tConsD (tCD (.str "make")) (tConsD (tCD (.str "b2")) (tNilD))))))))) (T_law_book_2)
theorem e_T_law_book (R : ExD) (D : EndsD) (Γ : Gm) : T_law_book R D Γ = (tSeqD (tSetD 1 (tFz (tLstO (tConsD (tCD (.str "lid")) (tConsD (tCD (.str "box")) (tConsD (tCD (.str "a")) (tConsD (tCD (.str "make")) (tConsD (tCD (.str "b2")) (tNilD))))))))) (T_law_book_2)) R D Γ := rfl
def S_law_book : SpD := bodySp 17 (some 0) T_law_book
def L_law_world_6 : TSD := tDropD (tAppend 4 (tTupD (tConsD (tBin dIx (tVarD 1) (tBin (dIC (fun _ j => 0 < j) fun i j => i % j) (tCBD dInt (tConsD (tBin dAdd (tVarD 2) (tBin dMul (tVarD 3) (tVarD 5))) (tNilD))) (tCD (.int 7)))) (tConsD (tBin dIx (tBin dIx (tVarD 8) (tCallB 2 0 S_law_take (tSlB 0 (tImB (tCBD dLen (tConsD (tVarD 8) (tNilD))) (tNilB))))) (tCD (.int 0))) (tNilD)))))
theorem e_L_law_world_6 (R : ExD) (D : EndsD) (Γ : Gm) : L_law_world_6 R D Γ = (tDropD (tAppend 4 (tTupD (tConsD (tBin dIx (tVarD 1) (tBin (dIC (fun _ j => 0 < j) fun i j => i % j) (tCBD dInt (tConsD (tBin dAdd (tVarD 2) (tBin dMul (tVarD 3) (tVarD 5))) (tNilD))) (tCD (.int 7)))) (tConsD (tBin dIx (tBin dIx (tVarD 8) (tCallB 2 0 S_law_take (tSlB 0 (tImB (tCBD dLen (tConsD (tVarD 8) (tNilD))) (tNilB))))) (tCD (.int 0))) (tNilD)))))) R D Γ := rfl
def F_law_world_6 : TSD := tForD (tRng1 (tBin dIx (tFz (tLstO (tConsD (tCD (.int 2)) (tConsD (tCD (.int 3)) (tConsD (tCD (.int 1)) (tConsD (tCD (.int 4)) (tConsD (tCD (.int 5)) (tNilD)))))))) (tCallB 2 0 S_law_take (tSlB 0 (tImB (tCD (.int 5)) (tNilB)))))) (gNameD 5) (L_law_world_6) [5]
theorem e_F_law_world_6 (R : ExD) (D : EndsD) (Γ : Gm) : F_law_world_6 R D Γ = (tForD (tRng1 (tBin dIx (tFz (tLstO (tConsD (tCD (.int 2)) (tConsD (tCD (.int 3)) (tConsD (tCD (.int 1)) (tConsD (tCD (.int 4)) (tConsD (tCD (.int 5)) (tNilD)))))))) (tCallB 2 0 S_law_take (tSlB 0 (tImB (tCD (.int 5)) (tNilB)))))) (gNameD 5) (L_law_world_6) [5]) R D Γ := rfl
def T_law_world_11 : TSD := tSeqD (tSetD 11 (tCallB 2 0 S_law_take (tSlB 0 (tImB (tCBD dLen (tConsD (tVarD 4) (tNilD))) (tNilB))))) (tIfSD (tAndD (tBinT (dEq true) (tVarD 10) (tVarD 11)) (tBinT (dEq false) (tBin dIx (tBin dIx (tVarD 4) (tVarD 10)) (tCD (.int 1))) (tBin dIx (tBin dIx (tVarD 4) (tVarD 11)) (tCD (.int 1))))) (tDropD (tAppend 6 (tTupD (tConsD (tCBD dMin2 (tConsD (tVarD 10) (tConsD (tVarD 11) (tNilD)))) (tConsD (tCBD dMax2 (tConsD (tVarD 10) (tConsD (tVarD 11) (tNilD)))) (tNilD)))))) (tNextD))
theorem e_T_law_world_11 (R : ExD) (D : EndsD) (Γ : Gm) : T_law_world_11 R D Γ = (tSeqD (tSetD 11 (tCallB 2 0 S_law_take (tSlB 0 (tImB (tCBD dLen (tConsD (tVarD 4) (tNilD))) (tNilB))))) (tIfSD (tAndD (tBinT (dEq true) (tVarD 10) (tVarD 11)) (tBinT (dEq false) (tBin dIx (tBin dIx (tVarD 4) (tVarD 10)) (tCD (.int 1))) (tBin dIx (tBin dIx (tVarD 4) (tVarD 11)) (tCD (.int 1))))) (tDropD (tAppend 6 (tTupD (tConsD (tCBD dMin2 (tConsD (tVarD 10) (tConsD (tVarD 11) (tNilD)))) (tConsD (tCBD dMax2 (tConsD (tVarD 10) (tConsD (tVarD 11) (tNilD)))) (tNilD)))))) (tNextD))) R D Γ := rfl
def T_law_world_10 : TSD := tSeqD (tSetD 10 (tCallB 2 0 S_law_take (tSlB 0 (tImB (tCBD dLen (tConsD (tVarD 4) (tNilD))) (tNilB))))) (T_law_world_11)
theorem e_T_law_world_10 (R : ExD) (D : EndsD) (Γ : Gm) : T_law_world_10 R D Γ = (tSeqD (tSetD 10 (tCallB 2 0 S_law_take (tSlB 0 (tImB (tCBD dLen (tConsD (tVarD 4) (tNilD))) (tNilB))))) (T_law_world_11)) R D Γ := rfl
def F_law_world_9 : TSD := tForD (tRng1 (tCallB 2 0 S_law_take (tSlB 0 (tImB (tCD (.int 3)) (tNilB))))) (gNameD 5) (T_law_world_10) [5, 10, 11]
theorem e_F_law_world_9 (R : ExD) (D : EndsD) (Γ : Gm) : F_law_world_9 R D Γ = (tForD (tRng1 (tCallB 2 0 S_law_take (tSlB 0 (tImB (tCD (.int 3)) (tNilB))))) (gNameD 5) (T_law_world_10) [5, 10, 11]) R D Γ := rfl
def C_law_world_14 : TOD := tLcD (tItsD (tFz (tSortSetL (tVarD 6)))) (gTupD 2 (gConsD (gNameD 10) (gConsD (gNameD 11) (gNilD)))) (tYesD) (tTupD (tConsD (tBin dIx (tBin dIx (tVarD 4) (tVarD 10)) (tCD (.int 0))) (tConsD (tBin dIx (tBin dIx (tVarD 4) (tVarD 11)) (tCD (.int 0))) (tNilD)))) [10, 11]
theorem e_C_law_world_14 (R : ExD) (Γ : Gm) (Φ : Cl → Gm → Prop) : C_law_world_14 R Γ Φ = (tLcD (tItsD (tFz (tSortSetL (tVarD 6)))) (gTupD 2 (gConsD (gNameD 10) (gConsD (gNameD 11) (gNilD)))) (tYesD) (tTupD (tConsD (tBin dIx (tBin dIx (tVarD 4) (tVarD 10)) (tCD (.int 0))) (tConsD (tBin dIx (tBin dIx (tVarD 4) (tVarD 11)) (tCD (.int 0))) (tNilD)))) [10, 11]) R Γ Φ := rfl
def T_law_world_14 : TSD := tSeqD (tSetD 7 (tFz (C_law_world_14))) (tRetO (tLstO (tConsD (tVarD 8) (tConsD (tVarD 4) (tConsD (tVarD 9) (tConsD (tVarD 7) (tNilD)))))))
theorem e_T_law_world_14 (R : ExD) (D : EndsD) (Γ : Gm) : T_law_world_14 R D Γ = (tSeqD (tSetD 7 (tFz (C_law_world_14))) (tRetO (tLstO (tConsD (tVarD 8) (tConsD (tVarD 4) (tConsD (tVarD 9) (tConsD (tVarD 7) (tNilD)))))))) R D Γ := rfl
def Z_law_world_9 : TSD := tFrz 6 (T_law_world_14)
theorem e_Z_law_world_9 (R : ExD) (D : EndsD) (Γ : Gm) : Z_law_world_9 R D Γ = (tFrz 6 (T_law_world_14)) R D Γ := rfl
def T_law_world_9 : TSD := tSeqD (F_law_world_9) (Z_law_world_9)
theorem e_T_law_world_9 (R : ExD) (D : EndsD) (Γ : Gm) : T_law_world_9 R D Γ = (tSeqD (F_law_world_9) (Z_law_world_9)) R D Γ := rfl
def T_law_world_8 : TSD := tSeqD (tSetO 6 (tLstO (tNilD))) (T_law_world_9)
theorem e_T_law_world_8 (R : ExD) (D : EndsD) (Γ : Gm) : T_law_world_8 R D Γ = (tSeqD (tSetO 6 (tLstO (tNilD))) (T_law_world_9)) R D Γ := rfl
def Z_law_world_6 : TSD := tFrz 4 (T_law_world_8)
theorem e_Z_law_world_6 (R : ExD) (D : EndsD) (Γ : Gm) : Z_law_world_6 R D Γ = (tFrz 4 (T_law_world_8)) R D Γ := rfl
def T_law_world_6 : TSD := tSeqD (F_law_world_6) (Z_law_world_6)
theorem e_T_law_world_6 (R : ExD) (D : EndsD) (Γ : Gm) : T_law_world_6 R D Γ = (tSeqD (F_law_world_6) (Z_law_world_6)) R D Γ := rfl
def T_law_world_5 : TSD := tSeqD (tSetO 4 (tLstO (tNilD))) (T_law_world_6)
theorem e_T_law_world_5 (R : ExD) (D : EndsD) (Γ : Gm) : T_law_world_5 R D Γ = (tSeqD (tSetO 4 (tLstO (tNilD))) (T_law_world_6)) R D Γ := rfl
def T_law_world_4 : TSD := tSeqD (tSetD 3 (tBin dAdd (tCD (.int 1)) (tCallB 2 0 S_law_take (tSlB 0 (tImB (tCD (.int 6)) (tNilB)))))) (T_law_world_5)
theorem e_T_law_world_4 (R : ExD) (D : EndsD) (Γ : Gm) : T_law_world_4 R D Γ = (tSeqD (tSetD 3 (tBin dAdd (tCD (.int 1)) (tCallB 2 0 S_law_take (tSlB 0 (tImB (tCD (.int 6)) (tNilB)))))) (T_law_world_5)) R D Γ := rfl
def T_law_world_3 : TSD := tSeqD (tSetD 2 (tCallB 2 0 S_law_take (tSlB 0 (tImB (tCD (.int 7)) (tNilB))))) (T_law_world_4)
theorem e_T_law_world_3 (R : ExD) (D : EndsD) (Γ : Gm) : T_law_world_3 R D Γ = (tSeqD (tSetD 2 (tCallB 2 0 S_law_take (tSlB 0 (tImB (tCD (.int 7)) (tNilB))))) (T_law_world_4)) R D Γ := rfl
def T_law_world_2 : TSD := tSeqD (tSetD 1 (tFz (tLstO (tConsD (tCD (.str "m")) (tConsD (tCD (.str "c")) (tConsD (tCD (.str "aa")) (tConsD (tCD (.str "x1")) (tConsD (tCD (.str "a")) (tConsD (tCD (.str "read")) (tConsD (tCD (.str "abcdefg8")) (tNilD))))))))))) (T_law_world_3)
theorem e_T_law_world_2 (R : ExD) (D : EndsD) (Γ : Gm) : T_law_world_2 R D Γ = (tSeqD (tSetD 1 (tFz (tLstO (tConsD (tCD (.str "m")) (tConsD (tCD (.str "c")) (tConsD (tCD (.str "aa")) (tConsD (tCD (.str "x1")) (tConsD (tCD (.str "a")) (tConsD (tCD (.str "read")) (tConsD (tCD (.str "abcdefg8")) (tNilD))))))))))) (T_law_world_3)) R D Γ := rfl
def T_law_world : TSD := tSeqD (tAsgD (tCallB 1 0 S_law_book (tSlB 0 (tNilB))) (gTupD 2 (gConsD (gNameD 8) (gConsD (gNameD 9) (gNilD))))) (T_law_world_2)
theorem e_T_law_world (R : ExD) (D : EndsD) (Γ : Gm) : T_law_world R D Γ = (tSeqD (tAsgD (tCallB 1 0 S_law_book (tSlB 0 (tNilB))) (gTupD 2 (gConsD (gNameD 8) (gConsD (gNameD 9) (gNilD))))) (T_law_world_2)) R D Γ := rfl
def S_law_world : SpD := bodySp 12 (some 0) T_law_world
def L_Scene_kind_of_1 : TSD := tIfSD (tBinT (dEq false) (tVarD 2) (tVarD 1)) (tRetD (tVarD 3)) (tNextD)
theorem e_L_Scene_kind_of_1 (R : ExD) (D : EndsD) (Γ : Gm) : L_Scene_kind_of_1 R D Γ = (tIfSD (tBinT (dEq false) (tVarD 2) (tVarD 1)) (tRetD (tVarD 3)) (tNextD)) R D Γ := rfl
def F_Scene_kind_of_1 : TSD := tForD (tItsD (tFldD ["Scene"] "names" (tVarD 0))) (gTupD 2 (gConsD (gNameD 2) (gConsD (gNameD 3) (gNilD)))) (L_Scene_kind_of_1) [2, 3]
theorem e_F_Scene_kind_of_1 (R : ExD) (D : EndsD) (Γ : Gm) : F_Scene_kind_of_1 R D Γ = (tForD (tItsD (tFldD ["Scene"] "names" (tVarD 0))) (gTupD 2 (gConsD (gNameD 2) (gConsD (gNameD 3) (gNilD)))) (L_Scene_kind_of_1) [2, 3]) R D Γ := rfl
def T_Scene_kind_of : TSD := tSeqD (F_Scene_kind_of_1) (tRaiseD "BadScene")
theorem e_T_Scene_kind_of (R : ExD) (D : EndsD) (Γ : Gm) : T_Scene_kind_of R D Γ = (tSeqD (F_Scene_kind_of_1) (tRaiseD "BadScene")) R D Γ := rfl
def S_Scene_kind_of : SpD := bodySp 4 none T_Scene_kind_of
def M_kind_of : Str → Option SpD := fun c => if c = "Scene" then some S_Scene_kind_of else none
def L_Book_fields_of_1 : TSD := tIfSD (tBinT (dEq false) (tVarD 2) (tVarD 1)) (tRetD (tVarD 3)) (tNextD)
theorem e_L_Book_fields_of_1 (R : ExD) (D : EndsD) (Γ : Gm) : L_Book_fields_of_1 R D Γ = (tIfSD (tBinT (dEq false) (tVarD 2) (tVarD 1)) (tRetD (tVarD 3)) (tNextD)) R D Γ := rfl
def F_Book_fields_of_1 : TSD := tForD (tItsD (tFldD ["Book"] "kinds" (tVarD 0))) (gTupD 2 (gConsD (gNameD 2) (gConsD (gNameD 3) (gNilD)))) (L_Book_fields_of_1) [2, 3]
theorem e_F_Book_fields_of_1 (R : ExD) (D : EndsD) (Γ : Gm) : F_Book_fields_of_1 R D Γ = (tForD (tItsD (tFldD ["Book"] "kinds" (tVarD 0))) (gTupD 2 (gConsD (gNameD 2) (gConsD (gNameD 3) (gNilD)))) (L_Book_fields_of_1) [2, 3]) R D Γ := rfl
def T_Book_fields_of : TSD := tSeqD (F_Book_fields_of_1) (tRaiseD "BadBook")
theorem e_T_Book_fields_of (R : ExD) (D : EndsD) (Γ : Gm) : T_Book_fields_of R D Γ = (tSeqD (F_Book_fields_of_1) (tRaiseD "BadBook")) R D Γ := rfl
def S_Book_fields_of : SpD := bodySp 4 none T_Book_fields_of
def M_fields_ofXBook : Str → Option SpD := fun c => if c = "Book" then some S_Book_fields_of else none
def T_Scene_fields_of : TSD := tRetD (tMethD 2 "fields_of" M_fields_ofXBook (tFldD ["Scene"] "book" (tVarD 0)) (tConsD (tMethD 2 "kind_of" M_kind_of (tVarD 0) (tConsD (tVarD 1) (tNilD))) (tNilD)))
theorem e_T_Scene_fields_of (R : ExD) (D : EndsD) (Γ : Gm) : T_Scene_fields_of R D Γ = (tRetD (tMethD 2 "fields_of" M_fields_ofXBook (tFldD ["Scene"] "book" (tVarD 0)) (tConsD (tMethD 2 "kind_of" M_kind_of (tVarD 0) (tConsD (tVarD 1) (tNilD))) (tNilD)))) R D Γ := rfl
def S_Scene_fields_of : SpD := bodySp 2 none T_Scene_fields_of
def M_fields_of : Str → Option SpD := fun c => if c = "Scene" then some S_Scene_fields_of else if c = "Book" then some S_Book_fields_of else none
def L_Scene_rank_1 : TSD := tIfSD (tBinT (dEq false) (tVarD 3) (tVarD 1)) (tRetD (tVarD 2)) (tNextD)
theorem e_L_Scene_rank_1 (R : ExD) (D : EndsD) (Γ : Gm) : L_Scene_rank_1 R D Γ = (tIfSD (tBinT (dEq false) (tVarD 3) (tVarD 1)) (tRetD (tVarD 2)) (tNextD)) R D Γ := rfl
def F_Scene_rank_1 : TSD := tForD (tEnum (tFldD ["Scene"] "names" (tVarD 0))) (gTupD 2 (gConsD (gNameD 2) (gConsD (gTupD 2 (gConsD (gNameD 3) (gConsD (gNameD 4) (gNilD)))) (gNilD)))) (L_Scene_rank_1) [2, 3, 4]
theorem e_F_Scene_rank_1 (R : ExD) (D : EndsD) (Γ : Gm) : F_Scene_rank_1 R D Γ = (tForD (tEnum (tFldD ["Scene"] "names" (tVarD 0))) (gTupD 2 (gConsD (gNameD 2) (gConsD (gTupD 2 (gConsD (gNameD 3) (gConsD (gNameD 4) (gNilD)))) (gNilD)))) (L_Scene_rank_1) [2, 3, 4]) R D Γ := rfl
def T_Scene_rank : TSD := tSeqD (F_Scene_rank_1) (tRaiseD "BadScene")
theorem e_T_Scene_rank (R : ExD) (D : EndsD) (Γ : Gm) : T_Scene_rank R D Γ = (tSeqD (F_Scene_rank_1) (tRaiseD "BadScene")) R D Γ := rfl
def S_Scene_rank : SpD := bodySp 5 none T_Scene_rank
def M_rank : Str → Option SpD := fun c => if c = "Scene" then some S_Scene_rank else none
def T_law_refused_5 : TSD := tSeqD (tIfSD (tBinT (dEq false) (tVarD 1) (tCD (.int 1))) (tDropD (tMethD 2 "fields_of" M_fields_of (tVarD 0) (tConsD (tCD (.str "zz")) (tNilD)))) (tNextD)) (tIfSD (tBinT (dEq false) (tVarD 1) (tCD (.int 2))) (tDropD (tMethD 2 "rank" M_rank (tVarD 0) (tConsD (tCD (.str "zz")) (tNilD)))) (tNextD))
theorem e_T_law_refused_5 (R : ExD) (D : EndsD) (Γ : Gm) : T_law_refused_5 R D Γ = (tSeqD (tIfSD (tBinT (dEq false) (tVarD 1) (tCD (.int 1))) (tDropD (tMethD 2 "fields_of" M_fields_of (tVarD 0) (tConsD (tCD (.str "zz")) (tNilD)))) (tNextD)) (tIfSD (tBinT (dEq false) (tVarD 1) (tCD (.int 2))) (tDropD (tMethD 2 "rank" M_rank (tVarD 0) (tConsD (tCD (.str "zz")) (tNilD)))) (tNextD))) R D Γ := rfl
def T_law_refused_3 : TSD := tSeqD (tIfSD (tBinT (dEq false) (tVarD 1) (tCD (.int 0))) (tDropD (tMethD 2 "kind_of" M_kind_of (tVarD 0) (tConsD (tCD (.str "zz")) (tNilD)))) (tNextD)) (T_law_refused_5)
theorem e_T_law_refused_3 (R : ExD) (D : EndsD) (Γ : Gm) : T_law_refused_3 R D Γ = (tSeqD (tIfSD (tBinT (dEq false) (tVarD 1) (tCD (.int 0))) (tDropD (tMethD 2 "kind_of" M_kind_of (tVarD 0) (tConsD (tCD (.str "zz")) (tNilD)))) (tNextD)) (T_law_refused_5)) R D Γ := rfl
def B_law_refused_2 : TSD := T_law_refused_3
theorem e_B_law_refused_2 (R : ExD) (D : EndsD) (Γ : Gm) : B_law_refused_2 R D Γ = (T_law_refused_3) R D Γ := rfl
def H_law_refused_2 (a : Addr) (c : Str) : TSD := tSetD 2 (tBin (dI fun i j => i - j) (tBin dAdd (tCBD dInt (tConsD (tIsE 3 a (exSub c "HeldError")) (tNilD))) (tCBD dInt (tConsD (tIsE 3 a true) (tNilD)))) (tCBD dInt (tConsD (tIsE 3 a (exSub c "BadBook")) (tNilD))))
theorem e_H_law_refused_2 (a : Addr) (c : Str) (R : ExD) (D : EndsD) (Γ : Gm) : H_law_refused_2 a c R D Γ = (tSetD 2 (tBin (dI fun i j => i - j) (tBin dAdd (tCBD dInt (tConsD (tIsE 3 a (exSub c "HeldError")) (tNilD))) (tCBD dInt (tConsD (tIsE 3 a true) (tNilD)))) (tCBD dInt (tConsD (tIsE 3 a (exSub c "BadBook")) (tNilD))))) R D Γ := rfl
def Y_law_refused_2 : TSD := tTryAs exL exSub "BadScene" 3 (B_law_refused_2) H_law_refused_2
theorem e_Y_law_refused_2 (R : ExD) (D : EndsD) (Γ : Gm) : Y_law_refused_2 R D Γ = (tTryAs exL exSub "BadScene" 3 (B_law_refused_2) H_law_refused_2) R D Γ := rfl
def Z_law_refused_2 : TSD := tDull [3] (tRetD (tBin (dEq false) (tVarD 2) (tCD (.int 2))))
theorem e_Z_law_refused_2 (R : ExD) (D : EndsD) (Γ : Gm) : Z_law_refused_2 R D Γ = (tDull [3] (tRetD (tBin (dEq false) (tVarD 2) (tCD (.int 2))))) R D Γ := rfl
def T_law_refused_2 : TSD := tSeqD (Y_law_refused_2) (Z_law_refused_2)
theorem e_T_law_refused_2 (R : ExD) (D : EndsD) (Γ : Gm) : T_law_refused_2 R D Γ = (tSeqD (Y_law_refused_2) (Z_law_refused_2)) R D Γ := rfl
def T_law_refused : TSD := tSeqD (tSetD 2 (tCD (.int 0))) (T_law_refused_2)
theorem e_T_law_refused (R : ExD) (D : EndsD) (Γ : Gm) : T_law_refused R D Γ = (tSeqD (tSetD 2 (tCD (.int 0))) (T_law_refused_2)) R D Γ := rfl
def S_law_refused : SpD := bodySp 4 none T_law_refused
def L_is_word_7 : TSD := tIfSD (tBinT (dIn true) (tVarD 1) (tCD (.str "abcdefghijklmnopqrstuvwxyz0123456789"))) (tRetD (tCD (.bl false))) (tNextD)
theorem e_L_is_word_7 (R : ExD) (D : EndsD) (Γ : Gm) : L_is_word_7 R D Γ = (tIfSD (tBinT (dIn true) (tVarD 1) (tCD (.str "abcdefghijklmnopqrstuvwxyz0123456789"))) (tRetD (tCD (.bl false))) (tNextD)) R D Γ := rfl
def F_is_word_7 : TSD := tForD (tItsD (tVarD 0)) (gNameD 1) (L_is_word_7) [1]
theorem e_F_is_word_7 (R : ExD) (D : EndsD) (Γ : Gm) : F_is_word_7 R D Γ = (tForD (tItsD (tVarD 0)) (gNameD 1) (L_is_word_7) [1]) R D Γ := rfl
def T_is_word_7 : TSD := tSeqD (F_is_word_7) (tRetD (tCD (.bl true)))
theorem e_T_is_word_7 (R : ExD) (D : EndsD) (Γ : Gm) : T_is_word_7 R D Γ = (tSeqD (F_is_word_7) (tRetD (tCD (.bl true)))) R D Γ := rfl
def T_is_word_5 : TSD := tSeqD (tIfSD (tBinT (dIn true) (tBin dIx (tVarD 0) (tCD (.int 0))) (tCD (.str "abcdefghijklmnopqrstuvwxyz"))) (tRetD (tCD (.bl false))) (tNextD)) (T_is_word_7)
theorem e_T_is_word_5 (R : ExD) (D : EndsD) (Γ : Gm) : T_is_word_5 R D Γ = (tSeqD (tIfSD (tBinT (dIn true) (tBin dIx (tVarD 0) (tCD (.int 0))) (tCD (.str "abcdefghijklmnopqrstuvwxyz"))) (tRetD (tCD (.bl false))) (tNextD)) (T_is_word_7)) R D Γ := rfl
def T_is_word_3 : TSD := tSeqD (tIfSD (tOrD (tBinT (dB fun i j => decide (i < j)) (tCBD dLen (tConsD (tVarD 0) (tNilD))) (tCD (.int 1))) (tBinT (dB fun i j => decide (j < i)) (tCBD dLen (tConsD (tVarD 0) (tNilD))) (tCD (.int 8)))) (tRetD (tCD (.bl false))) (tNextD)) (T_is_word_5)
theorem e_T_is_word_3 (R : ExD) (D : EndsD) (Γ : Gm) : T_is_word_3 R D Γ = (tSeqD (tIfSD (tOrD (tBinT (dB fun i j => decide (i < j)) (tCBD dLen (tConsD (tVarD 0) (tNilD))) (tCD (.int 1))) (tBinT (dB fun i j => decide (j < i)) (tCBD dLen (tConsD (tVarD 0) (tNilD))) (tCD (.int 8)))) (tRetD (tCD (.bl false))) (tNextD)) (T_is_word_5)) R D Γ := rfl
def T_is_word : TSD := tSeqD (tIfSD (tNotD (tTru (tIsi "str" (tVarD 0)))) (tRetD (tCD (.bl false))) (tNextD)) (T_is_word_3)
theorem e_T_is_word (R : ExD) (D : EndsD) (Γ : Gm) : T_is_word R D Γ = (tSeqD (tIfSD (tNotD (tTru (tIsi "str" (tVarD 0)))) (tRetD (tCD (.bl false))) (tNextD)) (T_is_word_3)) R D Γ := rfl
def S_is_word : SpD := bodySp 2 none T_is_word
def L_are_words_1 : TSD := tIfSD (tNotD (tTru (tCallD 1 S_is_word (tConsD (tVarD 1) (tNilD))))) (tRetD (tCD (.bl false))) (tNextD)
theorem e_L_are_words_1 (R : ExD) (D : EndsD) (Γ : Gm) : L_are_words_1 R D Γ = (tIfSD (tNotD (tTru (tCallD 1 S_is_word (tConsD (tVarD 1) (tNilD))))) (tRetD (tCD (.bl false))) (tNextD)) R D Γ := rfl
def F_are_words_1 : TSD := tForD (tItsD (tVarD 0)) (gNameD 1) (L_are_words_1) [1]
theorem e_F_are_words_1 (R : ExD) (D : EndsD) (Γ : Gm) : F_are_words_1 R D Γ = (tForD (tItsD (tVarD 0)) (gNameD 1) (L_are_words_1) [1]) R D Γ := rfl
def T_are_words : TSD := tSeqD (F_are_words_1) (tRetD (tCD (.bl true)))
theorem e_T_are_words (R : ExD) (D : EndsD) (Γ : Gm) : T_are_words R D Γ = (tSeqD (F_are_words_1) (tRetD (tCD (.bl true)))) R D Γ := rfl
def S_are_words : SpD := bodySp 2 none T_are_words
def T_is_sort : TSD := tRetD (tAndV' (tIsi "tuple" (tVarD 0)) (tAndV' (tBin (dEq false) (tCBD dLen (tConsD (tVarD 0) (tNilD))) (tCD (.int 2))) (tCallD 1 S_are_words (tConsD (tVarD 0) (tNilD)))))
theorem e_T_is_sort (R : ExD) (D : EndsD) (Γ : Gm) : T_is_sort R D Γ = (tRetD (tAndV' (tIsi "tuple" (tVarD 0)) (tAndV' (tBin (dEq false) (tCBD dLen (tConsD (tVarD 0) (tNilD))) (tCD (.int 2))) (tCallD 1 S_are_words (tConsD (tVarD 0) (tNilD)))))) R D Γ := rfl
def S_is_sort : SpD := bodySp 1 none T_is_sort
def L_SignatureX_initX_5 : TSD := tIfSD (tAndD (tBinT (dIs true) (tVarD 4) (tCD (.bl true))) (tBinT (dIs true) (tVarD 4) (tCD (.bl false)))) (tRaiseD "BadSignature") (tNextD)
theorem e_L_SignatureX_initX_5 (R : ExD) (D : EndsD) (Γ : Gm) : L_SignatureX_initX_5 R D Γ = (tIfSD (tAndD (tBinT (dIs true) (tVarD 4) (tCD (.bl true))) (tBinT (dIs true) (tVarD 4) (tCD (.bl false)))) (tRaiseD "BadSignature") (tNextD)) R D Γ := rfl
def F_SignatureX_initX_5 : TSD := tForD (tItsD (tVarD 2)) (gNameD 4) (L_SignatureX_initX_5) [4]
theorem e_F_SignatureX_initX_5 (R : ExD) (D : EndsD) (Γ : Gm) : F_SignatureX_initX_5 R D Γ = (tForD (tItsD (tVarD 2)) (gNameD 4) (L_SignatureX_initX_5) [4]) R D Γ := rfl
def L_SignatureX_initX_8 : TSD := tIfSD (tNotD (tTru (tCallD 1 S_is_sort (tConsD (tVarD 5) (tNilD))))) (tRaiseD "BadSignature") (tNextD)
theorem e_L_SignatureX_initX_8 (R : ExD) (D : EndsD) (Γ : Gm) : L_SignatureX_initX_8 R D Γ = (tIfSD (tNotD (tTru (tCallD 1 S_is_sort (tConsD (tVarD 5) (tNilD))))) (tRaiseD "BadSignature") (tNextD)) R D Γ := rfl
def F_SignatureX_initX_8 : TSD := tForD (tItsD (tVarD 3)) (gNameD 5) (L_SignatureX_initX_8) [5]
theorem e_F_SignatureX_initX_8 (R : ExD) (D : EndsD) (Γ : Gm) : F_SignatureX_initX_8 R D Γ = (tForD (tItsD (tVarD 3)) (gNameD 5) (L_SignatureX_initX_8) [5]) R D Γ := rfl
def T_SignatureX_initX_12 : TSD := tSeqD (tSetFld ["Signature"] 0 "shares" (tCBD dTupleOf (tConsD (tVarD 2) (tNilD)))) (tSetFld ["Signature"] 0 "writes" (tCBD dTupleOf (tConsD (tFz (tSortSet 5 (tItsD (tVarD 3)))) (tNilD))))
theorem e_T_SignatureX_initX_12 (R : ExD) (D : EndsD) (Γ : Gm) : T_SignatureX_initX_12 R D Γ = (tSeqD (tSetFld ["Signature"] 0 "shares" (tCBD dTupleOf (tConsD (tVarD 2) (tNilD)))) (tSetFld ["Signature"] 0 "writes" (tCBD dTupleOf (tConsD (tFz (tSortSet 5 (tItsD (tVarD 3)))) (tNilD))))) R D Γ := rfl
def T_SignatureX_initX_11 : TSD := tSeqD (tSetFld ["Signature"] 0 "takes" (tCBD dTupleOf (tConsD (tVarD 1) (tNilD)))) (T_SignatureX_initX_12)
theorem e_T_SignatureX_initX_11 (R : ExD) (D : EndsD) (Γ : Gm) : T_SignatureX_initX_11 R D Γ = (tSeqD (tSetFld ["Signature"] 0 "takes" (tCBD dTupleOf (tConsD (tVarD 1) (tNilD)))) (T_SignatureX_initX_12)) R D Γ := rfl
def T_SignatureX_initX_8 : TSD := tSeqD (F_SignatureX_initX_8) (T_SignatureX_initX_11)
theorem e_T_SignatureX_initX_8 (R : ExD) (D : EndsD) (Γ : Gm) : T_SignatureX_initX_8 R D Γ = (tSeqD (F_SignatureX_initX_8) (T_SignatureX_initX_11)) R D Γ := rfl
def T_SignatureX_initX_5 : TSD := tSeqD (F_SignatureX_initX_5) (T_SignatureX_initX_8)
theorem e_T_SignatureX_initX_5 (R : ExD) (D : EndsD) (Γ : Gm) : T_SignatureX_initX_5 R D Γ = (tSeqD (F_SignatureX_initX_5) (T_SignatureX_initX_8)) R D Γ := rfl
def T_SignatureX_initX_3 : TSD := tSeqD (tIfSD (tBinT (dEq true) (tCBD dLen (tConsD (tVarD 2) (tNilD))) (tCBD dLen (tConsD (tVarD 1) (tNilD)))) (tRaiseD "BadSignature") (tNextD)) (T_SignatureX_initX_5)
theorem e_T_SignatureX_initX_3 (R : ExD) (D : EndsD) (Γ : Gm) : T_SignatureX_initX_3 R D Γ = (tSeqD (tIfSD (tBinT (dEq true) (tCBD dLen (tConsD (tVarD 2) (tNilD))) (tCBD dLen (tConsD (tVarD 1) (tNilD)))) (tRaiseD "BadSignature") (tNextD)) (T_SignatureX_initX_5)) R D Γ := rfl
def T_SignatureX_initX : TSD := tSeqD (tIfSD (tOrD (tBinT (dB fun i j => decide (j < i)) (tCBD dLen (tConsD (tVarD 1) (tNilD))) (tCD (.int 3))) (tNotD (tTru (tCallD 1 S_are_words (tConsD (tVarD 1) (tNilD)))))) (tRaiseD "BadSignature") (tNextD)) (T_SignatureX_initX_3)
theorem e_T_SignatureX_initX (R : ExD) (D : EndsD) (Γ : Gm) : T_SignatureX_initX R D Γ = (tSeqD (tIfSD (tOrD (tBinT (dB fun i j => decide (j < i)) (tCBD dLen (tConsD (tVarD 1) (tNilD))) (tCD (.int 3))) (tNotD (tTru (tCallD 1 S_are_words (tConsD (tVarD 1) (tNilD)))))) (tRaiseD "BadSignature") (tNextD)) (T_SignatureX_initX_3)) R D Γ := rfl
def S_SignatureX_initX : SpD := bodySp 6 (some 0) T_SignatureX_initX
def T_are_distinct_words : TSD := tSeqD (tIfSD (tNotD (tTru (tCallD 1 S_are_words (tConsD (tVarD 0) (tNilD))))) (tRetD (tCD (.bl false))) (tNextD)) (tRetD (tBin (dEq false) (tLenSet 1 (tItsD (tVarD 0))) (tCBD dLen (tConsD (tVarD 0) (tNilD)))))
theorem e_T_are_distinct_words (R : ExD) (D : EndsD) (Γ : Gm) : T_are_distinct_words R D Γ = (tSeqD (tIfSD (tNotD (tTru (tCallD 1 S_are_words (tConsD (tVarD 0) (tNilD))))) (tRetD (tCD (.bl false))) (tNextD)) (tRetD (tBin (dEq false) (tLenSet 1 (tItsD (tVarD 0))) (tCBD dLen (tConsD (tVarD 0) (tNilD)))))) R D Γ := rfl
def S_are_distinct_words : SpD := bodySp 2 none T_are_distinct_words
def C_Book_sorts_1 : TOD := tLc2D (tItsD (tFldD ["Book"] "kinds" (tVarD 0))) (gTupD 2 (gConsD (gNameD 2) (gConsD (gNameD 3) (gNilD)))) (tYesD) (tItsD (tVarD 3)) (gNameD 1) (tYesD) (tTupD (tConsD (tVarD 2) (tConsD (tVarD 1) (tNilD)))) [2, 3, 1] [1]
theorem e_C_Book_sorts_1 (R : ExD) (Γ : Gm) (Φ : Cl → Gm → Prop) : C_Book_sorts_1 R Γ Φ = (tLc2D (tItsD (tFldD ["Book"] "kinds" (tVarD 0))) (gTupD 2 (gConsD (gNameD 2) (gConsD (gNameD 3) (gNilD)))) (tYesD) (tItsD (tVarD 3)) (gNameD 1) (tYesD) (tTupD (tConsD (tVarD 2) (tConsD (tVarD 1) (tNilD)))) [2, 3, 1] [1]) R Γ Φ := rfl
def T_Book_sorts : TSD := tRetD (tCBD dTupleOf (tConsD (tFz (C_Book_sorts_1)) (tNilD)))
theorem e_T_Book_sorts (R : ExD) (D : EndsD) (Γ : Gm) : T_Book_sorts R D Γ = (tRetD (tCBD dTupleOf (tConsD (tFz (C_Book_sorts_1)) (tNilD)))) R D Γ := rfl
def S_Book_sorts : SpD := bodySp 4 none T_Book_sorts
def M_sorts : Str → Option SpD := fun c => if c = "Book" then some S_Book_sorts else none
def C_Book_has_room_for_1 : TOD := tLcD (tItsD (tFldD ["Book"] "kinds" (tVarD 0))) (gTupD 2 (gConsD (gNameD 3) (gConsD (gNameD 5) (gNilD)))) (tYesD) (tVarD 3) [3, 5]
theorem e_C_Book_has_room_for_1 (R : ExD) (Γ : Gm) (Φ : Cl → Gm → Prop) : C_Book_has_room_for_1 R Γ Φ = (tLcD (tItsD (tFldD ["Book"] "kinds" (tVarD 0))) (gTupD 2 (gConsD (gNameD 3) (gConsD (gNameD 5) (gNilD)))) (tYesD) (tVarD 3) [3, 5]) R Γ Φ := rfl
def L_Book_has_room_for_2 : TSD := tIfSD (tBinT (dIn true) (tVarD 3) (tVarD 2)) (tRetD (tCD (.bl false))) (tNextD)
theorem e_L_Book_has_room_for_2 (R : ExD) (D : EndsD) (Γ : Gm) : L_Book_has_room_for_2 R D Γ = (tIfSD (tBinT (dIn true) (tVarD 3) (tVarD 2)) (tRetD (tCD (.bl false))) (tNextD)) R D Γ := rfl
def F_Book_has_room_for_2 : TSD := tForD (tItsD (tFldD ["Signature"] "takes" (tVarD 1))) (gNameD 3) (L_Book_has_room_for_2) [3]
theorem e_F_Book_has_room_for_2 (R : ExD) (D : EndsD) (Γ : Gm) : F_Book_has_room_for_2 R D Γ = (tForD (tItsD (tFldD ["Signature"] "takes" (tVarD 1))) (gNameD 3) (L_Book_has_room_for_2) [3]) R D Γ := rfl
def L_Book_has_room_for_5 : TSD := tIfSD (tBinT (dIn true) (tVarD 4) (tPropD M_sorts (tVarD 0))) (tRetD (tCD (.bl false))) (tNextD)
theorem e_L_Book_has_room_for_5 (R : ExD) (D : EndsD) (Γ : Gm) : L_Book_has_room_for_5 R D Γ = (tIfSD (tBinT (dIn true) (tVarD 4) (tPropD M_sorts (tVarD 0))) (tRetD (tCD (.bl false))) (tNextD)) R D Γ := rfl
def F_Book_has_room_for_5 : TSD := tForD (tItsO ["Signature"] "writes" (tVarD 1)) (gNameD 4) (L_Book_has_room_for_5) [4]
theorem e_F_Book_has_room_for_5 (R : ExD) (D : EndsD) (Γ : Gm) : F_Book_has_room_for_5 R D Γ = (tForD (tItsO ["Signature"] "writes" (tVarD 1)) (gNameD 4) (L_Book_has_room_for_5) [4]) R D Γ := rfl
def T_Book_has_room_for_5 : TSD := tSeqD (F_Book_has_room_for_5) (tRetD (tCD (.bl true)))
theorem e_T_Book_has_room_for_5 (R : ExD) (D : EndsD) (Γ : Gm) : T_Book_has_room_for_5 R D Γ = (tSeqD (F_Book_has_room_for_5) (tRetD (tCD (.bl true)))) R D Γ := rfl
def T_Book_has_room_for_2 : TSD := tSeqD (F_Book_has_room_for_2) (T_Book_has_room_for_5)
theorem e_T_Book_has_room_for_2 (R : ExD) (D : EndsD) (Γ : Gm) : T_Book_has_room_for_2 R D Γ = (tSeqD (F_Book_has_room_for_2) (T_Book_has_room_for_5)) R D Γ := rfl
def T_Book_has_room_for : TSD := tSeqD (tSetD 2 (tFz (C_Book_has_room_for_1))) (T_Book_has_room_for_2)
theorem e_T_Book_has_room_for (R : ExD) (D : EndsD) (Γ : Gm) : T_Book_has_room_for R D Γ = (tSeqD (tSetD 2 (tFz (C_Book_has_room_for_1))) (T_Book_has_room_for_2)) R D Γ := rfl
def S_Book_has_room_for : SpD := bodySp 6 none T_Book_has_room_for
def M_has_room_for : Str → Option SpD := fun c => if c = "Book" then some S_Book_has_room_for else none
def C_BookX_initX_1 : TOD := tLcD (tItsD (tVarD 1)) (gTupD 2 (gConsD (gNameD 3) (gConsD (gNameD 4) (gNilD)))) (tYesD) (tTupD (tConsD (tVarD 3) (tConsD (tCBD dTupleOf (tConsD (tVarD 4) (tNilD))) (tNilD)))) [3, 4]
theorem e_C_BookX_initX_1 (R : ExD) (Γ : Gm) (Φ : Cl → Gm → Prop) : C_BookX_initX_1 R Γ Φ = (tLcD (tItsD (tVarD 1)) (gTupD 2 (gConsD (gNameD 3) (gConsD (gNameD 4) (gNilD)))) (tYesD) (tTupD (tConsD (tVarD 3) (tConsD (tCBD dTupleOf (tConsD (tVarD 4) (tNilD))) (tNilD)))) [3, 4]) R Γ Φ := rfl
def C_BookX_initX_2 : TOD := tLcD (tItsD (tVarD 2)) (gTupD 2 (gConsD (gNameD 5) (gConsD (gNameD 6) (gNilD)))) (tYesD) (tTupD (tConsD (tVarD 5) (tConsD (tVarD 6) (tNilD)))) [5, 6]
theorem e_C_BookX_initX_2 (R : ExD) (Γ : Gm) (Φ : Cl → Gm → Prop) : C_BookX_initX_2 R Γ Φ = (tLcD (tItsD (tVarD 2)) (gTupD 2 (gConsD (gNameD 5) (gConsD (gNameD 6) (gNilD)))) (tYesD) (tTupD (tConsD (tVarD 5) (tConsD (tVarD 6) (tNilD)))) [5, 6]) R Γ Φ := rfl
def C_BookX_initX_5 : TOD := tLcD (tItsD (tFldO ["Book"] 0 "kinds")) (gTupD 2 (gConsD (gNameD 3) (gConsD (gNameD 4) (gNilD)))) (tYesD) (tVarD 3) [3, 4]
theorem e_C_BookX_initX_5 (R : ExD) (Γ : Gm) (Φ : Cl → Gm → Prop) : C_BookX_initX_5 R Γ Φ = (tLcD (tItsD (tFldO ["Book"] 0 "kinds")) (gTupD 2 (gConsD (gNameD 3) (gConsD (gNameD 4) (gNilD)))) (tYesD) (tVarD 3) [3, 4]) R Γ Φ := rfl
def L_BookX_initX_7 : TSD := tIfSD (tOrD (tBinT (dB fun i j => decide (i < j)) (tCBD dLen (tConsD (tVarD 4) (tNilD))) (tCD (.int 1))) (tOrD (tBinT (dB fun i j => decide (j < i)) (tCBD dLen (tConsD (tVarD 4) (tNilD))) (tCD (.int 3))) (tNotD (tTru (tCallD 1 S_are_distinct_words (tConsD (tVarD 4) (tNilD))))))) (tRaiseD "BadBook") (tNextD)
theorem e_L_BookX_initX_7 (R : ExD) (D : EndsD) (Γ : Gm) : L_BookX_initX_7 R D Γ = (tIfSD (tOrD (tBinT (dB fun i j => decide (i < j)) (tCBD dLen (tConsD (tVarD 4) (tNilD))) (tCD (.int 1))) (tOrD (tBinT (dB fun i j => decide (j < i)) (tCBD dLen (tConsD (tVarD 4) (tNilD))) (tCD (.int 3))) (tNotD (tTru (tCallD 1 S_are_distinct_words (tConsD (tVarD 4) (tNilD))))))) (tRaiseD "BadBook") (tNextD)) R D Γ := rfl
def F_BookX_initX_7 : TSD := tForD (tItsD (tFldO ["Book"] 0 "kinds")) (gTupD 2 (gConsD (gNameD 3) (gConsD (gNameD 4) (gNilD)))) (L_BookX_initX_7) [3, 4]
theorem e_F_BookX_initX_7 (R : ExD) (D : EndsD) (Γ : Gm) : F_BookX_initX_7 R D Γ = (tForD (tItsD (tFldO ["Book"] 0 "kinds")) (gTupD 2 (gConsD (gNameD 3) (gConsD (gNameD 4) (gNilD)))) (L_BookX_initX_7) [3, 4]) R D Γ := rfl
def C_BookX_initX_12 : TOD := tLcD (tItsD (tFldO ["Book"] 0 "routines")) (gTupD 2 (gConsD (gNameD 5) (gConsD (gNameD 6) (gNilD)))) (tYesD) (tVarD 5) [5, 6]
theorem e_C_BookX_initX_12 (R : ExD) (Γ : Gm) (Φ : Cl → Gm → Prop) : C_BookX_initX_12 R Γ Φ = (tLcD (tItsD (tFldO ["Book"] 0 "routines")) (gTupD 2 (gConsD (gNameD 5) (gConsD (gNameD 6) (gNilD)))) (tYesD) (tVarD 5) [5, 6]) R Γ Φ := rfl
def L_BookX_initX_14 : TSD := tIfSD (tNotD (tTru (tVw (tMethD 2 "has_room_for" M_has_room_for (tVarD 0) (tConsD (tVarD 6) (tNilD)))))) (tRaiseD "BadBook") (tNextD)
theorem e_L_BookX_initX_14 (R : ExD) (D : EndsD) (Γ : Gm) : L_BookX_initX_14 R D Γ = (tIfSD (tNotD (tTru (tVw (tMethD 2 "has_room_for" M_has_room_for (tVarD 0) (tConsD (tVarD 6) (tNilD)))))) (tRaiseD "BadBook") (tNextD)) R D Γ := rfl
def F_BookX_initX_14 : TSD := tForD (tItsD (tFldO ["Book"] 0 "routines")) (gTupD 2 (gConsD (gNameD 5) (gConsD (gNameD 6) (gNilD)))) (L_BookX_initX_14) [5, 6]
theorem e_F_BookX_initX_14 (R : ExD) (D : EndsD) (Γ : Gm) : F_BookX_initX_14 R D Γ = (tForD (tItsD (tFldO ["Book"] 0 "routines")) (gTupD 2 (gConsD (gNameD 5) (gConsD (gNameD 6) (gNilD)))) (L_BookX_initX_14) [5, 6]) R D Γ := rfl
def T_BookX_initX_12 : TSD := tSeqD (tIfSD (tNotD (tTru (tCallD 1 S_are_distinct_words (tConsD (tFz (C_BookX_initX_12)) (tNilD))))) (tRaiseD "BadBook") (tNextD)) (F_BookX_initX_14)
theorem e_T_BookX_initX_12 (R : ExD) (D : EndsD) (Γ : Gm) : T_BookX_initX_12 R D Γ = (tSeqD (tIfSD (tNotD (tTru (tCallD 1 S_are_distinct_words (tConsD (tFz (C_BookX_initX_12)) (tNilD))))) (tRaiseD "BadBook") (tNextD)) (F_BookX_initX_14)) R D Γ := rfl
def T_BookX_initX_10 : TSD := tSeqD (tIfSD (tBinT (dB fun i j => decide (j < i)) (tCBD dLen (tConsD (tFldO ["Book"] 0 "routines") (tNilD))) (tCD (.int 4))) (tRaiseD "BadBook") (tNextD)) (T_BookX_initX_12)
theorem e_T_BookX_initX_10 (R : ExD) (D : EndsD) (Γ : Gm) : T_BookX_initX_10 R D Γ = (tSeqD (tIfSD (tBinT (dB fun i j => decide (j < i)) (tCBD dLen (tConsD (tFldO ["Book"] 0 "routines") (tNilD))) (tCD (.int 4))) (tRaiseD "BadBook") (tNextD)) (T_BookX_initX_12)) R D Γ := rfl
def T_BookX_initX_7 : TSD := tSeqD (F_BookX_initX_7) (T_BookX_initX_10)
theorem e_T_BookX_initX_7 (R : ExD) (D : EndsD) (Γ : Gm) : T_BookX_initX_7 R D Γ = (tSeqD (F_BookX_initX_7) (T_BookX_initX_10)) R D Γ := rfl
def T_BookX_initX_5 : TSD := tSeqD (tIfSD (tNotD (tTru (tCallD 1 S_are_distinct_words (tConsD (tFz (C_BookX_initX_5)) (tNilD))))) (tRaiseD "BadBook") (tNextD)) (T_BookX_initX_7)
theorem e_T_BookX_initX_5 (R : ExD) (D : EndsD) (Γ : Gm) : T_BookX_initX_5 R D Γ = (tSeqD (tIfSD (tNotD (tTru (tCallD 1 S_are_distinct_words (tConsD (tFz (C_BookX_initX_5)) (tNilD))))) (tRaiseD "BadBook") (tNextD)) (T_BookX_initX_7)) R D Γ := rfl
def T_BookX_initX_3 : TSD := tSeqD (tIfSD (tOrD (tBinT (dB fun i j => decide (i < j)) (tCBD dLen (tConsD (tFldO ["Book"] 0 "kinds") (tNilD))) (tCD (.int 1))) (tBinT (dB fun i j => decide (j < i)) (tCBD dLen (tConsD (tFldO ["Book"] 0 "kinds") (tNilD))) (tCD (.int 3)))) (tRaiseD "BadBook") (tNextD)) (T_BookX_initX_5)
theorem e_T_BookX_initX_3 (R : ExD) (D : EndsD) (Γ : Gm) : T_BookX_initX_3 R D Γ = (tSeqD (tIfSD (tOrD (tBinT (dB fun i j => decide (i < j)) (tCBD dLen (tConsD (tFldO ["Book"] 0 "kinds") (tNilD))) (tCD (.int 1))) (tBinT (dB fun i j => decide (j < i)) (tCBD dLen (tConsD (tFldO ["Book"] 0 "kinds") (tNilD))) (tCD (.int 3)))) (tRaiseD "BadBook") (tNextD)) (T_BookX_initX_5)) R D Γ := rfl
def T_BookX_initX_2 : TSD := tSeqD (tSetFld ["Book"] 0 "routines" (tCBD dTupleOf (tConsD (tFz (C_BookX_initX_2)) (tNilD)))) (T_BookX_initX_3)
theorem e_T_BookX_initX_2 (R : ExD) (D : EndsD) (Γ : Gm) : T_BookX_initX_2 R D Γ = (tSeqD (tSetFld ["Book"] 0 "routines" (tCBD dTupleOf (tConsD (tFz (C_BookX_initX_2)) (tNilD)))) (T_BookX_initX_3)) R D Γ := rfl
def T_BookX_initX : TSD := tSeqD (tSetFld ["Book"] 0 "kinds" (tCBD dTupleOf (tConsD (tFz (C_BookX_initX_1)) (tNilD)))) (T_BookX_initX_2)
theorem e_T_BookX_initX (R : ExD) (D : EndsD) (Γ : Gm) : T_BookX_initX R D Γ = (tSeqD (tSetFld ["Book"] 0 "kinds" (tCBD dTupleOf (tConsD (tFz (C_BookX_initX_1)) (tNilD)))) (T_BookX_initX_2)) R D Γ := rfl
def S_BookX_initX : SpD := bodySp 7 (some 0) T_BookX_initX
def C_SceneX_initX_2 : TOD := tLcD (tItsD (tVarD 2)) (gTupD 2 (gConsD (gNameD 8) (gConsD (gNameD 9) (gNilD)))) (tYesD) (tTupD (tConsD (tVarD 8) (tConsD (tVarD 9) (tNilD)))) [8, 9]
theorem e_C_SceneX_initX_2 (R : ExD) (Γ : Gm) (Φ : Cl → Gm → Prop) : C_SceneX_initX_2 R Γ Φ = (tLcD (tItsD (tVarD 2)) (gTupD 2 (gConsD (gNameD 8) (gConsD (gNameD 9) (gNilD)))) (tYesD) (tTupD (tConsD (tVarD 8) (tConsD (tVarD 9) (tNilD)))) [8, 9]) R Γ Φ := rfl
def C_SceneX_initX_5 : TOD := tLcD (tItsD (tFldO ["Scene"] 0 "names")) (gTupD 2 (gConsD (gNameD 8) (gConsD (gNameD 9) (gNilD)))) (tYesD) (tVarD 8) [8, 9]
theorem e_C_SceneX_initX_5 (R : ExD) (Γ : Gm) (Φ : Cl → Gm → Prop) : C_SceneX_initX_5 R Γ Φ = (tLcD (tItsD (tFldO ["Scene"] 0 "names")) (gTupD 2 (gConsD (gNameD 8) (gConsD (gNameD 9) (gNilD)))) (tYesD) (tVarD 8) [8, 9]) R Γ Φ := rfl
def C_SceneX_initX_8 : TOD := tLcD (tItsD (tFldD ["Book"] "kinds" (tVarD 1))) (gTupD 2 (gConsD (gNameD 9) (gConsD (gNameD 13) (gNilD)))) (tYesD) (tVarD 9) [9, 13]
theorem e_C_SceneX_initX_8 (R : ExD) (Γ : Gm) (Φ : Cl → Gm → Prop) : C_SceneX_initX_8 R Γ Φ = (tLcD (tItsD (tFldD ["Book"] "kinds" (tVarD 1))) (gTupD 2 (gConsD (gNameD 9) (gConsD (gNameD 13) (gNilD)))) (tYesD) (tVarD 9) [9, 13]) R Γ Φ := rfl
def L_SceneX_initX_9 : TSD := tIfSD (tBinT (dIn true) (tVarD 9) (tVarD 5)) (tRaiseD "BadScene") (tNextD)
theorem e_L_SceneX_initX_9 (R : ExD) (D : EndsD) (Γ : Gm) : L_SceneX_initX_9 R D Γ = (tIfSD (tBinT (dIn true) (tVarD 9) (tVarD 5)) (tRaiseD "BadScene") (tNextD)) R D Γ := rfl
def F_SceneX_initX_9 : TSD := tForD (tItsD (tFldO ["Scene"] 0 "names")) (gTupD 2 (gConsD (gNameD 8) (gConsD (gNameD 9) (gNilD)))) (L_SceneX_initX_9) [8, 9]
theorem e_F_SceneX_initX_9 (R : ExD) (D : EndsD) (Γ : Gm) : F_SceneX_initX_9 R D Γ = (tForD (tItsD (tFldO ["Scene"] 0 "names")) (gTupD 2 (gConsD (gNameD 8) (gConsD (gNameD 9) (gNilD)))) (L_SceneX_initX_9) [8, 9]) R D Γ := rfl
def T_SceneX_initX_18 : TSD := tSeqD (tDropD (tAppend 6 (tTupD (tConsD (tVarD 10) (tConsD (tVarD 11) (tNilD)))))) (tDropD (tAppend 6 (tTupD (tConsD (tVarD 11) (tConsD (tVarD 10) (tNilD))))))
theorem e_T_SceneX_initX_18 (R : ExD) (D : EndsD) (Γ : Gm) : T_SceneX_initX_18 R D Γ = (tSeqD (tDropD (tAppend 6 (tTupD (tConsD (tVarD 10) (tConsD (tVarD 11) (tNilD)))))) (tDropD (tAppend 6 (tTupD (tConsD (tVarD 11) (tConsD (tVarD 10) (tNilD))))))) R D Γ := rfl
def T_SceneX_initX_16 : TSD := tSeqD (tIfSD (tBinT (dEq true) (tVw (tMethD 2 "kind_of" M_kind_of (tVarD 0) (tConsD (tVarD 10) (tNilD)))) (tVw (tMethD 2 "kind_of" M_kind_of (tVarD 0) (tConsD (tVarD 11) (tNilD))))) (tRaiseD "BadScene") (tNextD)) (T_SceneX_initX_18)
theorem e_T_SceneX_initX_16 (R : ExD) (D : EndsD) (Γ : Gm) : T_SceneX_initX_16 R D Γ = (tSeqD (tIfSD (tBinT (dEq true) (tVw (tMethD 2 "kind_of" M_kind_of (tVarD 0) (tConsD (tVarD 10) (tNilD)))) (tVw (tMethD 2 "kind_of" M_kind_of (tVarD 0) (tConsD (tVarD 11) (tNilD))))) (tRaiseD "BadScene") (tNextD)) (T_SceneX_initX_18)) R D Γ := rfl
def T_SceneX_initX_14 : TSD := tSeqD (tIfSD (tOrD (tBinT (dIn true) (tVarD 10) (tVarD 4)) (tOrD (tBinT (dIn true) (tVarD 11) (tVarD 4)) (tBinT (dEq false) (tVarD 10) (tVarD 11)))) (tRaiseD "BadScene") (tNextD)) (T_SceneX_initX_16)
theorem e_T_SceneX_initX_14 (R : ExD) (D : EndsD) (Γ : Gm) : T_SceneX_initX_14 R D Γ = (tSeqD (tIfSD (tOrD (tBinT (dIn true) (tVarD 10) (tVarD 4)) (tOrD (tBinT (dIn true) (tVarD 11) (tVarD 4)) (tBinT (dEq false) (tVarD 10) (tVarD 11)))) (tRaiseD "BadScene") (tNextD)) (T_SceneX_initX_16)) R D Γ := rfl
def F_SceneX_initX_13 : TSD := tForD (tItsD (tVarD 3)) (gTupD 2 (gConsD (gNameD 10) (gConsD (gNameD 11) (gNilD)))) (T_SceneX_initX_14) [10, 11]
theorem e_F_SceneX_initX_13 (R : ExD) (D : EndsD) (Γ : Gm) : F_SceneX_initX_13 R D Γ = (tForD (tItsD (tVarD 3)) (gTupD 2 (gConsD (gNameD 10) (gConsD (gNameD 11) (gNilD)))) (T_SceneX_initX_14) [10, 11]) R D Γ := rfl
def C_SceneX_initX_20 : TOD := tLc2D (tEnum (tVarD 4)) (gTupD 2 (gConsD (gNameD 14) (gConsD (gNameD 15) (gNilD)))) (tYesD) (tItsD (tSlD (tVarD 4) (tPartD (tBin dAdd (tVarD 14) (tCD (.int 1)))) (tNoPartD))) (gNameD 12) (tBinT (dIn false) (tTupD (tConsD (tVarD 15) (tConsD (tVarD 12) (tNilD)))) (tVarD 6)) (tTupD (tConsD (tVarD 15) (tConsD (tVarD 12) (tNilD)))) [14, 15, 12] [12]
theorem e_C_SceneX_initX_20 (R : ExD) (Γ : Gm) (Φ : Cl → Gm → Prop) : C_SceneX_initX_20 R Γ Φ = (tLc2D (tEnum (tVarD 4)) (gTupD 2 (gConsD (gNameD 14) (gConsD (gNameD 15) (gNilD)))) (tYesD) (tItsD (tSlD (tVarD 4) (tPartD (tBin dAdd (tVarD 14) (tCD (.int 1)))) (tNoPartD))) (gNameD 12) (tBinT (dIn false) (tTupD (tConsD (tVarD 15) (tConsD (tVarD 12) (tNilD)))) (tVarD 6)) (tTupD (tConsD (tVarD 15) (tConsD (tVarD 12) (tNilD)))) [14, 15, 12] [12]) R Γ Φ := rfl
def T_SceneX_initX_20 : TSD := tSeqD (tSetD 7 (tFz (C_SceneX_initX_20))) (tSetFld ["Scene"] 0 "apart" (tCBD dTupleOf (tConsD (tVarD 7) (tNilD))))
theorem e_T_SceneX_initX_20 (R : ExD) (D : EndsD) (Γ : Gm) : T_SceneX_initX_20 R D Γ = (tSeqD (tSetD 7 (tFz (C_SceneX_initX_20))) (tSetFld ["Scene"] 0 "apart" (tCBD dTupleOf (tConsD (tVarD 7) (tNilD))))) R D Γ := rfl
def Z_SceneX_initX_13 : TSD := tFrz 6 (T_SceneX_initX_20)
theorem e_Z_SceneX_initX_13 (R : ExD) (D : EndsD) (Γ : Gm) : Z_SceneX_initX_13 R D Γ = (tFrz 6 (T_SceneX_initX_20)) R D Γ := rfl
def T_SceneX_initX_13 : TSD := tSeqD (F_SceneX_initX_13) (Z_SceneX_initX_13)
theorem e_T_SceneX_initX_13 (R : ExD) (D : EndsD) (Γ : Gm) : T_SceneX_initX_13 R D Γ = (tSeqD (F_SceneX_initX_13) (Z_SceneX_initX_13)) R D Γ := rfl
def T_SceneX_initX_12 : TSD := tSeqD (tSetO 6 (tLstO (tNilD))) (T_SceneX_initX_13)
theorem e_T_SceneX_initX_12 (R : ExD) (D : EndsD) (Γ : Gm) : T_SceneX_initX_12 R D Γ = (tSeqD (tSetO 6 (tLstO (tNilD))) (T_SceneX_initX_13)) R D Γ := rfl
def T_SceneX_initX_9 : TSD := tSeqD (F_SceneX_initX_9) (T_SceneX_initX_12)
theorem e_T_SceneX_initX_9 (R : ExD) (D : EndsD) (Γ : Gm) : T_SceneX_initX_9 R D Γ = (tSeqD (F_SceneX_initX_9) (T_SceneX_initX_12)) R D Γ := rfl
def T_SceneX_initX_8 : TSD := tSeqD (tSetD 5 (tFz (C_SceneX_initX_8))) (T_SceneX_initX_9)
theorem e_T_SceneX_initX_8 (R : ExD) (D : EndsD) (Γ : Gm) : T_SceneX_initX_8 R D Γ = (tSeqD (tSetD 5 (tFz (C_SceneX_initX_8))) (T_SceneX_initX_9)) R D Γ := rfl
def T_SceneX_initX_6 : TSD := tSeqD (tIfSD (tNotD (tTru (tCallD 1 S_are_distinct_words (tConsD (tVarD 4) (tNilD))))) (tRaiseD "BadScene") (tNextD)) (T_SceneX_initX_8)
theorem e_T_SceneX_initX_6 (R : ExD) (D : EndsD) (Γ : Gm) : T_SceneX_initX_6 R D Γ = (tSeqD (tIfSD (tNotD (tTru (tCallD 1 S_are_distinct_words (tConsD (tVarD 4) (tNilD))))) (tRaiseD "BadScene") (tNextD)) (T_SceneX_initX_8)) R D Γ := rfl
def T_SceneX_initX_5 : TSD := tSeqD (tSetD 4 (tFz (C_SceneX_initX_5))) (T_SceneX_initX_6)
theorem e_T_SceneX_initX_5 (R : ExD) (D : EndsD) (Γ : Gm) : T_SceneX_initX_5 R D Γ = (tSeqD (tSetD 4 (tFz (C_SceneX_initX_5))) (T_SceneX_initX_6)) R D Γ := rfl
def T_SceneX_initX_3 : TSD := tSeqD (tIfSD (tOrD (tBinT (dB fun i j => decide (i < j)) (tCBD dLen (tConsD (tFldO ["Scene"] 0 "names") (tNilD))) (tCD (.int 1))) (tBinT (dB fun i j => decide (j < i)) (tCBD dLen (tConsD (tFldO ["Scene"] 0 "names") (tNilD))) (tCD (.int 5)))) (tRaiseD "BadScene") (tNextD)) (T_SceneX_initX_5)
theorem e_T_SceneX_initX_3 (R : ExD) (D : EndsD) (Γ : Gm) : T_SceneX_initX_3 R D Γ = (tSeqD (tIfSD (tOrD (tBinT (dB fun i j => decide (i < j)) (tCBD dLen (tConsD (tFldO ["Scene"] 0 "names") (tNilD))) (tCD (.int 1))) (tBinT (dB fun i j => decide (j < i)) (tCBD dLen (tConsD (tFldO ["Scene"] 0 "names") (tNilD))) (tCD (.int 5)))) (tRaiseD "BadScene") (tNextD)) (T_SceneX_initX_5)) R D Γ := rfl
def T_SceneX_initX_2 : TSD := tSeqD (tSetFld ["Scene"] 0 "names" (tCBD dTupleOf (tConsD (tFz (C_SceneX_initX_2)) (tNilD)))) (T_SceneX_initX_3)
theorem e_T_SceneX_initX_2 (R : ExD) (D : EndsD) (Γ : Gm) : T_SceneX_initX_2 R D Γ = (tSeqD (tSetFld ["Scene"] 0 "names" (tCBD dTupleOf (tConsD (tFz (C_SceneX_initX_2)) (tNilD)))) (T_SceneX_initX_3)) R D Γ := rfl
def T_SceneX_initX : TSD := tSeqD (tSetFld ["Scene"] 0 "book" (tVarD 1)) (T_SceneX_initX_2)
theorem e_T_SceneX_initX (R : ExD) (D : EndsD) (Γ : Gm) : T_SceneX_initX R D Γ = (tSeqD (tSetFld ["Scene"] 0 "book" (tVarD 1)) (T_SceneX_initX_2)) R D Γ := rfl
def S_SceneX_initX : SpD := bodySp 16 (some 0) T_SceneX_initX
def C_Scene_order_1 : TOD := tLcD (tItsD (tFldD ["Scene"] "names" (tVarD 0))) (gTupD 2 (gConsD (gNameD 1) (gConsD (gNameD 2) (gNilD)))) (tYesD) (tVarD 1) [1, 2]
theorem e_C_Scene_order_1 (R : ExD) (Γ : Gm) (Φ : Cl → Gm → Prop) : C_Scene_order_1 R Γ Φ = (tLcD (tItsD (tFldD ["Scene"] "names" (tVarD 0))) (gTupD 2 (gConsD (gNameD 1) (gConsD (gNameD 2) (gNilD)))) (tYesD) (tVarD 1) [1, 2]) R Γ Φ := rfl
def T_Scene_order : TSD := tRetD (tCBD dTupleOf (tConsD (tFz (C_Scene_order_1)) (tNilD)))
theorem e_T_Scene_order (R : ExD) (D : EndsD) (Γ : Gm) : T_Scene_order R D Γ = (tRetD (tCBD dTupleOf (tConsD (tFz (C_Scene_order_1)) (tNilD)))) R D Γ := rfl
def S_Scene_order : SpD := bodySp 3 none T_Scene_order
def M_order : Str → Option SpD := fun c => if c = "Scene" then some S_Scene_order else none
def L_written_routine_2 : TSD := tDropD (tAppend 2 (tBin dAdd (tBin dIx (tFldD ["Signature"] "takes" (tVarD 1)) (tVarD 3)) (tIfD (tTru (tBin dIx (tFldD ["Signature"] "shares" (tVarD 1)) (tVarD 3))) (tCD (.str "*")) (tCD (.str "")))))
theorem e_L_written_routine_2 (R : ExD) (D : EndsD) (Γ : Gm) : L_written_routine_2 R D Γ = (tDropD (tAppend 2 (tBin dAdd (tBin dIx (tFldD ["Signature"] "takes" (tVarD 1)) (tVarD 3)) (tIfD (tTru (tBin dIx (tFldD ["Signature"] "shares" (tVarD 1)) (tVarD 3))) (tCD (.str "*")) (tCD (.str "")))))) R D Γ := rfl
def F_written_routine_2 : TSD := tForD (tRng1 (tCBD dLen (tConsD (tFldD ["Signature"] "takes" (tVarD 1)) (tNilD)))) (gNameD 3) (L_written_routine_2) [3]
theorem e_F_written_routine_2 (R : ExD) (D : EndsD) (Γ : Gm) : F_written_routine_2 R D Γ = (tForD (tRng1 (tCBD dLen (tConsD (tFldD ["Signature"] "takes" (tVarD 1)) (tNilD)))) (gNameD 3) (L_written_routine_2) [3]) R D Γ := rfl
def L_written_routine_5 : TSD := tSetD 4 (tBin dAdd (tBin dAdd (tBin dAdd (tBin dAdd (tVarD 4) (tCD (.str " "))) (tVarD 5)) (tCD (.str "."))) (tVarD 6))
theorem e_L_written_routine_5 (R : ExD) (D : EndsD) (Γ : Gm) : L_written_routine_5 R D Γ = (tSetD 4 (tBin dAdd (tBin dAdd (tBin dAdd (tBin dAdd (tVarD 4) (tCD (.str " "))) (tVarD 5)) (tCD (.str "."))) (tVarD 6))) R D Γ := rfl
def F_written_routine_5 : TSD := tForD (tItsO ["Signature"] "writes" (tVarD 1)) (gTupD 2 (gConsD (gNameD 5) (gConsD (gNameD 6) (gNilD)))) (L_written_routine_5) [5, 6]
theorem e_F_written_routine_5 (R : ExD) (D : EndsD) (Γ : Gm) : F_written_routine_5 R D Γ = (tForD (tItsO ["Signature"] "writes" (tVarD 1)) (gTupD 2 (gConsD (gNameD 5) (gConsD (gNameD 6) (gNilD)))) (L_written_routine_5) [5, 6]) R D Γ := rfl
def T_written_routine_5 : TSD := tSeqD (F_written_routine_5) (tRetD (tVarD 4))
theorem e_T_written_routine_5 (R : ExD) (D : EndsD) (Γ : Gm) : T_written_routine_5 R D Γ = (tSeqD (F_written_routine_5) (tRetD (tVarD 4))) R D Γ := rfl
def T_written_routine_4 : TSD := tSeqD (tSetD 4 (tBin dAdd (tBin dAdd (tBin dAdd (tBin dAdd (tCD (.str "routine ")) (tVarD 0)) (tCD (.str "("))) (tJoin (tCD (.str ", ")) (tVarD 2))) (tCD (.str "):")))) (T_written_routine_5)
theorem e_T_written_routine_4 (R : ExD) (D : EndsD) (Γ : Gm) : T_written_routine_4 R D Γ = (tSeqD (tSetD 4 (tBin dAdd (tBin dAdd (tBin dAdd (tBin dAdd (tCD (.str "routine ")) (tVarD 0)) (tCD (.str "("))) (tJoin (tCD (.str ", ")) (tVarD 2))) (tCD (.str "):")))) (T_written_routine_5)) R D Γ := rfl
def Z_written_routine_2 : TSD := tFrz 2 (T_written_routine_4)
theorem e_Z_written_routine_2 (R : ExD) (D : EndsD) (Γ : Gm) : Z_written_routine_2 R D Γ = (tFrz 2 (T_written_routine_4)) R D Γ := rfl
def T_written_routine_2 : TSD := tSeqD (F_written_routine_2) (Z_written_routine_2)
theorem e_T_written_routine_2 (R : ExD) (D : EndsD) (Γ : Gm) : T_written_routine_2 R D Γ = (tSeqD (F_written_routine_2) (Z_written_routine_2)) R D Γ := rfl
def T_written_routine : TSD := tSeqD (tSetO 2 (tLstO (tNilD))) (T_written_routine_2)
theorem e_T_written_routine (R : ExD) (D : EndsD) (Γ : Gm) : T_written_routine R D Γ = (tSeqD (tSetO 2 (tLstO (tNilD))) (T_written_routine_2)) R D Γ := rfl
def S_written_routine : SpD := bodySp 7 none T_written_routine
def C_Book_written_1 : TOD := tLcD (tItsD (tFldD ["Book"] "kinds" (tVarD 0))) (gTupD 2 (gConsD (gNameD 2) (gConsD (gNameD 3) (gNilD)))) (tYesD) (tBin dAdd (tBin dAdd (tBin dAdd (tCD (.str "kind ")) (tVarD 2)) (tCD (.str ": "))) (tJoin (tCD (.str " ")) (tVarD 3))) [2, 3]
theorem e_C_Book_written_1 (R : ExD) (Γ : Gm) (Φ : Cl → Gm → Prop) : C_Book_written_1 R Γ Φ = (tLcD (tItsD (tFldD ["Book"] "kinds" (tVarD 0))) (gTupD 2 (gConsD (gNameD 2) (gConsD (gNameD 3) (gNilD)))) (tYesD) (tBin dAdd (tBin dAdd (tBin dAdd (tCD (.str "kind ")) (tVarD 2)) (tCD (.str ": "))) (tJoin (tCD (.str " ")) (tVarD 3))) [2, 3]) R Γ Φ := rfl
def C_Book_written_2 : TOD := tLcD (tItsD (tFldD ["Book"] "routines" (tVarD 0))) (gTupD 2 (gConsD (gNameD 4) (gConsD (gNameD 5) (gNilD)))) (tYesD) (tCallD 2 S_written_routine (tConsD (tVarD 4) (tConsD (tVarD 5) (tNilD)))) [4, 5]
theorem e_C_Book_written_2 (R : ExD) (Γ : Gm) (Φ : Cl → Gm → Prop) : C_Book_written_2 R Γ Φ = (tLcD (tItsD (tFldD ["Book"] "routines" (tVarD 0))) (gTupD 2 (gConsD (gNameD 4) (gConsD (gNameD 5) (gNilD)))) (tYesD) (tCallD 2 S_written_routine (tConsD (tVarD 4) (tConsD (tVarD 5) (tNilD)))) [4, 5]) R Γ Φ := rfl
def Z_Book_written_2 : TSD := tFrz 1 (tRetD (tJoin (tCD (.str "\n")) (tVarD 1)))
theorem e_Z_Book_written_2 (R : ExD) (D : EndsD) (Γ : Gm) : Z_Book_written_2 R D Γ = (tFrz 1 (tRetD (tJoin (tCD (.str "\n")) (tVarD 1)))) R D Γ := rfl
def T_Book_written_2 : TSD := tSeqD (tAugL 1 (tFz (C_Book_written_2))) (Z_Book_written_2)
theorem e_T_Book_written_2 (R : ExD) (D : EndsD) (Γ : Gm) : T_Book_written_2 R D Γ = (tSeqD (tAugL 1 (tFz (C_Book_written_2))) (Z_Book_written_2)) R D Γ := rfl
def T_Book_written : TSD := tSeqD (tSetO 1 (C_Book_written_1)) (T_Book_written_2)
theorem e_T_Book_written (R : ExD) (D : EndsD) (Γ : Gm) : T_Book_written R D Γ = (tSeqD (tSetO 1 (C_Book_written_1)) (T_Book_written_2)) R D Γ := rfl
def S_Book_written : SpD := bodySp 6 none T_Book_written
def M_written : Str → Option SpD := fun c => if c = "Book" then some S_Book_written else none
def T_Scene_with_apart : TSD := tRetD (tFz (tMakeOK 2 1 "Scene" S_SceneX_initX (tConsD (tFldD ["Scene"] "book" (tVarD 0)) (tConsD (tFldD ["Scene"] "names" (tVarD 0)) (tNilD))) (tConsD (tBin dAdd (tFldD ["Scene"] "apart" (tVarD 0)) (tTupD (tConsD (tTupD (tConsD (tVarD 1) (tConsD (tVarD 2) (tNilD)))) (tNilD)))) (tNilD))))
theorem e_T_Scene_with_apart (R : ExD) (D : EndsD) (Γ : Gm) : T_Scene_with_apart R D Γ = (tRetD (tFz (tMakeOK 2 1 "Scene" S_SceneX_initX (tConsD (tFldD ["Scene"] "book" (tVarD 0)) (tConsD (tFldD ["Scene"] "names" (tVarD 0)) (tNilD))) (tConsD (tBin dAdd (tFldD ["Scene"] "apart" (tVarD 0)) (tTupD (tConsD (tTupD (tConsD (tVarD 1) (tConsD (tVarD 2) (tNilD)))) (tNilD)))) (tNilD))))) R D Γ := rfl
def S_Scene_with_apart : SpD := bodySp 3 none T_Scene_with_apart
def M_with_apart : Str → Option SpD := fun c => if c = "Scene" then some S_Scene_with_apart else none
def T_Scene_with_book : TSD := tRetD (tFz (tMakeOK 2 1 "Scene" S_SceneX_initX (tConsD (tVarD 1) (tConsD (tFldD ["Scene"] "names" (tVarD 0)) (tNilD))) (tConsD (tFldD ["Scene"] "apart" (tVarD 0)) (tNilD))))
theorem e_T_Scene_with_book (R : ExD) (D : EndsD) (Γ : Gm) : T_Scene_with_book R D Γ = (tRetD (tFz (tMakeOK 2 1 "Scene" S_SceneX_initX (tConsD (tVarD 1) (tConsD (tFldD ["Scene"] "names" (tVarD 0)) (tNilD))) (tConsD (tFldD ["Scene"] "apart" (tVarD 0)) (tNilD))))) R D Γ := rfl
def S_Scene_with_book : SpD := bodySp 2 none T_Scene_with_book
def M_with_book : Str → Option SpD := fun c => if c = "Scene" then some S_Scene_with_book else none
def T_law_14 : TSD := tSeqD (tDropD (tAppend 5 (tVarD 17))) (tDropD (tAppend 6 (tBin dIx (tFz (tLstO (tConsD (tVarD 17) (tConsD (tTupD (tConsD (tBin dIx (tVarD 17) (tCD (.int 1))) (tConsD (tBin dIx (tVarD 17) (tCD (.int 0))) (tNilD)))) (tNilD))))) (tBin (dI fun i j => i - j) (tVarD 21) (tCD (.int 1))))))
theorem e_T_law_14 (R : ExD) (D : EndsD) (Γ : Gm) : T_law_14 R D Γ = (tSeqD (tDropD (tAppend 5 (tVarD 17))) (tDropD (tAppend 6 (tBin dIx (tFz (tLstO (tConsD (tVarD 17) (tConsD (tTupD (tConsD (tBin dIx (tVarD 17) (tCD (.int 1))) (tConsD (tBin dIx (tVarD 17) (tCD (.int 0))) (tNilD)))) (tNilD))))) (tBin (dI fun i j => i - j) (tVarD 21) (tCD (.int 1))))))) R D Γ := rfl
def T_law_12 : TSD := tSeqD (tSetD 21 (tCallB 2 1 S_law_take (tSlB 1 (tImB (tCD (.int 3)) (tNilB))))) (tIfSD (tBinT (dB fun i j => decide (j < i)) (tVarD 21) (tCD (.int 0))) (T_law_14) (tNextD))
theorem e_T_law_12 (R : ExD) (D : EndsD) (Γ : Gm) : T_law_12 R D Γ = (tSeqD (tSetD 21 (tCallB 2 1 S_law_take (tSlB 1 (tImB (tCD (.int 3)) (tNilB))))) (tIfSD (tBinT (dB fun i j => decide (j < i)) (tVarD 21) (tCD (.int 0))) (T_law_14) (tNextD))) R D Γ := rfl
def T_law_11 : TSD := tSeqD (tDropD (tAppend 4 (tVarD 17))) (T_law_12)
theorem e_T_law_11 (R : ExD) (D : EndsD) (Γ : Gm) : T_law_11 R D Γ = (tSeqD (tDropD (tAppend 4 (tVarD 17))) (T_law_12)) R D Γ := rfl
def T_law_10 : TSD := tSeqD (tSetD 17 (tTupD (tConsD (tBin dIx (tBin dIx (tVarD 3) (tVarD 7)) (tCD (.int 0))) (tConsD (tBin dIx (tBin dIx (tVarD 3) (tVarD 16)) (tCD (.int 0))) (tNilD))))) (T_law_11)
theorem e_T_law_10 (R : ExD) (D : EndsD) (Γ : Gm) : T_law_10 R D Γ = (tSeqD (tSetD 17 (tTupD (tConsD (tBin dIx (tBin dIx (tVarD 3) (tVarD 7)) (tCD (.int 0))) (tConsD (tBin dIx (tBin dIx (tVarD 3) (tVarD 16)) (tCD (.int 0))) (tNilD))))) (T_law_11)) R D Γ := rfl
def L_law_8 : TSD := tIfSD (tBinT (dEq false) (tBin dIx (tBin dIx (tVarD 3) (tVarD 7)) (tCD (.int 1))) (tBin dIx (tBin dIx (tVarD 3) (tVarD 16)) (tCD (.int 1)))) (T_law_10) (tNextD)
theorem e_L_law_8 (R : ExD) (D : EndsD) (Γ : Gm) : L_law_8 R D Γ = (tIfSD (tBinT (dEq false) (tBin dIx (tBin dIx (tVarD 3) (tVarD 7)) (tCD (.int 1))) (tBin dIx (tBin dIx (tVarD 3) (tVarD 16)) (tCD (.int 1)))) (T_law_10) (tNextD)) R D Γ := rfl
def F_law_8 : TSD := tForD (tRng2 (tBin dAdd (tVarD 7) (tCD (.int 1))) (tCBD dLen (tConsD (tVarD 3) (tNilD)))) (gNameD 16) (L_law_8) [16, 17, 21]
theorem e_F_law_8 (R : ExD) (D : EndsD) (Γ : Gm) : F_law_8 R D Γ = (tForD (tRng2 (tBin dAdd (tVarD 7) (tCD (.int 1))) (tCBD dLen (tConsD (tVarD 3) (tNilD)))) (gNameD 16) (L_law_8) [16, 17, 21]) R D Γ := rfl
def F_law_7 : TSD := tForD (tRng1 (tCBD dLen (tConsD (tVarD 3) (tNilD)))) (gNameD 7) (F_law_8) [7, 16, 17, 21]
theorem e_F_law_7 (R : ExD) (D : EndsD) (Γ : Gm) : F_law_7 R D Γ = (tForD (tRng1 (tCBD dLen (tConsD (tVarD 3) (tNilD)))) (gNameD 7) (F_law_8) [7, 16, 17, 21]) R D Γ := rfl
def C_law_19 : TOD := tLcD (tItsD (tBin dIx (tVarD 2) (tCD (.int 2)))) (gNameD 18) (tYesD) (tTupD (tConsD (tBin dIx (tVarD 18) (tCD (.int 0))) (tConsD (tFz (tMakeO 4 "Signature" S_SignatureX_initX (tConsD (tBin dIx (tVarD 18) (tCD (.int 1))) (tConsD (tBin dIx (tVarD 18) (tCD (.int 2))) (tConsD (tBin dIx (tVarD 18) (tCD (.int 3))) (tNilD)))))) (tNilD)))) [18]
theorem e_C_law_19 (R : ExD) (Γ : Gm) (Φ : Cl → Gm → Prop) : C_law_19 R Γ Φ = (tLcD (tItsD (tBin dIx (tVarD 2) (tCD (.int 2)))) (gNameD 18) (tYesD) (tTupD (tConsD (tBin dIx (tVarD 18) (tCD (.int 0))) (tConsD (tFz (tMakeO 4 "Signature" S_SignatureX_initX (tConsD (tBin dIx (tVarD 18) (tCD (.int 1))) (tConsD (tBin dIx (tVarD 18) (tCD (.int 2))) (tConsD (tBin dIx (tVarD 18) (tCD (.int 3))) (tNilD)))))) (tNilD)))) [18]) R Γ Φ := rfl
def C_law_20 : TOD := tLcD (tItsD (tBin dIx (tVarD 2) (tCD (.int 0)))) (gNameD 18) (tYesD) (tTupD (tConsD (tBin dIx (tVarD 18) (tCD (.int 0))) (tConsD (tBin dIx (tVarD 18) (tCD (.int 1))) (tNilD)))) [18]
theorem e_C_law_20 (R : ExD) (Γ : Gm) (Φ : Cl → Gm → Prop) : C_law_20 R Γ Φ = (tLcD (tItsD (tBin dIx (tVarD 2) (tCD (.int 0)))) (gNameD 18) (tYesD) (tTupD (tConsD (tBin dIx (tVarD 18) (tCD (.int 0))) (tConsD (tBin dIx (tVarD 18) (tCD (.int 1))) (tNilD)))) [18]) R Γ Φ := rfl
def C_law_24 : TOD := tLcD (tItsD (tVarD 3)) (gNameD 18) (tYesD) (tBin dIx (tVarD 18) (tCD (.int 0))) [18]
theorem e_C_law_24 (R : ExD) (Γ : Gm) (Φ : Cl → Gm → Prop) : C_law_24 R Γ Φ = (tLcD (tItsD (tVarD 3)) (gNameD 18) (tYesD) (tBin dIx (tVarD 18) (tCD (.int 0))) [18]) R Γ Φ := rfl
def T_law_30 : TSD := tSeqD (tIfSD (tOrD (tBinT (dEq true) (tMethD 2 "kind_of" M_kind_of (tVarD 12) (tConsD (tVarD 19) (tNilD))) (tVarD 20)) (tBinT (dEq true) (tMethD 2 "fields_of" M_fields_of (tVarD 12) (tConsD (tVarD 19) (tNilD))) (tCBD dTupleOf (tConsD (tBin dIxK (tFz (tDictP (tBin dIx (tVarD 2) (tCD (.int 0))))) (tVarD 20)) (tNilD))))) (tRetD (tCD (.bl false))) (tNextD)) (tIfSD (tOrD (tTru (tIsi "bool" (tMethD 2 "rank" M_rank (tVarD 12) (tConsD (tVarD 19) (tNilD))))) (tBinT (dEq true) (tMethD 2 "rank" M_rank (tVarD 12) (tConsD (tVarD 19) (tNilD))) (tVarD 13))) (tRetD (tCD (.bl false))) (tNextD))
theorem e_T_law_30 (R : ExD) (D : EndsD) (Γ : Gm) : T_law_30 R D Γ = (tSeqD (tIfSD (tOrD (tBinT (dEq true) (tMethD 2 "kind_of" M_kind_of (tVarD 12) (tConsD (tVarD 19) (tNilD))) (tVarD 20)) (tBinT (dEq true) (tMethD 2 "fields_of" M_fields_of (tVarD 12) (tConsD (tVarD 19) (tNilD))) (tCBD dTupleOf (tConsD (tBin dIxK (tFz (tDictP (tBin dIx (tVarD 2) (tCD (.int 0))))) (tVarD 20)) (tNilD))))) (tRetD (tCD (.bl false))) (tNextD)) (tIfSD (tOrD (tTru (tIsi "bool" (tMethD 2 "rank" M_rank (tVarD 12) (tConsD (tVarD 19) (tNilD))))) (tBinT (dEq true) (tMethD 2 "rank" M_rank (tVarD 12) (tConsD (tVarD 19) (tNilD))) (tVarD 13))) (tRetD (tCD (.bl false))) (tNextD))) R D Γ := rfl
def T_law_29 : TSD := tSeqD (tAsgD (tBin dIx (tVarD 3) (tVarD 13)) (gTupD 2 (gConsD (gNameD 19) (gConsD (gNameD 20) (gNilD))))) (T_law_30)
theorem e_T_law_29 (R : ExD) (D : EndsD) (Γ : Gm) : T_law_29 R D Γ = (tSeqD (tAsgD (tBin dIx (tVarD 3) (tVarD 13)) (gTupD 2 (gConsD (gNameD 19) (gConsD (gNameD 20) (gNilD))))) (T_law_30)) R D Γ := rfl
def F_law_28 : TSD := tForD (tRng1 (tCBD dLen (tConsD (tVarD 3) (tNilD)))) (gNameD 13) (T_law_29) [13, 19, 20]
theorem e_F_law_28 (R : ExD) (D : EndsD) (Γ : Gm) : F_law_28 R D Γ = (tForD (tRng1 (tCBD dLen (tConsD (tVarD 3) (tNilD)))) (gNameD 13) (T_law_29) [13, 19, 20]) R D Γ := rfl
def C_law_39 : TOD := tLcD (tItsD (tVarD 4)) (gNameD 18) (tOrD (tBinT (dIn false) (tVarD 18) (tVarD 5)) (tBinT (dEq false) (tVarD 18) (tVarD 17))) (tVarD 18) [18]
theorem e_C_law_39 (R : ExD) (Γ : Gm) (Φ : Cl → Gm → Prop) : C_law_39 R Γ Φ = (tLcD (tItsD (tVarD 4)) (gNameD 18) (tOrD (tBinT (dIn false) (tVarD 18) (tVarD 5)) (tBinT (dEq false) (tVarD 18) (tVarD 17))) (tVarD 18) [18]) R Γ Φ := rfl
def T_law_39 : TSD := tSeqD (tIfSD (tOrD (tBinT (dEq true) (tFldD ["Scene"] "apart" (tVarD 15)) (tCBD dTupleOf (tConsD (tFz (C_law_39)) (tNilD)))) (tBinT (dEq true) (tFldD ["Scene"] "names" (tVarD 15)) (tCBD dTupleOf (tConsD (tVarD 3) (tNilD))))) (tRetD (tCD (.bl false))) (tNextD)) (tIfSD (tBinT (dEq true) (tFldD ["Scene"] "apart" (tMethD 3 "with_apart" M_with_apart (tVarD 15) (tConsD (tBin dIx (tVarD 17) (tCD (.int 0))) (tConsD (tBin dIx (tVarD 17) (tCD (.int 1))) (tNilD))))) (tFldD ["Scene"] "apart" (tVarD 15))) (tRetD (tCD (.bl false))) (tNextD))
theorem e_T_law_39 (R : ExD) (D : EndsD) (Γ : Gm) : T_law_39 R D Γ = (tSeqD (tIfSD (tOrD (tBinT (dEq true) (tFldD ["Scene"] "apart" (tVarD 15)) (tCBD dTupleOf (tConsD (tFz (C_law_39)) (tNilD)))) (tBinT (dEq true) (tFldD ["Scene"] "names" (tVarD 15)) (tCBD dTupleOf (tConsD (tVarD 3) (tNilD))))) (tRetD (tCD (.bl false))) (tNextD)) (tIfSD (tBinT (dEq true) (tFldD ["Scene"] "apart" (tMethD 3 "with_apart" M_with_apart (tVarD 15) (tConsD (tBin dIx (tVarD 17) (tCD (.int 0))) (tConsD (tBin dIx (tVarD 17) (tCD (.int 1))) (tNilD))))) (tFldD ["Scene"] "apart" (tVarD 15))) (tRetD (tCD (.bl false))) (tNextD))) R D Γ := rfl
def T_law_38 : TSD := tSeqD (tSetD 15 (tMethD 3 "with_apart" M_with_apart (tVarD 12) (tConsD (tBin dIx (tVarD 17) (tCD (.int 1))) (tConsD (tBin dIx (tVarD 17) (tCD (.int 0))) (tNilD))))) (T_law_39)
theorem e_T_law_38 (R : ExD) (D : EndsD) (Γ : Gm) : T_law_38 R D Γ = (tSeqD (tSetD 15 (tMethD 3 "with_apart" M_with_apart (tVarD 12) (tConsD (tBin dIx (tVarD 17) (tCD (.int 1))) (tConsD (tBin dIx (tVarD 17) (tCD (.int 0))) (tNilD))))) (T_law_39)) R D Γ := rfl
def T_law_37 : TSD := tSeqD (tSetD 17 (tBin dIx (tVarD 4) (tCallB 2 1 S_law_take (tSlB 1 (tImB (tCBD dLen (tConsD (tVarD 4) (tNilD))) (tNilB)))))) (T_law_38)
theorem e_T_law_37 (R : ExD) (D : EndsD) (Γ : Gm) : T_law_37 R D Γ = (tSeqD (tSetD 17 (tBin dIx (tVarD 4) (tCallB 2 1 S_law_take (tSlB 1 (tImB (tCBD dLen (tConsD (tVarD 4) (tNilD))) (tNilB)))))) (T_law_38)) R D Γ := rfl
def C_law_43 : TOD := tLcD (tItsD (tBin dIx (tVarD 2) (tCD (.int 0)))) (gNameD 18) (tYesD) (tTupD (tConsD (tBin dIx (tVarD 18) (tCD (.int 0))) (tConsD (tBin dIx (tVarD 18) (tCD (.int 1))) (tNilD)))) [18]
theorem e_C_law_43 (R : ExD) (Γ : Gm) (Φ : Cl → Gm → Prop) : C_law_43 R Γ Φ = (tLcD (tItsD (tBin dIx (tVarD 2) (tCD (.int 0)))) (gNameD 18) (tYesD) (tTupD (tConsD (tBin dIx (tVarD 18) (tCD (.int 0))) (tConsD (tBin dIx (tVarD 18) (tCD (.int 1))) (tNilD)))) [18]) R Γ Φ := rfl
def T_law_49 : TSD := tSeqD (tIfSD (tBinT (dEq true) (tFldD ["Scene"] "apart" (tFz (tMakeOK 2 1 "Scene" S_SceneX_initX (tConsD (tVarD 14) (tConsD (tCBD dTupleOf (tConsD (tVarD 3) (tNilD))) (tNilD))) (tConsD (tCBD dTupleOf (tConsD (tVarD 6) (tNilD))) (tNilD))))) (tCBD dTupleOf (tConsD (tVarD 5) (tNilD)))) (tRetD (tCD (.bl false))) (tNextD)) (tRetD (tAndV' (tBin (dEq false) (tCD (.int 5)) (tCD (.int 5))) (tBin (dEq false) (tCBD dLen (tConsD (tFldD ["Book"] "routines" (tFldD ["Scene"] "book" (tVarD 12))) (tNilD))) (tCBD dLen (tConsD (tVarD 10) (tNilD))))))
theorem e_T_law_49 (R : ExD) (D : EndsD) (Γ : Gm) : T_law_49 R D Γ = (tSeqD (tIfSD (tBinT (dEq true) (tFldD ["Scene"] "apart" (tFz (tMakeOK 2 1 "Scene" S_SceneX_initX (tConsD (tVarD 14) (tConsD (tCBD dTupleOf (tConsD (tVarD 3) (tNilD))) (tNilD))) (tConsD (tCBD dTupleOf (tConsD (tVarD 6) (tNilD))) (tNilD))))) (tCBD dTupleOf (tConsD (tVarD 5) (tNilD)))) (tRetD (tCD (.bl false))) (tNextD)) (tRetD (tAndV' (tBin (dEq false) (tCD (.int 5)) (tCD (.int 5))) (tBin (dEq false) (tCBD dLen (tConsD (tFldD ["Book"] "routines" (tFldD ["Scene"] "book" (tVarD 12))) (tNilD))) (tCBD dLen (tConsD (tVarD 10) (tNilD))))))) R D Γ := rfl
def T_law_47 : TSD := tSeqD (tIfSD (tOrD (tBinT (dEq true) (tFldD ["Scene"] "apart" (tFz (tMakeOD 4 "Scene" [.tup []] S_SceneX_initX (tConsD (tVarD 14) (tConsD (tCBD dTupleOf (tConsD (tVarD 3) (tNilD))) (tNilD)))))) (tTupD (tNilD))) (tBinT (dEq true) (tFldD ["Scene"] "apart" (tVarD 12)) (tCBD dTupleOf (tConsD (tVarD 5) (tNilD))))) (tRetD (tCD (.bl false))) (tNextD)) (T_law_49)
theorem e_T_law_47 (R : ExD) (D : EndsD) (Γ : Gm) : T_law_47 R D Γ = (tSeqD (tIfSD (tOrD (tBinT (dEq true) (tFldD ["Scene"] "apart" (tFz (tMakeOD 4 "Scene" [.tup []] S_SceneX_initX (tConsD (tVarD 14) (tConsD (tCBD dTupleOf (tConsD (tVarD 3) (tNilD))) (tNilD)))))) (tTupD (tNilD))) (tBinT (dEq true) (tFldD ["Scene"] "apart" (tVarD 12)) (tCBD dTupleOf (tConsD (tVarD 5) (tNilD))))) (tRetD (tCD (.bl false))) (tNextD)) (T_law_49)) R D Γ := rfl
def T_law_45 : TSD := tSeqD (tIfSD (tOrD (tBinT (dEq true) (tFldD ["Scene"] "names" (tVarD 15)) (tCBD dTupleOf (tConsD (tVarD 3) (tNilD)))) (tOrD (tBinT (dEq true) (tFldD ["Scene"] "apart" (tVarD 15)) (tCBD dTupleOf (tConsD (tVarD 5) (tNilD)))) (tBinT (dEq true) (tFldD ["Book"] "routines" (tFldD ["Scene"] "book" (tVarD 15))) (tTupD (tNilD))))) (tRetD (tCD (.bl false))) (tNextD)) (T_law_47)
theorem e_T_law_45 (R : ExD) (D : EndsD) (Γ : Gm) : T_law_45 R D Γ = (tSeqD (tIfSD (tOrD (tBinT (dEq true) (tFldD ["Scene"] "names" (tVarD 15)) (tCBD dTupleOf (tConsD (tVarD 3) (tNilD)))) (tOrD (tBinT (dEq true) (tFldD ["Scene"] "apart" (tVarD 15)) (tCBD dTupleOf (tConsD (tVarD 5) (tNilD)))) (tBinT (dEq true) (tFldD ["Book"] "routines" (tFldD ["Scene"] "book" (tVarD 15))) (tTupD (tNilD))))) (tRetD (tCD (.bl false))) (tNextD)) (T_law_47)) R D Γ := rfl
def T_law_44 : TSD := tSeqD (tSetD 15 (tMethD 2 "with_book" M_with_book (tVarD 12) (tConsD (tVarD 14) (tNilD)))) (T_law_45)
theorem e_T_law_44 (R : ExD) (D : EndsD) (Γ : Gm) : T_law_44 R D Γ = (tSeqD (tSetD 15 (tMethD 2 "with_book" M_with_book (tVarD 12) (tConsD (tVarD 14) (tNilD)))) (T_law_45)) R D Γ := rfl
def T_law_43 : TSD := tSeqD (tSetD 14 (tFz (tMakeOD 3 "Book" [.tup []] S_BookX_initX (tConsD (tFz (C_law_43)) (tNilD))))) (T_law_44)
theorem e_T_law_43 (R : ExD) (D : EndsD) (Γ : Gm) : T_law_43 R D Γ = (tSeqD (tSetD 14 (tFz (tMakeOD 3 "Book" [.tup []] S_BookX_initX (tConsD (tFz (C_law_43)) (tNilD))))) (T_law_44)) R D Γ := rfl
def Z_law_36 : TSD := tDull [15, 17] (T_law_43)
theorem e_Z_law_36 (R : ExD) (D : EndsD) (Γ : Gm) : Z_law_36 R D Γ = (tDull [15, 17] (T_law_43)) R D Γ := rfl
def T_law_36 : TSD := tSeqD (tIfSD (tBinT (dB fun i j => decide (j < i)) (tCBD dLen (tConsD (tVarD 4) (tNilD))) (tCD (.int 0))) (T_law_37) (tNextD)) (Z_law_36)
theorem e_T_law_36 (R : ExD) (D : EndsD) (Γ : Gm) : T_law_36 R D Γ = (tSeqD (tIfSD (tBinT (dB fun i j => decide (j < i)) (tCBD dLen (tConsD (tVarD 4) (tNilD))) (tCD (.int 0))) (T_law_37) (tNextD)) (Z_law_36)) R D Γ := rfl
def T_law_34 : TSD := tSeqD (tIfSD (tOrD (tNotD (tTru (tCallD 2 S_law_refused (tConsD (tVarD 12) (tConsD (tCD (.int 0)) (tNilD)))))) (tOrD (tNotD (tTru (tCallD 2 S_law_refused (tConsD (tVarD 12) (tConsD (tCD (.int 1)) (tNilD)))))) (tNotD (tTru (tCallD 2 S_law_refused (tConsD (tVarD 12) (tConsD (tCD (.int 2)) (tNilD)))))))) (tRetD (tCD (.bl false))) (tNextD)) (T_law_36)
theorem e_T_law_34 (R : ExD) (D : EndsD) (Γ : Gm) : T_law_34 R D Γ = (tSeqD (tIfSD (tOrD (tNotD (tTru (tCallD 2 S_law_refused (tConsD (tVarD 12) (tConsD (tCD (.int 0)) (tNilD)))))) (tOrD (tNotD (tTru (tCallD 2 S_law_refused (tConsD (tVarD 12) (tConsD (tCD (.int 1)) (tNilD)))))) (tNotD (tTru (tCallD 2 S_law_refused (tConsD (tVarD 12) (tConsD (tCD (.int 2)) (tNilD)))))))) (tRetD (tCD (.bl false))) (tNextD)) (T_law_36)) R D Γ := rfl
def T_law_28 : TSD := tSeqD (F_law_28) (T_law_34)
theorem e_T_law_28 (R : ExD) (D : EndsD) (Γ : Gm) : T_law_28 R D Γ = (tSeqD (F_law_28) (T_law_34)) R D Γ := rfl
def T_law_26 : TSD := tSeqD (tIfSD (tOrD (tBinT (dEq true) (tFldD ["Scene"] "apart" (tVarD 12)) (tCBD dTupleOf (tConsD (tVarD 5) (tNilD)))) (tBinT (dEq true) (tMethD 1 "written" M_written (tFldD ["Scene"] "book" (tVarD 12)) tNilD) (tMethD 1 "written" M_written (tVarD 11) tNilD))) (tRetD (tCD (.bl false))) (tNextD)) (T_law_28)
theorem e_T_law_26 (R : ExD) (D : EndsD) (Γ : Gm) : T_law_26 R D Γ = (tSeqD (tIfSD (tOrD (tBinT (dEq true) (tFldD ["Scene"] "apart" (tVarD 12)) (tCBD dTupleOf (tConsD (tVarD 5) (tNilD)))) (tBinT (dEq true) (tMethD 1 "written" M_written (tFldD ["Scene"] "book" (tVarD 12)) tNilD) (tMethD 1 "written" M_written (tVarD 11) tNilD))) (tRetD (tCD (.bl false))) (tNextD)) (T_law_28)) R D Γ := rfl
def T_law_24 : TSD := tSeqD (tIfSD (tOrD (tBinT (dEq true) (tFldD ["Scene"] "names" (tVarD 12)) (tCBD dTupleOf (tConsD (tVarD 3) (tNilD)))) (tBinT (dEq true) (tPropD M_order (tVarD 12)) (tCBD dTupleOf (tConsD (tFz (C_law_24)) (tNilD))))) (tRetD (tCD (.bl false))) (tNextD)) (T_law_26)
theorem e_T_law_24 (R : ExD) (D : EndsD) (Γ : Gm) : T_law_24 R D Γ = (tSeqD (tIfSD (tOrD (tBinT (dEq true) (tFldD ["Scene"] "names" (tVarD 12)) (tCBD dTupleOf (tConsD (tVarD 3) (tNilD)))) (tBinT (dEq true) (tPropD M_order (tVarD 12)) (tCBD dTupleOf (tConsD (tFz (C_law_24)) (tNilD))))) (tRetD (tCD (.bl false))) (tNextD)) (T_law_26)) R D Γ := rfl
def T_law_23 : TSD := tSeqD (tDropD (tWIns (tBin dIx (tVarD 9) (tCD (.int 1))) (tCD (.int 0)) (tTupD (tConsD (tBin dIx (tBin dIx (tVarD 3) (tCD (.int 0))) (tCD (.int 0))) (tConsD (tBin dIx (tBin dIx (tVarD 3) (tUnD dNeg (tCD (.int 1)))) (tCD (.int 0))) (tNilD)))))) (T_law_24)
theorem e_T_law_23 (R : ExD) (D : EndsD) (Γ : Gm) : T_law_23 R D Γ = (tSeqD (tDropD (tWIns (tBin dIx (tVarD 9) (tCD (.int 1))) (tCD (.int 0)) (tTupD (tConsD (tBin dIx (tBin dIx (tVarD 3) (tCD (.int 0))) (tCD (.int 0))) (tConsD (tBin dIx (tBin dIx (tVarD 3) (tUnD dNeg (tCD (.int 1)))) (tCD (.int 0))) (tNilD)))))) (T_law_24)) R D Γ := rfl
def T_law_22 : TSD := tSeqD (tDropD (tWApp (tBin dIx (tVarD 9) (tCD (.int 0))) (tTupD (tConsD (tCD (.str "zz")) (tConsD (tBin dIx (tBin dIx (tVarD 3) (tCD (.int 0))) (tCD (.int 1))) (tNilD)))))) (T_law_23)
theorem e_T_law_22 (R : ExD) (D : EndsD) (Γ : Gm) : T_law_22 R D Γ = (tSeqD (tDropD (tWApp (tBin dIx (tVarD 9) (tCD (.int 0))) (tTupD (tConsD (tCD (.str "zz")) (tConsD (tBin dIx (tBin dIx (tVarD 3) (tCD (.int 0))) (tCD (.int 1))) (tNilD)))))) (T_law_23)) R D Γ := rfl
def T_law_21 : TSD := tSeqD (tSetD 12 (tVw (tFz (tMakeOK 2 1 "Scene" S_SceneX_initX (tConsD (tVarD 11) (tConsD (tBin dIx (tVarD 9) (tCD (.int 0))) (tNilD))) (tConsD (tBin dIx (tVarD 9) (tCD (.int 1))) (tNilD)))))) (T_law_22)
theorem e_T_law_21 (R : ExD) (D : EndsD) (Γ : Gm) : T_law_21 R D Γ = (tSeqD (tSetD 12 (tVw (tFz (tMakeOK 2 1 "Scene" S_SceneX_initX (tConsD (tVarD 11) (tConsD (tBin dIx (tVarD 9) (tCD (.int 0))) (tNilD))) (tConsD (tBin dIx (tVarD 9) (tCD (.int 1))) (tNilD)))))) (T_law_22)) R D Γ := rfl
def T_law_20 : TSD := tSeqD (tSetD 11 (tFz (tMakeO 3 "Book" S_BookX_initX (tConsD (tFz (C_law_20)) (tConsD (tVarD 10) (tNilD)))))) (T_law_21)
theorem e_T_law_20 (R : ExD) (D : EndsD) (Γ : Gm) : T_law_20 R D Γ = (tSeqD (tSetD 11 (tFz (tMakeO 3 "Book" S_BookX_initX (tConsD (tFz (C_law_20)) (tConsD (tVarD 10) (tNilD)))))) (T_law_21)) R D Γ := rfl
def T_law_19 : TSD := tSeqD (tSetD 10 (tFz (C_law_19))) (T_law_20)
theorem e_T_law_19 (R : ExD) (D : EndsD) (Γ : Gm) : T_law_19 R D Γ = (tSeqD (tSetD 10 (tFz (C_law_19))) (T_law_20)) R D Γ := rfl
def T_law_18 : TSD := tSeqD (tSetD 9 (tFz (tLstO (tConsD (tWld (tListO (tVarD 3))) (tConsD (tWld (tAddO (tVarD 6) (tSlD (tVarD 6) (tNoPartD) (tPartD (tCallB 2 1 S_law_take (tSlB 1 (tImB (tCD (.int 3)) (tNilB)))))))) (tNilD)))))) (T_law_19)
theorem e_T_law_18 (R : ExD) (D : EndsD) (Γ : Gm) : T_law_18 R D Γ = (tSeqD (tSetD 9 (tFz (tLstO (tConsD (tWld (tListO (tVarD 3))) (tConsD (tWld (tAddO (tVarD 6) (tSlD (tVarD 6) (tNoPartD) (tPartD (tCallB 2 1 S_law_take (tSlB 1 (tImB (tCD (.int 3)) (tNilB)))))))) (tNilD)))))) (T_law_19)) R D Γ := rfl
def T_law_17 : TSD := tSeqD (tSetD 6 (tBin dAdd (tSlD (tVarD 6) (tPartD (tVarD 8)) (tNoPartD)) (tSlD (tVarD 6) (tNoPartD) (tPartD (tVarD 8))))) (T_law_18)
theorem e_T_law_17 (R : ExD) (D : EndsD) (Γ : Gm) : T_law_17 R D Γ = (tSeqD (tSetD 6 (tBin dAdd (tSlD (tVarD 6) (tPartD (tVarD 8)) (tNoPartD)) (tSlD (tVarD 6) (tNoPartD) (tPartD (tVarD 8))))) (T_law_18)) R D Γ := rfl
def T_law_16 : TSD := tSeqD (tSetD 8 (tCallB 2 1 S_law_take (tSlB 1 (tImB (tBin dAdd (tCBD dLen (tConsD (tVarD 6) (tNilD))) (tCD (.int 1))) (tNilB))))) (T_law_17)
theorem e_T_law_16 (R : ExD) (D : EndsD) (Γ : Gm) : T_law_16 R D Γ = (tSeqD (tSetD 8 (tCallB 2 1 S_law_take (tSlB 1 (tImB (tBin dAdd (tCBD dLen (tConsD (tVarD 6) (tNilD))) (tCD (.int 1))) (tNilB))))) (T_law_17)) R D Γ := rfl
def Z_law_7 : TSD := tFrz 4 (T_law_16)
theorem e_Z_law_7 (R : ExD) (D : EndsD) (Γ : Gm) : Z_law_7 R D Γ = (tFrz 4 (T_law_16)) R D Γ := rfl
def Z_law_7_2 : TSD := tFrz 5 (Z_law_7)
theorem e_Z_law_7_2 (R : ExD) (D : EndsD) (Γ : Gm) : Z_law_7_2 R D Γ = (tFrz 5 (Z_law_7)) R D Γ := rfl
def Z_law_7_3 : TSD := tFrz 6 (Z_law_7_2)
theorem e_Z_law_7_3 (R : ExD) (D : EndsD) (Γ : Gm) : Z_law_7_3 R D Γ = (tFrz 6 (Z_law_7_2)) R D Γ := rfl
def T_law_7 : TSD := tSeqD (F_law_7) (Z_law_7_3)
theorem e_T_law_7 (R : ExD) (D : EndsD) (Γ : Gm) : T_law_7 R D Γ = (tSeqD (F_law_7) (Z_law_7_3)) R D Γ := rfl
def T_law_6 : TSD := tSeqD (tSetO 6 (tLstO (tNilD))) (T_law_7)
theorem e_T_law_6 (R : ExD) (D : EndsD) (Γ : Gm) : T_law_6 R D Γ = (tSeqD (tSetO 6 (tLstO (tNilD))) (T_law_7)) R D Γ := rfl
def T_law_5 : TSD := tSeqD (tSetO 5 (tLstO (tNilD))) (T_law_6)
theorem e_T_law_5 (R : ExD) (D : EndsD) (Γ : Gm) : T_law_5 R D Γ = (tSeqD (tSetO 5 (tLstO (tNilD))) (T_law_6)) R D Γ := rfl
def T_law_4 : TSD := tSeqD (tSetO 4 (tLstO (tNilD))) (T_law_5)
theorem e_T_law_4 (R : ExD) (D : EndsD) (Γ : Gm) : T_law_4 R D Γ = (tSeqD (tSetO 4 (tLstO (tNilD))) (T_law_5)) R D Γ := rfl
def T_law_3 : TSD := tSeqD (tSetD 3 (tBin dIx (tVarD 2) (tCD (.int 1)))) (T_law_4)
theorem e_T_law_3 (R : ExD) (D : EndsD) (Γ : Gm) : T_law_3 R D Γ = (tSeqD (tSetD 3 (tBin dIx (tVarD 2) (tCD (.int 1)))) (T_law_4)) R D Γ := rfl
def T_law_2 : TSD := tSeqD (tSetD 2 (tCallB 1 1 S_law_world (tSlB 1 (tNilB)))) (T_law_3)
theorem e_T_law_2 (R : ExD) (D : EndsD) (Γ : Gm) : T_law_2 R D Γ = (tSeqD (tSetD 2 (tCallB 1 1 S_law_world (tSlB 1 (tNilB)))) (T_law_3)) R D Γ := rfl
def T_law : TSD := tSeqD (tSetO 1 (tCallO 1 S_law_draws (tConsD (tVarD 0) (tNilD)))) (T_law_2)
theorem e_T_law (R : ExD) (D : EndsD) (Γ : Gm) : T_law R D Γ = (tSeqD (tSetO 1 (tCallO 1 S_law_draws (tConsD (tVarD 0) (tNilD)))) (T_law_2)) R D Γ := rfl
def S_law : SpD := bodySp 22 none T_law
end Vl

namespace Vl
open PySem PySem.Spec PyProof.Rows L2
/-! ### the drawn numbers -/
abbrev Cn (ns : List Int) : Cl := .lst (ns.map .int)
theorem take_ok {ns : List Int} {m : Int} {Φ : RD → Option Cl → Prop} {R : Str → Option (List (Str × D)) → Option Cl → Prop} (hm : 0 < m) (h : ∀ (r : Int) ns', 0 ≤ r → r < m → Φ (.im (.int r)) (some (Cn ns'))) :
    S_law_take [.ow (Cn ns), .im (.int m)] Φ R := by
  refine s_body (Γ := ⟨[.ow _, .im _], [], []⟩) rfl rfl rfl rfl ?_
  simp only [e_T_law_take, st, rd, dv, rx, gx, D.dt, Bool.and_self, true_and, D.eqv, Bool.false_eq_true, if_false]
  refine ifK_i (fun e => ?_) fun e => ?_
  · simp only [st, rd]
    exact h 0 ns (Int.le_refl _) hm
  · simp only [st]
    cases ns with
    | nil => simp at e
    | cons n ns =>
      simp only [rd, dv, gx, tPopAt, D.asInt]
      refine ⟨0, .int n, by decide, by decide, ?_, rfl, ?_⟩
      · simp [seqIndex?]
      · simp only [dv, gx]
        exact ⟨hm, h _ ns (Int.emod_nonneg _ (by omega)) (Int.emod_lt_of_pos _ hm)⟩
abbrev Rr := Str → Option (List (Str × D)) → Option Cl → Prop
theorem draws_ok {ms : List Int} {Φ : RD → Option Cl → Prop} {R : Rr} (h : ∀ ns, Φ (.fr (Cn ns)) none) : S_law_draws [.im (.ro (ms.map .int))] Φ R := by
  refine s_body (Γ := ⟨[.im _, .un, .un, .un, .un], [], []⟩) rfl rfl rfl rfl ?_
  simp only [e_T_law_draws, e_T_law_draws_2, e_F_law_draws_2, st, rd, gx, dv, ri]
  refine ⟨Nat.zero_le _, ?_⟩
  have hn : 0 ≤ (if (63 : Int) < ((ms.map D.int).length : Int) then 63 else ((ms.map D.int).length : Int)) ∧ (if (63 : Int) < ((ms.map D.int).length : Int) then 63 else ((ms.map D.int).length : Int)) ≤ 63 ∧ (if (63 : Int) < ((ms.map D.int).length : Int) then 63 else ((ms.map D.int).length : Int)) ≤ ((ms.map D.int).length : Int) := by
    split <;> omega
  generalize (if (63 : Int) < ((ms.map D.int).length : Int) then 63 else ((ms.map D.int).length : Int)) = N at hn ⊢
  refine ⟨by omega, by omega, ?_⟩
  rw [rangeDs_map]
  refine for_inv (f := fun (i : Nat) => D.int (0 + (i : Int))) (fun (ns : List Int) => ⟨[.im (.ro (ms.map .int)), .ow (Cn ns), .un, .un, .un], [], []⟩) (fun rest ns => (∀ i ∈ rest, i < ms.length ∧ i < 63) ∧ ns.length + 60 * rest.length ≤ 4000) ?_ ?_ (List.range N.toNat) ([] : List Int) ⟨fun i hi => ?_, by simp; omega⟩
  · rintro i is ns ⟨hi, hl⟩ K bk hK
    obtain ⟨hi3, hi4⟩ := hi i List.mem_cons_self
    have hl2 : ns.length + 60 * (is.length + 1) ≤ 4000 := hl
    have hi2 : i < (ms.map D.int).length := by rw [List.length_map]; exact hi3
    have ka : L2.atI (ms.map D.int) (0 + (i : Int)) = some (.int ms[i]) := by
      rw [Int.zero_add, atI_nat hi2, List.getElem?_map, List.getElem?_eq_getElem hi3]
      rfl
    simp only [ri, e_T_law_draws_3, e_T_law_draws_4, st, rd, gx, ix, ka, Option.some.injEq, exists_eq_left', dv]
    have ha : 0 ≤ (if ms[i] < 0 then -ms[i] else ms[i]) := by split <;> omega
    generalize (if ms[i] < 0 then -ms[i] else ms[i]) = A at ha ⊢
    refine ⟨⟨by decide, by decide, by decide⟩, ?_⟩
    have fin : ∀ (A : Int), F_law_draws_7 (fun c pl Γ => R c pl (bcOf none Γ)) ⟨K, fun r Γ => r.nwp fun r => Φ r (bcOf none Γ), bk, K⟩ ⟨[.im (.ro (ms.map .int)), .ow (Cn ns), .im (.int (0 + (i : Int))), .im (.int A), .un], [], []⟩ := by
      intro A
      simp only [e_F_law_draws_7, st, rd, gx, ri]
      refine ⟨by decide, by decide, ?_⟩
      rw [rangeDs_map]
      refine for_inv (f := fun (i : Nat) => D.int (0 + (i : Int))) (fun (a : List Int × Int) => ⟨[.im (.ro (ms.map .int)), .ow (Cn a.1), .im (.int (0 + (i : Int))), .im (.int a.2), .un], [], []⟩) (fun rest a => a.1.length + rest.length ≤ ns.length + 60) ?_ ?_ (List.range 60) (ns, A) (by simp)
      · rintro j js ⟨ns', A⟩ hl3 K2 bk2 hK2
        have hl4 : ns'.length + (js.length + 1) ≤ ns.length + 60 := hl3
        simp only [ri, e_L_law_draws_7, st, rd, dv, gx]
        have fin : ∀ b, T_law_draws_9 (fun c pl Γ => R c pl (bcOf none Γ)) ⟨K2, fun r Γ => r.nwp fun r => Φ r (bcOf none Γ), bk2, K2⟩ ⟨[.im (.ro (ms.map .int)), .ow (Cn ns'), .im (.int (0 + (i : Int))), .im (.int A), b], [], []⟩ := by
          intro b
          simp only [e_T_law_draws_9, st, rd, dv, gx, rx]
          refine ⟨by decide, Nat.lt_of_lt_of_le (m := 10001) (by rw [List.length_map]; omega) (by decide), ⟨by decide, by decide⟩, ?_⟩
          refine hK2 (ns' ++ [A % 1000], A / 1000) _ (by simp; omega) ?_
          simp [Cn, gx]
        refine orK_i (fun _ => ?_) fun _ => ?_
        · simp only [kb]
          exact fin _
        simp only [rd, dv, gx, D.dt, Bool.and_self, true_and]
        refine ifK_i (fun _ => fin _) fun _ => ?_
        simp only [st, gx]
        exact hK2 (ns', A) _ (by show ns'.length + js.length ≤ _; omega) (by simp only [gx])
      · rintro ⟨ns', A'⟩ q
        have q2 : ns'.length ≤ ns.length + 60 := q
        simp only [gx]
        exact hK ns' _ ⟨fun j hj => hi j (List.mem_cons_of_mem _ hj), by omega⟩ (by simp only [gx])
    refine ifK_i (fun hb => ?_) fun _ => by simpa only [st] using fin A
    have hA : A < 10 ^ 18 := of_decide_eq_true hb
    simp only [e_T_law_draws_5, st, rd, gx, ix, ka, Option.some.injEq, exists_eq_left', dv]
    have hb2 : 0 ≤ (if decide (ms[i] < 0) = true then (1 : Int) else 0) ∧ (if decide (ms[i] < 0) = true then (1 : Int) else 0) ≤ 1 := by split <;> omega
    generalize (if decide (ms[i] < 0) = true then (1 : Int) else 0) = B at hb2 ⊢
    refine ⟨.inl ⟨by decide, by decide⟩, .inl ⟨by decide, by decide⟩, .inl ⟨by omega, by omega⟩, by decide, ?_⟩
    have hm := Int.emod_nonneg ((2 * A + B) * (48271 + 2 * (0 + (i : Int)))) (b := 2147483647) (by decide)
    have hm2 := Int.emod_lt_of_pos ((2 * A + B) * (48271 + 2 * (0 + (i : Int)))) (b := 2147483647) (by decide)
    generalize (2 * A + B) * (48271 + 2 * (0 + (i : Int))) % 2147483647 = C at hm hm2 ⊢
    exact ⟨.inl ⟨by omega, by omega⟩, by decide, fin _⟩
  · rintro ns _
    exact h ns
  · have := List.mem_range.mp hi
    rw [List.length_map] at hn
    omega
end Vl

namespace Vl
open PySem PySem.Spec PyProof.Rows L2
/-! ### words -/
abbrev Lt : Str := "abcdefghijklmnopqrstuvwxyz"
abbrev Sg : Str := "abcdefghijklmnopqrstuvwxyz0123456789"
def inS (z : Str) (c : Nat) : Bool := decide (c ∈ z.cps.toList)
def isWL (z : List Nat) : Bool := decide (1 ≤ z.length) && decide (z.length ≤ 8) && (match z with
  | [] => false
  | c :: _ => inS Lt c) && z.all (inS Sg)
def isWS (z : Str) : Bool := isWL z.cps.toList
def isW : D → Bool
  | .str z => isWS z
  | _ => false
/-- what is_word takes -/
def WV (d : D) : Prop := (∃ n, d.tyn = some n ∧ n ≠ "str") ∨ ∃ z : Str, d = .str z ∧ z.length ≤ sizeLine
theorem isWL_head {z : List Nat} (h : 0 < z.length) : ∃ c, z[0]? = some c ∧ isWL z = (decide (1 ≤ z.length) && decide (z.length ≤ 8) && inS Lt c && z.all (inS Sg)) := by
  cases z with
  | nil => cases h
  | cons c z => exact ⟨c, rfl, rfl⟩
theorem isW_ty {d : D} {n : String} (hn : d.tyn = some n) (hs : n ≠ "str") : isW d = false := by
  cases d with
  | str z => cases hn; exact (hs rfl).elim
  | _ => rfl
theorem strDs_map (z : Str) : strDs z = z.cps.toList.map fun c => D.str ⟨#[c]⟩ := rfl
theorem is_word_ok {d : D} {Φ : RD → Option Cl → Prop} {R : Rr} (hd : WV d) (h : Φ (.im (.bl (isW d))) none) : S_is_word [.im d] Φ R := by
  refine s_body (Γ := ⟨[.im _, .un], [], []⟩) rfl rfl rfl rfl ?_
  simp only [e_T_is_word, st, rd, gx, dIsi]
  rcases hd with ⟨n, hn, hs⟩ | ⟨z, rfl, hz⟩
  · have e : (n == "str" || (n == "bool" && "str" == "int")) = false := by simp [hs]
    rw [isW_ty hn hs] at h
    simp only [hn, dk, e, Bool.not_false, kb, st, rd]
    exact h
  · simp only [D.tyn, dk]
    refine ifK_i (fun e => by cases e) fun _ => ?_
    simp only [e_T_is_word_3, st, rd, gx, dv, hz, true_and]
    have l1 : z.cps.toList.length = z.length := rfl
    refine orK_v (decide (8 < (z.length : Int))) (fun _ Ψ q => ?_) (ifK_i (fun e => ?_) fun e => ?_)
    · simp only [rd, gx, dv, hz, true_and]
      exact q
    · have : isW (.str z) = false := by
        simp only [isW, isWS, isWL, l1]
        simp at e ⊢
        omega
      rw [this] at h
      exact h
    · have g : 1 ≤ z.length ∧ z.length ≤ 8 := by simp at e; omega
      obtain ⟨c, hc, hw⟩ := isWL_head (z := z.cps.toList) (by rw [l1]; omega)
      simp only [st, e_T_is_word_5, rd, gx, ix]
      refine ⟨hz, atI_s (by decide) (by rw [l1]; omega) fun c' hc' => ?_⟩
      cases hc.symm.trans hc'
      rw [dNin1]
      refine ifK_i (fun e3 => ?_) fun e3 => ?_
      · have : isW (.str z) = false := by
          show isWL z.cps.toList = false
          rw [hw]
          have : inS Lt c = false := by simpa [inS] using e3
          rw [this]
          simp
        rw [this] at h
        exact h
      · simp only [st, e_T_is_word_7, e_F_is_word_7, rd, gx, ri, dk]
        have e4 : inS Lt c = true := by simpa [inS] using e3
        rw [strDs_map]
        have hw2 : isW (.str z) = z.cps.toList.all (inS Sg) := by
          show isWL z.cps.toList = _
          rw [hw, e4, l1]
          simp [g]
        rw [hw2] at h
        refine for_all (f := fun c => D.str ⟨#[c]⟩) (inS Sg) (Φ (.im (.bl false)) none) z.cps.toList (fun x hx K bk k1 k2 => ?_) (fun e => e ▸ h) fun e => e ▸ h
        simp only [ri, e_L_is_word_7, st, rd, gx]
        rw [dNin1]
        refine ifK_i (fun e5 => ?_) fun e5 => ?_
        · exact k1 (by simpa [inS] using e5)
        · exact k2 (by simpa [inS] using e5) _ (by simp only [gx])
/-- .. of all that d runs over -/
theorem are_words_ok {d : D} {ds : List D} {Φ : RD → Option Cl → Prop} {R : Rr} (hits : d = .tup ds ∨ d = .lst ds) (hd : ∀ x ∈ ds, WV x) (h : Φ (.im (.bl (ds.all isW))) none) : S_are_words [.im d] Φ R := by
  refine s_body (Γ := ⟨[.im _, .un], [], []⟩) rfl rfl rfl rfl ?_
  have e0 : ∀ k : List D → Prop, d.its k = k ds := by rcases hits with rfl | rfl <;> intro k <;> rfl
  simp only [e_T_are_words, e_F_are_words_1, st, rd, gx, ri, e0]
  have key := for_all (R := fun c pl Γ => R c pl (bcOf none Γ)) (g := gNameD 1) (tb := L_are_words_1) (rt := fun r Γ => r.nwp fun r => Φ r (bcOf none Γ)) (nx := fun Γ => (RD.im (.bl true)).nwp fun r => Φ r (bcOf none Γ)) (vs := [1]) (Γ := ⟨[.im d, .un], [], []⟩) (f := fun d : D => d) isW (Φ (.im (.bl false)) none) ds (fun x hx K bk k1 k2 => ?_) (fun e => e ▸ h) fun e => e ▸ h
  · rwa [List.map_id'] at key
  simp only [ri, e_L_are_words_1, st, rd, gx, rx]
  refine ⟨rfl, is_word_ok (hd x hx) ?_⟩
  simp only [dk]
  refine ifK_i (fun e5 => ?_) fun e5 => ?_
  · exact k1 (by simpa using e5)
  · exact k2 (by simpa using e5) _ (by simp only [gx])
/-! ### sorts -/
def isS : D → Bool
  | .tup ds => decide (ds.length = 2) && ds.all isW
  | _ => false
def SV (d : D) : Prop := (∃ n, d.tyn = some n ∧ n ≠ "tuple") ∨ ∃ ds, d = .tup ds ∧ ∀ x ∈ ds, WV x
theorem isS_ty {d : D} {n : String} (hn : d.tyn = some n) (hs : n ≠ "tuple") : isS d = false := by
  cases d with
  | tup z => cases hn; exact (hs rfl).elim
  | _ => rfl
theorem is_sort_ok {d : D} {Φ : RD → Option Cl → Prop} {R : Rr} (hd : SV d) (h : Φ (.im (.bl (isS d))) none) : S_is_sort [.im d] Φ R := by
  refine s_body (Γ := ⟨[.im _], [], []⟩) rfl rfl rfl rfl ?_
  simp only [e_T_is_sort, st, rd, gx, dIsi]
  rcases hd with ⟨n, hn, hs⟩ | ⟨ds, rfl, hz⟩
  · have e : (n == "tuple" || (n == "bool" && "tuple" == "int")) = false := by simp [hs]
    rw [isS_ty hn hs] at h
    simp only [hn, e, dk, kb]
    exact h
  · simp only [D.tyn, dk]
    rw [show (("tuple" == "tuple" || ("tuple" == "bool" && "tuple" == "int")) : Bool) = true from rfl]
    simp only [kb, rd, gx, dv, D.dt, Bool.and_self, true_and, dk]
    refine andE_v (ds.all isW) (fun e Ψ q => ?_) ?_
    · simp only [rx, rd, gx]
      exact ⟨rfl, are_words_ok (.inl rfl) hz q⟩
    · have : isS (.tup ds) = (D.eqv (.int ds.length) (.int 2) && ds.all isW) := by
        simp only [isS, D.eqv]
        congr 1
        by_cases q : ds.length = 2
        · simp [q]
        · have : ¬ ((ds.length : Int) = 2) := by omega
          simp [q, this]
      rw [this] at h
      simpa using h
end Vl

namespace Vl
open PySem PySem.Spec PyProof.Rows L2
def Sq (d : D) (ds : List D) : Prop := d = .tup ds ∨ d = .lst ds
theorem Sq.len {d : D} {ds : List D} (h : Sq d ds) {k : D → Prop} : dLen [d] k = k (.int ds.length) := by rcases h with rfl | rfl <;> rfl
theorem Sq.tup {d : D} {ds : List D} (h : Sq d ds) {k : D → Prop} : dTupleOf [d] k = k (.tup ds) := by rcases h with rfl | rfl <;> rfl
theorem Sq.its {d : D} {ds : List D} (h : Sq d ds) {k : List D → Prop} : d.its k = k ds := by rcases h with rfl | rfl <;> rfl
/-- the parts of a signature -/
structure Sig where
  ts : List Str
  ss : List Bool
  ws : List Pr
deriving DecidableEq
def isP (p : Pr) : Bool := isWS p.1 && isWS p.2
def sgFs (g : Sig) : List (Str × D) := [("takes", .tup (g.ts.map .str)), ("shares", .tup (g.ss.map .bl)), ("writes", .tup (g.ws.map eP))]
def sgD (g : Sig) : D := .obj "Signature" (sgFs g)
structure Sig.Ok (g : Sig) : Prop where
  t3 : g.ts.length ≤ 3
  tw : ∀ t ∈ g.ts, isWS t = true
  sl : g.ss.length = g.ts.length
  ww : ∀ p ∈ g.ws, isP p = true
  wl : g.ws.length < 64
theorem isWS_len {z : Str} (h : isWS z = true) : 1 ≤ z.length ∧ z.length ≤ 8 := by
  have l1 : z.cps.toList.length = z.length := rfl
  simp only [isWS, isWL, Bool.and_eq_true, decide_eq_true_eq, l1] at h
  exact ⟨h.1.1.1, h.1.1.2⟩
theorem isWS_wv {z : Str} (h : isWS z = true) : WV (.str z) := .inr ⟨z, rfl, small (by have := isWS_len h; omega)⟩
theorem isP_sv {p : Pr} (h : isP p = true) : SV (eP p) := by
  have h2 : isWS p.1 = true ∧ isWS p.2 = true := by simpa [isP] using h
  refine .inr ⟨_, rfl, fun x hx => ?_⟩
  simp only [List.mem_cons, List.not_mem_nil, or_false] at hx
  rcases hx with rfl | rfl
  · exact isWS_wv h2.1
  · exact isWS_wv h2.2
theorem isP_s {p : Pr} (h : isP p = true) : isS (eP p) = true := by
  have h2 : isWS p.1 = true ∧ isWS p.2 = true := by simpa [isP] using h
  simp [isS, eP, isW, h2]
def Sig.srt (g : Sig) : Sig := ⟨g.ts, g.ss, srtP g.ws⟩
theorem init_ok {g : Sig} {dt ds dw : D} {Φ : RD → Option Cl → Prop} {R : Rr} (ok : g.Ok) (h1 : Sq dt (g.ts.map .str)) (h2 : Sq ds (g.ss.map .bl)) (h3 : Sq dw (g.ws.map eP)) (h : Φ (.im .non) (some (.ins "Signature" (sgFs g.srt)))) :
    S_SignatureX_initX [.ow (.ins "Signature" []), .im dt, .im ds, .im dw] Φ R := by
  refine s_body (Γ := ⟨[.ow _, .im _, .im _, .im _, .un, .un], [], []⟩) rfl rfl rfl rfl ?_
  simp only [e_T_SignatureX_initX, e_T_SignatureX_initX_3, st, rd, gx, rx, h1.len, dv]
  have l1 : ¬ (3 : Int) < ((g.ts.map D.str).length : Int) := by have := ok.t3; rw [List.length_map]; omega
  have aw : (g.ts.map D.str).all isW = true := List.all_eq_true.mpr fun d hd => by
    obtain ⟨t, ht, rfl⟩ := List.mem_map.mp hd
    exact ok.tw t ht
  simp only [l1, decide_false, kb, st, rd, gx, rx]
  refine ⟨rfl, are_words_ok h1 (fun d hd => ?_) ?_⟩
  · obtain ⟨t, ht, rfl⟩ := List.mem_map.mp hd
    exact isWS_wv (ok.tw t ht)
  have e3 : D.eqv (.int (g.ss.map D.bl).length) (.int (g.ts.map D.str).length) = true := by
    simp [D.eqv, ok.sl]
  simp only [dk, aw, Bool.not_true, kb, e_T_SignatureX_initX_3, st, rd, gx, h1.len, h2.len, dv, D.dt, Bool.and_self, true_and, e3, if_true, e_T_SignatureX_initX_5, e_F_SignatureX_initX_5, ri, h2.its]
  refine for_inv (f := D.bl) (fun _ : Unit => ⟨[.ow (.ins "Signature" []), .im dt, .im ds, .im dw, .un, .un], [], []⟩) (fun _ _ => True) ?_ ?_ g.ss () trivial
  · rintro b _ _ _ K bk hK
    simp only [ri, e_L_SignatureX_initX_5, st, rd, gx]
    cases b <;> simp [dIs, kb, rd, gx, st] <;> exact hK () _ trivial (by simp only [gx])
  · rintro _ _
    simp only [e_T_SignatureX_initX_8, e_F_SignatureX_initX_8, st, rd, gx, ri, h3.its]
    refine for_inv (f := eP) (fun _ : Unit => ⟨[.ow (.ins "Signature" []), .im dt, .im ds, .im dw, .un, .un], [], []⟩) (fun rest _ => ∀ p ∈ rest, p ∈ g.ws) ?_ ?_ g.ws () (fun _ h => h)
    · rintro p rest _ hp K bk hK
      have p1 := ok.ww p (hp p List.mem_cons_self)
      simp only [ri, e_L_SignatureX_initX_8, st, rd, gx, rx]
      refine ⟨rfl, is_sort_ok (isP_sv p1) ?_⟩
      simp only [dk, isP_s p1, Bool.not_true, kb, st]
      exact hK () _ (fun q hq => hp q (List.mem_cons_of_mem _ hq)) (by simp only [gx])
    · rintro _ _
      simp only [e_T_SignatureX_initX_11, e_T_SignatureX_initX_12, st, rd, gx, h1.tup, h2.tup]
      refine ⟨by decide, by decide, by decide, by simp [putD], ?_⟩
      refine sortSet_pr g.ws rfl ok.wl ?_ fun Ψ q => ?_
      · simp only [dk, dv]
        refine ⟨by decide, ?_, h⟩
        show (2 : Nat) < 1000
        decide
      · simp only [ri, rd, gx, h3.its]
        exact q
end Vl

namespace Vl
open PySem PySem.Spec PyProof.Rows L2
theorem fls (g : Sig) : (sgFs g).lookup ("takes" : Str) = some (.tup (g.ts.map .str)) ∧ (sgFs g).lookup ("shares" : Str) = some (.tup (g.ss.map .bl)) ∧ (sgFs g).lookup ("writes" : Str) = some (.tup (g.ws.map eP)) := ⟨rfl, rfl, rfl⟩
theorem mem_hd {α : Type} {a : α} {xs : List α} : (a ∈ a :: xs) = True := propext ⟨fun _ => trivial, fun _ => List.mem_cons_self⟩
theorem nov_eP (p : Pr) {a b : Bool} : (eP p).nov a b = true := by simp [eP, D.nov, Ds.nov]
theorem nov_sgD (g : Sig) {a : Bool} : (sgD g).nov a false = true := by
  simp only [sgD, sgFs, D.nov, Df.nov, Bool.not_false, Bool.true_and, Bool.and_true, Bool.and_eq_true]
  exact ⟨nov_map D.str (fun _ => by simp [D.nov]) _, nov_map D.bl (fun _ => by simp [D.nov]) _, nov_map eP (fun _ => nov_eP _) _⟩
theorem dt_ts (ts : List Str) : D.dt 60 (.tup (ts.map .str)) = true := (dtt D.str).1 59 (by decide) ts
theorem dt_tl (ts : List Str) : D.dt 60 (.lst (ts.map .str)) = true := (dtt D.str).2 59 (by decide) ts
theorem dt_st (ts : List Bool) : D.dt 60 (.tup (ts.map .bl)) = true := (dtt D.bl).1 59 (by decide) ts
theorem dt_sl (ts : List Bool) : D.dt 60 (.lst (ts.map .bl)) = true := (dtt D.bl).2 59 (by decide) ts
theorem dt_wt (ts : List Pr) : D.dt 60 (.tup (ts.map eP)) = true := (dtt eP).1 59 (by decide) ts
theorem dt_wl (ts : List Pr) : D.dt 60 (.lst (ts.map eP)) = true := (dtt eP).2 59 (by decide) ts
theorem dt_p (p : Pr) : D.dt 60 (eP p) = true := good_eP.dt p 60 (by decide)
theorem dt_ps (ps : List Pr) : Ds.dt 60 (ps.map eP) = true := dt_map eP (by decide) ps
theorem at3 {x y z : D} {k : D → Prop} : ((∃ d, L2.atI [x, y, z] 0 = some d ∧ k d) = k x) ∧ ((∃ d, L2.atI [x, y, z] 1 = some d ∧ k d) = k y) ∧ ((∃ d, L2.atI [x, y, z] 2 = some d ∧ k d) = k z) := by
  have a : L2.atI [x, y, z] 0 = some x ∧ L2.atI [x, y, z] 1 = some y ∧ L2.atI [x, y, z] 2 = some z := ⟨rfl, rfl, rfl⟩
  simp [a]
theorem srtP_asc (ws : List Pr) : (srtP ws).Pairwise fun a b => pLe b a = false := by
  have h1 := sorted_srt ord_pLe ws
  have h2 := nodup_srt (le := pLe) ws
  refine (List.pairwise_and_iff.mpr ⟨h1, h2⟩).imp fun {a b} ⟨x, y⟩ => ?_
  cases q : pLe b a with
  | false => rfl
  | true => exact (y (ord_pLe.as a b x q)).elim
abbrev RR (R : Rr) : ExD := fun c pl Γ => R c pl (bcOf none Γ)
abbrev DD (Φ : RD → Option Cl → Prop) : EndsD := { nx := fun Γ => Φ (.im .non) (bcOf none Γ), rt := fun r Γ => r.nwp fun r => Φ r (bcOf none Γ), bk := fun _ => False, ct := fun _ => False }
end Vl

namespace Vl
open PySem PySem.Spec PyProof.Rows L2
/-! ### more readings -/
theorem bx :
    (∀ (sp : Str → Option SpD) (T : TF) (R : ExD) (Γ : Gm) (Φ : D → Gm → Prop), tPropD sp T R Γ Φ = T R Γ fun d Γ1 => match d with
      | .obj c fs => (match sp c with
        | some s => s [.im (.obj c fs)] (fun r _ => Φ r.d Γ1) (fun _ _ _ => False)
        | none => False)
      | _ => False) ∧
    (∀ (cs : List Str) (F : Str) (T : TF) (R : ExD) (Γ : Gm) (Φ : List D → Gm → Prop), tItsO cs F T R Γ Φ = T R Γ fun d Γ' => match d with
      | .obj c fs => c ∈ cs ∧ match fs.lookup F with
        | some (.tup ds) => Φ ds Γ'
        | _ => False
      | _ => False) ∧
    (∀ (n : Nat) (c : Str) (dds : List D) (sp : SpD) (U : TAD) (R : ExD) (Γ : Gm) (Φ : Cl → Gm → Prop), tMakeOD n c dds sp U R Γ Φ = U R Γ fun ds Γ' => ds.length + dds.length + 1 = n ∧ sp (.ow (.ins c []) :: (ds ++ dds).map .im) (fun r c' => r = .im .non ∧ match c' with
      | some c1 => Φ c1 Γ'
      | none => False) (fun nm pl _ => R nm pl Γ')) ∧
    (∀ (i : Nat) (it : TAD) (R : ExD) (Γ : Gm) (Φ : D → Gm → Prop), tLenSet i it R Γ Φ = it R Γ fun ds Γ1 => Nat.blt i Γ1.sl.length = true ∧ ∃ ks : List L2.Key, ds = ks.map kD ∧ ks.length < 64 ∧ Φ (.int (dd ks.reverse).length) Γ1) ∧
    (∀ (i : Nat) (Ti T : TF) (R : ExD) (Γ : Gm) (Φ : D → Gm → Prop), tInsert i Ti T R Γ Φ = match Γ.sl[i]? with
      | some (.ow (.lst _)) => Ti R Γ fun di Γ1 => T R Γ1 fun d Γ' => di.asInt fun j => match Γ'.sl[i]? with
        | some (.ow (.lst ds)) => ds.length < sizeLine ∧ 0 ≤ j ∧ j < 2 ^ 63 ∧ Φ .non (Γ'.set i (.ow (.lst (ds.take j.toNat ++ [d] ++ ds.drop j.toNat))))
        | _ => False
      | _ => False) ∧
    (∀ (i : Nat) (a : Addr) (b : Bool) (R : ExD) (Γ : Gm) (Φ : D → Gm → Prop), tIsE i a b R Γ Φ = (Γ.sl[i]? = some (.im (.ptr (.ref a))) ∧ Φ (.bl b) Γ)) ∧
    (∀ (xl : List Str) (sub : Str → Str → Bool) (x : Str) (i : Nat) (T : TSD) (Th : Addr → Str → TSD) (R : ExD) (D : EndsD) (Γ : Gm), tTryAs xl sub x i T Th R D Γ =
      T (fun c pl Γ' => c ∈ xl ∧ pl = none ∧ if sub c x = true then ∀ a : Addr, Th a c nvr ⟨fun Γ2 => D.nx (Γ2.set i .un), D.rt, fun Γ2 => D.bk (Γ2.set i .un), fun Γ2 => D.ct (Γ2.set i .un)⟩ (Γ'.set i (.im (.ptr (.ref a)))) else R c none Γ') D Γ) ∧
    (∀ (it : TAD) (g : TGD) (tt : TTD) (it1 : TAD) (g1 : TGD) (tt1 : TTD) (te : TF) (vs vs1 : List Nat) (R : ExD) (Γ : Gm) (Φ : Cl → Gm → Prop), tLc2D it g tt it1 g1 tt1 te vs vs1 R Γ Φ = it R Γ fun ds Γ1 => nOw vs Γ1 = true ∧ lc2F g tt it1 g1 tt1 te vs vs1 Φ ds [] (wipeD Γ1 vs)) :=
  ⟨fun _ _ _ _ _ => rfl, fun _ _ _ _ _ _ => rfl, fun _ _ _ _ _ _ _ _ => rfl, fun _ _ _ _ _ => rfl, fun _ _ _ _ _ _ => rfl, fun _ _ _ _ _ _ => rfl, fun _ _ _ _ _ _ _ _ _ => rfl, fun _ _ _ _ _ _ _ _ _ _ _ _ => rfl⟩
/-- a comprehension of two generators -/
theorem lc2_map {α β : Type} {N : Nat} {f : α → D} {g g1 : TGD} {it1 : TAD} {tt1 : TTD} {te : TF} {vs vs1 : List Nat} {Φ : Cl → Gm → Prop} {Γ : Gm} (ys : α → List β) (q : α → β → D) : ∀ (xs : List α) (acc : List D), acc.length + (xs.flatMap ys).length ≤ N →
    (∀ x ∈ xs, ∀ (acc : List D) (K : Cl → Gm → Prop), acc.length + (ys x).length ≤ N → (∀ Γ5, wipeD Γ5 vs = Γ → K (.lst (acc ++ (ys x).map (q x))) Γ5) → g (f x) Γ fun Γ2 => it1 nvr Γ2 fun es Γ4 => nOw vs1 Γ4 = true ∧ lcF g1 tt1 te vs1 K es acc (wipeD Γ4 vs1)) →
    Φ (.lst (acc ++ xs.flatMap fun x => (ys x).map (q x))) Γ → lc2F g tYesD it1 g1 tt1 te vs vs1 Φ (xs.map f) acc Γ
  | [], acc, _, _, h => by simpa [lc2F] using h
  | x :: xs, acc, hl, hs, h => by
    have hl2 : acc.length + ((ys x).length + (xs.flatMap ys).length) ≤ N := by simpa using hl
    have := hs x List.mem_cons_self acc (fun c Γ5 => match c with
      | .lst acc2 => lc2F g tYesD it1 g1 tt1 te vs vs1 Φ (xs.map f) acc2 (wipeD Γ5 vs)
      | _ => False) (by omega) fun Γ5 e => by
        show lc2F g tYesD it1 g1 tt1 te vs vs1 Φ (xs.map f) _ (wipeD Γ5 vs)
        rw [e]
        refine lc2_map ys q xs _ (by simp; simp at hl2; omega) (fun y hy => hs y (List.mem_cons_of_mem _ hy)) ?_
        simpa using h
    exact (show lc2F g tYesD it1 g1 tt1 te vs vs1 Φ (f x :: xs.map f) acc Γ from this)
theorem at1 {x : D} {k : D → Prop} : ((∃ d, L2.atI [x] 0 = some d ∧ k d) = k x) := by
  have a : L2.atI [x] 0 = some x := rfl
  simp [a]
theorem at2 {x y : D} {k : D → Prop} : ((∃ d, L2.atI [x, y] 0 = some d ∧ k d) = k x) ∧ ((∃ d, L2.atI [x, y] 1 = some d ∧ k d) = k y) := by
  have a : L2.atI [x, y] 0 = some x ∧ L2.atI [x, y] 1 = some y := ⟨rfl, rfl⟩
  simp [a]
theorem at4 {x y z w : D} {k : D → Prop} : ((∃ d, L2.atI [x, y, z, w] 0 = some d ∧ k d) = k x) ∧ ((∃ d, L2.atI [x, y, z, w] 1 = some d ∧ k d) = k y) ∧ ((∃ d, L2.atI [x, y, z, w] 2 = some d ∧ k d) = k z) ∧ ((∃ d, L2.atI [x, y, z, w] 3 = some d ∧ k d) = k w) := by
  have a : L2.atI [x, y, z, w] 0 = some x ∧ L2.atI [x, y, z, w] 1 = some y ∧ L2.atI [x, y, z, w] 2 = some z ∧ L2.atI [x, y, z, w] 3 = some w := ⟨rfl, rfl, rfl, rfl⟩
  simp [a]
theorem smallLt {n : Nat} (h : n ≤ 1000) : n < sizeLine := Nat.lt_of_le_of_lt h (by decide)
theorem sortL_same {T : TF} {R : ExD} {Γ : Gm} {Φ : Cl → Gm → Prop} (ws : List Pr) (hT : ∀ Ψ : D → Gm → Prop, Ψ (.lst (ws.map eP)) Γ → T R Γ Ψ) (h : Φ (.lst ((ws.mergeSort pLe).map eP)) Γ) : tSortL T R Γ Φ := sortL_pr (Γ1 := Γ) ws hT h
end Vl

namespace Vl
open PySem PySem.Spec PyProof.Rows L2
/-! ### distinct words -/
def strsOf : List D → List Str
  | [] => []
  | .str z :: ds => z :: strsOf ds
  | _ :: ds => strsOf ds
def isDW (ds : List D) : Bool := ds.all isW && decide (strsOf ds).Nodup
theorem strsOf_map : ∀ zs : List Str, strsOf (zs.map .str) = zs
  | [] => rfl
  | z :: zs => by show z :: strsOf (zs.map .str) = _; rw [strsOf_map zs]
theorem all_isW : ∀ {ds : List D}, ds.all isW = true → ∃ zs : List Str, ds = zs.map .str ∧ ∀ z ∈ zs, isWS z = true
  | [], _ => ⟨[], rfl, fun _ h => by cases h⟩
  | d :: ds, h => by
    rw [List.all_cons, Bool.and_eq_true] at h
    obtain ⟨zs, rfl, hz⟩ := all_isW h.2
    cases d with
    | str z => exact ⟨z :: zs, rfl, fun y hy => by
        rcases List.mem_cons.mp hy with rfl | hy
        · exact h.1
        · exact hz y hy⟩
    | _ => cases h.1
theorem isDW_words (zs : List Str) (h : ∀ z ∈ zs, isWS z = true) : isDW (zs.map .str) = decide zs.Nodup := by
  have e : (zs.map D.str).all isW = true := List.all_eq_true.mpr fun d hd => by
    obtain ⟨z, hz, rfl⟩ := List.mem_map.mp hd
    exact h z hz
  rw [isDW, e, strsOf_map, Bool.true_and]
theorem isDW_words2 {ds : List D} (h : isDW ds = true) : ∃ zs : List Str, ds = zs.map .str ∧ (∀ z ∈ zs, isWS z = true) ∧ zs.Nodup := by
  rw [isDW, Bool.and_eq_true] at h
  obtain ⟨zs, rfl, hz⟩ := all_isW h.1
  refine ⟨zs, rfl, hz, ?_⟩
  have := h.2
  rw [strsOf_map] at this
  exact of_decide_eq_true this
theorem eqv_int (i j : Int) : D.eqv (.int i) (.int j) = decide (i = j) := by simp only [D.eqv]; rfl
theorem dd_key (zs : List Str) : D.eqv (.int (dd (zs.map fun z => (Sum.inr z : L2.Key)).reverse).length) (.int (zs.map D.str).length) = decide zs.Nodup := by
  have e : (dd (zs.map fun z => (Sum.inr z : L2.Key)).reverse).length = zs.length ↔ zs.Nodup := by
    have := dd_full (xs := (zs.map fun z => (Sum.inr z : L2.Key)).reverse)
    rw [List.length_reverse, List.length_map] at this
    rw [this, (List.reverse_perm _).nodup_iff]
    refine ⟨nodup_of_map, fun h => ?_⟩
    exact h.map (f := fun z => (Sum.inr z : L2.Key)) fun a b h2 h3 => h2 (Sum.inr.inj h3)
  rw [eqv_int, List.length_map]
  by_cases h : zs.Nodup
  · rw [e.mpr h, decide_eq_true h]
    simp
  · have h2 : ¬ (dd (zs.map fun z => (Sum.inr z : L2.Key)).reverse).length = zs.length := fun q => h (e.mp q)
    rw [decide_eq_false h]
    exact decide_eq_false (fun q => h2 (by exact_mod_cast q))
theorem distinct_ok {d : D} {ds : List D} {Φ : RD → Option Cl → Prop} {R : Rr} (hs : Sq d ds) (hd : ∀ x ∈ ds, WV x) (hl : ds.length < 64) (h : Φ (.im (.bl (isDW ds))) none) : S_are_distinct_words [.im d] Φ R := by
  refine s_body (Γ := ⟨[.im _, .un], [], []⟩) rfl rfl rfl rfl ?_
  simp only [e_T_are_distinct_words, st, rd, gx, rx, ri, dk, dv, kb, ix, ox, bx]
  refine ⟨rfl, are_words_ok hs hd ?_⟩
  simp only [dk]
  cases e : ds.all isW with
  | false =>
    rw [isDW, e] at h
    simp only [Bool.not_false, st, rd, gx, rx, ri, dk, dv, kb, ix, ox, bx]
    exact h
  | true =>
    obtain ⟨zs, rfl, hz⟩ := all_isW e
    simp only [Bool.not_true, st, rd, gx, rx, ri, dk, dv, kb, ix, ox, bx, hs.its, hs.len]
    refine ⟨rfl, zs.map fun z => .inr z, by rw [List.map_map]; rfl, by rwa [List.length_map] at hl ⊢, ?_⟩
    simp only [dv, D.dt, Bool.and_self, true_and, Bool.false_eq_true, if_false]
    rw [dd_key, ← isDW_words zs hz]
    exact h
/-! ### books -/
abbrev Kd := Str × List Str
def eK (k : Kd) : D := .tup [.str k.1, .tup (k.2.map .str)]
def eR (r : Str × Sig) : D := .tup [.str r.1, sgD r.2]
structure Bk where
  ks : List Kd
  rs : List (Str × Sig)
def bkFs (b : Bk) : List (Str × D) := [("kinds", .tup (b.ks.map eK)), ("routines", .tup (b.rs.map eR))]
def bkD (b : Bk) : D := .obj "Book" (bkFs b)
def sortsK (ks : List Kd) : List Pr := ks.flatMap fun k => k.2.map fun f => (k.1, f)
def roomB (ks : List Kd) (g : Sig) : Bool := g.ts.all (fun t => decide (t ∈ ks.map (·.1))) && g.ws.all fun p => decide (p ∈ sortsK ks)
theorem fbs (b : Bk) : (bkFs b).lookup ("kinds" : Str) = some (.tup (b.ks.map eK)) ∧ (bkFs b).lookup ("routines" : Str) = some (.tup (b.rs.map eR)) ∧ (bkFs b).lookup ("sorts" : Str) = none ∧ (bkFs b).lookup ("fields_of" : Str) = none ∧ (bkFs b).lookup ("signature_of" : Str) = none ∧ (bkFs b).lookup ("with_signature" : Str) = none ∧ (bkFs b).lookup ("has_room_for" : Str) = none := ⟨rfl, rfl, rfl, rfl, rfl, rfl, rfl⟩
/-- small enough -/
def Bk.Sm (b : Bk) : Prop := b.ks.length ≤ 20 ∧ (∀ k ∈ b.ks, k.2.length ≤ 20) ∧ b.rs.length ≤ 20
theorem sorts_len {ks : List Kd} (h1 : ks.length ≤ 20) (h2 : ∀ k ∈ ks, k.2.length ≤ 20) : (sortsK ks).length ≤ 400 := by
  have : ∀ (l : List Kd), (∀ k ∈ l, k.2.length ≤ 20) → (sortsK l).length ≤ 20 * l.length := by
    intro l
    induction l with
    | nil => intro _; simp [sortsK]
    | cons k l ih =>
      intro h
      have a := ih fun q hq => h q (List.mem_cons_of_mem _ hq)
      have b := h k List.mem_cons_self
      simp only [sortsK, List.flatMap_cons, List.length_append, List.length_map, List.length_cons] at a ⊢
      omega
  have := this ks h2
  omega
theorem mSorts : M_sorts "Book" = some S_Book_sorts := if_pos rfl
theorem mRoom : M_has_room_for "Book" = some S_Book_has_room_for := if_pos rfl
section
variable {Φ : RD → Option Cl → Prop} {R : Rr}
theorem sorts_ok {b : Bk} (sm : b.Sm) (h : Φ (.im (.tup ((sortsK b.ks).map eP))) none) : S_Book_sorts [.im (bkD b)] Φ R := by
  refine s_body (Γ := ⟨[.im _, .un, .un, .un], [], []⟩) rfl rfl rfl rfl ?_
  have sl := sorts_len sm.1 sm.2.1
  simp only [e_T_Book_sorts, e_C_Book_sorts_1, st, rd, gx, rx, ri, dk, dv, kb, ix, ox, bx, bkD, mem_hd, fbs, Option.some.injEq, exists_eq_left', true_and]
  refine ⟨rfl, lc2_map (N := 1000) (f := eK) (fun k => k.2) (fun k f => eP (k.1, f)) b.ks [] ?_ (fun k hk acc K hl hK => ?_) ?_⟩
  · have e : (b.ks.flatMap fun k => k.2).length = (sortsK b.ks).length := by
      unfold sortsK
      generalize b.ks = l
      induction l with
      | nil => rfl
      | cons k l ih => simp only [List.flatMap_cons, List.length_append, List.length_map, ih]
    rw [e]
    show 0 + _ ≤ 1000
    omega
  · simp only [eK, tg, st, rd, gx, rx, ri, dk, dv, kb, ix, ox, bx, List.length_cons, List.length_nil, true_and]
    refine ⟨rfl, ?_⟩
    refine lc_ok (f := D.str) (fun _ => true) (fun f => eP (k.1, f)) k.2 acc (small hl) (fun f hf K hK => ?_) ?_
    · simp only [st, rd, gx, rx, ri, dk, dv, kb, ix, ox, bx, tYesD, if_true]
      exact ⟨Nat.le_of_ble_eq_true rfl, hK _ (by simp only [gx])⟩
    · rw [List.filter_eq_self.mpr fun _ _ => rfl]
      exact hK _ (by simp only [gx])
  · simp only [dk, dv, List.nil_append]
    have e : (b.ks.flatMap fun k => k.2.map fun f => eP (k.1, f)) = (sortsK b.ks).map eP := by
      unfold sortsK
      rw [List.map_flatMap]
      simp only [List.map_map]
      rfl
    rw [e]
    exact h
theorem room_ok {b : Bk} {g : Sig} (sm : b.Sm) (h : Φ (.im (.bl (roomB b.ks g))) none) : S_Book_has_room_for [.im (bkD b), .im (sgD g)] Φ R := by
  refine s_body (Γ := ⟨[.im _, .im _, .un, .un, .un, .un], [], []⟩) rfl rfl rfl rfl ?_
  simp only [e_T_Book_has_room_for, e_C_Book_has_room_for_1, st, rd, gx, rx, ri, dk, dv, kb, ix, ox, bx, bkD, mem_hd, fbs, Option.some.injEq, exists_eq_left', true_and]
  refine ⟨rfl, lc_map (f := eK) (fun k => .str k.1) b.ks (small (by have := sm.1; omega)) (fun k hk K hK => ?_) ?_⟩
  · simp only [eK, tg, st, rd, gx, rx, ri, dk, dv, kb, ix, ox, bx, List.length_cons, List.length_nil, true_and]
    exact hK _ (by simp only [gx])
  have e1 : b.ks.map (fun k => D.str k.1) = (b.ks.map (·.1)).map .str := by rw [List.map_map]; rfl
  rw [e1]
  simp only [st, rd, gx, rx, ri, dk, dv, kb, ix, ox, bx, e_T_Book_has_room_for_2, e_F_Book_has_room_for_2, sgD, mem_hd, fls, Option.some.injEq, exists_eq_left', true_and]
  refine for_all (f := D.str) (fun t => decide (t ∈ b.ks.map (·.1))) (Φ (.im (.bl false)) none) g.ts (fun t ht K bk k1 k2 => ?_) (fun e => ?_) fun e => ?_
  · have d1 : ∀ zs : List Str, Ds.dt 60 (zs.map .str) = true := fun zs => dt_map D.str (by decide) zs
    simp only [st, rd, gx, rx, ri, dk, dv, kb, ix, ox, bx, e_L_Book_has_room_for_2, dv, D.dt, d1, Bool.and_self, true_and, any_map, if_true]
    refine ifK_i (fun e => ?_) fun e => ?_
    · exact k1 (by simpa using e)
    · exact k2 (by simpa using e) _ (by simp only [gx])
  · simp only [st, rd, gx, rx, ri, dk, dv, kb, ix, ox, bx, e_T_Book_has_room_for_5, e_F_Book_has_room_for_5, sgD, mem_hd, fls, Option.some.injEq, exists_eq_left', true_and]
    refine for_all (f := eP) (fun p => decide (p ∈ sortsK b.ks)) (Φ (.im (.bl false)) none) g.ws (fun t ht K bk k1 k2 => ?_) (fun e3 => ?_) fun e3 => ?_
    · simp only [st, rd, gx, rx, ri, dk, dv, kb, ix, ox, bx, e_L_Book_has_room_for_5, mSorts]
      refine sorts_ok (b := b) sm ?_
      simp only [st, rd, gx, rx, ri, dk, dv, kb, ix, ox, bx, dv, dt_p, dt_ps, Bool.and_self, true_and, any_map, if_true]
      refine ifK_i (fun e => ?_) fun e => ?_
      · exact k1 (by simpa using e)
      · exact k2 (by simpa using e) _ (by simp only [gx])
    · rw [roomB, e, e3] at h
      exact h
    · rw [roomB, e3, Bool.and_false] at h
      exact h
  · rw [roomB, e, Bool.false_and] at h
    exact h
end
/-! ### making a book -/
def KV (x : D × D × List D) : Prop := (∃ f, Sq f x.2.2 ∧ Sq x.1 [x.2.1, f]) ∧ WV x.2.1 ∧ (∀ y ∈ x.2.2, WV y) ∧ x.2.2.length ≤ 20
def RV (x : D × D × Sig) : Prop := Sq x.1 [x.2.1, sgD x.2.2] ∧ WV x.2.1
def strOf : D → Str
  | .str z => z
  | _ => ""
def tyK (k : D × List D) : Kd := (strOf k.1, strsOf k.2)
def kOk (k : D × List D) : Bool := decide (1 ≤ k.2.length) && decide (k.2.length ≤ 3) && isDW k.2
def bkOk (ks : List (D × List D)) (rs : List (D × Sig)) : Bool :=
  decide (1 ≤ ks.length) && decide (ks.length ≤ 3) && (isDW (ks.map (·.1)) && (ks.all kOk && (decide (rs.length ≤ 4) && (isDW (rs.map (·.1)) && rs.all fun r => roomB (ks.map tyK) r.2))))
end Vl

namespace Vl
open PySem PySem.Spec PyProof.Rows L2
theorem kOk_iff {k : D × List D} : kOk k = (decide (1 ≤ k.2.length) && decide (k.2.length ≤ 3) && isDW k.2) := rfl
/-- parts that are good, typed -/
theorem typed_ks {ks : List (D × List D)} (h1 : isDW (ks.map (·.1)) = true) (h2 : ks.all kOk = true) : ks = (ks.map tyK).map (fun k => (D.str k.1, k.2.map D.str)) ∧ (∀ k ∈ ks.map tyK, isWS k.1 = true ∧ (∀ f ∈ k.2, isWS f = true) ∧ k.2.Nodup ∧ 1 ≤ k.2.length ∧ k.2.length ≤ 3) ∧ ((ks.map tyK).map (·.1)).Nodup := by
  have key : ∀ k ∈ ks, k = (D.str (tyK k).1, (tyK k).2.map D.str) ∧ isWS (tyK k).1 = true ∧ (∀ f ∈ (tyK k).2, isWS f = true) ∧ (tyK k).2.Nodup ∧ 1 ≤ (tyK k).2.length ∧ (tyK k).2.length ≤ 3 := by
    intro k hk
    obtain ⟨d, fs⟩ := k
    have a1 := List.all_eq_true.mp h2 _ hk
    simp only [kOk, Bool.and_eq_true, decide_eq_true_eq] at a1
    obtain ⟨⟨l1, l2⟩, l3⟩ := a1
    obtain ⟨zs, rfl, hz, hn⟩ := isDW_words2 l3
    have a2 : isW d = true := by
      have b : (ks.map (·.1)).all isW = true := by
        rw [isDW, Bool.and_eq_true] at h1
        exact h1.1
      exact List.all_eq_true.mp b d (List.mem_map.mpr ⟨_, hk, rfl⟩)
    have hd : ∃ z, d = .str z ∧ isWS z = true := by
      cases d with
      | str z => exact ⟨z, rfl, a2⟩
      | _ => cases a2
    obtain ⟨z, rfl, hz2⟩ := hd
    have e : tyK (D.str z, zs.map D.str) = (z, zs) := by
      show (_, strsOf _) = _
      rw [strsOf_map]
      rfl
    rw [e]
    rw [List.length_map] at l1 l2
    exact ⟨rfl, hz2, hz, hn, l1, l2⟩
  refine ⟨?_, ?_, ?_⟩
  · rw [List.map_map]
    conv => lhs; rw [← List.map_id ks]
    exact List.map_congr_left fun k hk => (key k hk).1
  · intro k hk
    obtain ⟨q, hq, rfl⟩ := List.mem_map.mp hk
    exact (key q hq).2
  · obtain ⟨zs, e1, _, hn⟩ := isDW_words2 h1
    have e2 : ks.map (·.1) = ((ks.map tyK).map (·.1)).map D.str := by
      rw [List.map_map, List.map_map]
      exact List.map_congr_left fun k hk => congrArg Prod.fst (key k hk).1
    rw [e1] at e2
    have e3 := congrArg strsOf e2
    rw [strsOf_map, strsOf_map] at e3
    rw [← e3]
    exact hn
theorem typed_rs {rs : List (D × Sig)} (h1 : isDW (rs.map (·.1)) = true) : rs = (rs.map fun r => (strOf r.1, r.2)).map (fun r => (D.str r.1, r.2)) := by
  rw [List.map_map]
  conv => lhs; rw [← List.map_id rs]
  refine List.map_congr_left fun r hr => ?_
  have b : (rs.map (·.1)).all isW = true := by
    rw [isDW, Bool.and_eq_true] at h1
    exact h1.1
  have a2 := List.all_eq_true.mp b r.1 (List.mem_map.mpr ⟨_, hr, rfl⟩)
  obtain ⟨d, g⟩ := r
  cases d with
  | str z => rfl
  | _ => cases a2
section
variable {Φ : RD → Option Cl → Prop} {R : Rr}
def rKs (ks : List (D × D × List D)) : D := .tup (ks.map fun x => .tup [x.2.1, .tup x.2.2])
def rRs (rs : List (D × D × Sig)) : D := .tup (rs.map fun x => .tup [x.2.1, sgD x.2.2])
theorem bki_rs {ks : List (D × List D)} {rs : List (D × D × Sig)} {ek er : D} (h1 : isDW (ks.map (·.1)) = true) (h2 : ks.all kOk = true) (lk : ks.length ≤ 3) (hr : ∀ x ∈ rs, RV x) (lr : rs.length ≤ 20)
    (good : (decide (rs.length ≤ 4) && (isDW ((rs.map (·.2)).map (·.1)) && (rs.map (·.2)).all fun r => roomB (ks.map tyK) r.2)) = true → Φ (.im .non) (some (.ins "Book" [("kinds", .tup (ks.map fun x => .tup [x.1, .tup x.2])), ("routines", rRs rs)])))
    (bad : (decide (rs.length ≤ 4) && (isDW ((rs.map (·.2)).map (·.1)) && (rs.map (·.2)).all fun r => roomB (ks.map tyK) r.2)) = false → ∀ c, R "BadBook" none c) :
    T_BookX_initX_10 (fun c pl Γ => R c pl (bcOf (some 0) Γ)) { nx := fun Γ => Φ (.im .non) (bcOf (some 0) Γ), rt := fun r Γ => r.nwp fun r => Φ r (bcOf (some 0) Γ), bk := fun _ => False, ct := fun _ => False }
      ⟨[.ow (.ins "Book" [("kinds", .tup (ks.map fun x => .tup [x.1, .tup x.2])), ("routines", rRs rs)]), .im ek, .im er, .un, .un, .un, .un], [], []⟩ := by
  have fk : ([("kinds", .tup (ks.map fun x => .tup [x.1, .tup x.2])), ("routines", rRs rs)] : List (Str × D)).lookup ("routines" : Str) = some (.tup (rs.map fun x => .tup [x.2.1, sgD x.2.2])) := rfl
  simp only [e_T_BookX_initX_10, st, rd, gx, rx, ri, dk, dv, kb, ix, ox, bx, mem_hd, fk, Option.some.injEq, exists_eq_left', true_and, dv, List.length_map]
  refine ifK_i (fun e => ?_) fun e => ?_
  · simp only [st]
    exact bad (by rw [decide_eq_false (by have := of_decide_eq_true e; omega), Bool.false_and]) _
  have l4 : rs.length ≤ 4 := by have := of_decide_eq_false e; omega
  rw [decide_eq_true l4, Bool.true_and] at good bad
  simp only [st, rd, gx, rx, ri, dk, dv, kb, ix, ox, bx, e_T_BookX_initX_12, e_C_BookX_initX_12, mem_hd, fk, Option.some.injEq, exists_eq_left', true_and]
  refine ⟨rfl, lc_map (f := fun x : D × D × Sig => .tup [x.2.1, sgD x.2.2]) (fun x => x.2.1) rs (small (by omega)) (fun x hx K hK => ?_) ?_⟩
  · simp only [tg, st, rd, gx, rx, ri, dk, dv, kb, ix, ox, bx, List.length_cons, List.length_nil, true_and]
    exact hK _ (by simp only [gx])
  simp only [dk]
  refine ⟨rfl, distinct_ok (.inr rfl) (fun d hd => ?_) (by rw [List.length_map]; omega) ?_⟩
  · obtain ⟨x, hx, rfl⟩ := List.mem_map.mp hd
    exact (hr x hx).2
  have e5 : rs.map (fun x => x.2.1) = (rs.map (·.2)).map (·.1) := by rw [List.map_map]; rfl
  rw [e5]
  simp only [dk]
  cases e6 : isDW ((rs.map (·.2)).map (·.1)) with
  | false =>
    simp only [Bool.not_false, st, rd, gx, rx, ri, dk, dv, kb, ix, ox, bx]
    exact bad (by rw [e6, Bool.false_and]) _
  | true =>
    rw [e6, Bool.true_and] at good bad
    simp only [Bool.not_true, st, rd, gx, rx, ri, dk, dv, kb, ix, ox, bx, e_F_BookX_initX_14, mem_hd, fk, Option.some.injEq, exists_eq_left', true_and]
    obtain ⟨t1, t2, t3⟩ := typed_ks h1 h2
    have t4 := typed_rs e6
    let b : Bk := ⟨ks.map tyK, (rs.map (·.2)).map fun r => (strOf r.1, r.2)⟩
    have sm : b.Sm := ⟨by show (ks.map tyK).length ≤ 20; rw [List.length_map]; omega, fun k hk => by have := (t2 k hk).2.2.2.2; omega, by show (List.map _ (List.map _ _)).length ≤ 20; simp; omega⟩
    have eb : (D.obj "Book" [("kinds", .tup (ks.map fun x => .tup [x.1, .tup x.2])), ("routines", rRs rs)]) = bkD b := by
      have q1 : (ks.map fun x => D.tup [x.1, .tup x.2]) = b.ks.map eK := by
        conv => lhs; rw [t1]
        rw [List.map_map]
        rfl
      have q2 : rRs rs = .tup (b.rs.map eR) := by
        show D.tup (rs.map fun x => .tup [x.2.1, sgD x.2.2]) = .tup (List.map eR (List.map _ (List.map _ _)))
        have : (rs.map fun x => D.tup [x.2.1, sgD x.2.2]) = (rs.map (·.2)).map fun r => .tup [r.1, sgD r.2] := by rw [List.map_map]; rfl
        rw [this]
        congr 1
        conv => lhs; rw [t4]
        rw [List.map_map]
        rfl
      rw [q1, q2]
      rfl
    refine for_all (f := fun x : D × D × Sig => .tup [x.2.1, sgD x.2.2]) (fun x => roomB (ks.map tyK) x.2.2) (∀ c, R "BadBook" none c) rs (fun x hx K bk k1 k2 => ?_) (fun e => ?_) fun e => ?_
    · simp only [tg, st, rd, gx, rx, ri, dk, dv, kb, ix, ox, bx, List.length_cons, List.length_nil, true_and, e_L_BookX_initX_14, wx]
      refine ⟨_, .cons (.ow (.refl _)) (.cons (.un _) (.cons (.un _) (.cons (.un _) (.cons (.un _) (.cons (.im (.refl _)) (.cons (.im (.refl _)) .nil)))))), ?_⟩
      simp only [st, rd, gx, rx, ri, dk, dv, kb, ix, ox, bx, eb, bkD, fbs, mRoom, true_and, List.map_cons, List.map_nil, List.length_cons, List.length_nil]
      refine ⟨_, rfl, room_ok (b := b) sm ?_⟩
      simp only [dk]
      refine ⟨rfl, ?_⟩
      refine ifK_i (fun e => ?_) fun e => ?_
      · simp only [st]
        exact k1 (by simpa using e) _
      · exact k2 (by simpa using e) _ (by simp only [gx])
    · exact good (by rw [List.all_map]; exact e)
    · exact bad (by rw [List.all_map]; exact e)
/-- making a book of anything -/
theorem bkI_ok {ks : List (D × D × List D)} {rs : List (D × D × Sig)} {ek er : D} (h1 : Sq ek (ks.map (·.1))) (h2 : Sq er (rs.map (·.1))) (hk : ∀ x ∈ ks, KV x) (hr : ∀ x ∈ rs, RV x) (lk : ks.length ≤ 20) (lr : rs.length ≤ 20)
    (good : bkOk (ks.map (·.2)) (rs.map (·.2)) = true → Φ (.im .non) (some (.ins "Book" [("kinds", rKs ks), ("routines", rRs rs)])))
    (bad : bkOk (ks.map (·.2)) (rs.map (·.2)) = false → ∀ c, R "BadBook" none c) : S_BookX_initX [.ow (.ins "Book" []), .im ek, .im er] Φ R := by
  refine s_body (Γ := ⟨[.ow _, .im _, .im _, .un, .un, .un, .un], [], []⟩) rfl rfl rfl rfl ?_
  simp only [e_T_BookX_initX, e_C_BookX_initX_1, st, rd, gx, rx, ri, dk, dv, kb, ix, ox, bx, h1.its]
  refine ⟨rfl, lc_map (f := fun x : D × D × List D => x.1) (fun x => .tup [x.2.1, .tup x.2.2]) ks (small (by omega)) (fun x hx K hK => ?_) ?_⟩
  · obtain ⟨⟨f, hf, hd⟩, _⟩ := hk x hx
    rcases hd with e | e <;> simp only [e, tg, st, rd, gx, rx, ri, dk, dv, kb, ix, ox, bx, List.length_cons, List.length_nil, true_and, hf.tup] <;> exact ⟨Nat.le_of_ble_eq_true rfl, hK _ (by simp only [gx])⟩
  simp only [st, rd, gx, rx, ri, dk, dv, kb, ix, ox, bx, dv, e_T_BookX_initX_2, e_C_BookX_initX_2, h2.its]
  refine ⟨by decide, by decide, rfl, lc_map (f := fun x : D × D × Sig => x.1) (fun x => .tup [x.2.1, sgD x.2.2]) rs (small (by omega)) (fun x hx K hK => ?_) ?_⟩
  · obtain ⟨hd, _⟩ := hr x hx
    rcases hd with e | e <;> simp only [e, tg, st, rd, gx, rx, ri, dk, dv, kb, ix, ox, bx, List.length_cons, List.length_nil, true_and] <;> exact ⟨Nat.le_of_ble_eq_true rfl, hK _ (by simp only [gx])⟩
  simp only [st, rd, gx, rx, ri, dk, dv, kb, ix, ox, bx, dv]
  refine ⟨by decide, (by show (1 : Nat) < 1000; decide), ?_⟩
  have ek1 : (ks.map fun x => D.tup [x.2.1, .tup x.2.2]) = (ks.map (·.2)).map fun x => .tup [x.1, .tup x.2] := by rw [List.map_map]; rfl
  have ek2 : rKs ks = .tup ((ks.map (·.2)).map fun x => .tup [x.1, .tup x.2]) := congrArg D.tup ek1
  rw [ek2] at good
  rw [ek1]
  have hv : ∀ x ∈ ks.map (·.2), WV x.1 ∧ (∀ y ∈ x.2, WV y) ∧ x.2.length ≤ 20 := fun x hx => by
    obtain ⟨q, hq, rfl⟩ := List.mem_map.mp hx
    exact (hk q hq).2
  have lk2 : (ks.map (·.2)).length ≤ 20 := by rw [List.length_map]; exact lk
  generalize (ks.map (·.2)) = ks at *
  have fk : ([("kinds", .tup (ks.map fun x => .tup [x.1, .tup x.2])), ("routines", rRs rs)] : List (Str × D)).lookup ("kinds" : Str) = some (.tup (ks.map fun x => .tup [x.1, .tup x.2])) := rfl
  show T_BookX_initX_3 _ _ ⟨[.ow (.ins "Book" [("kinds", .tup (ks.map fun x => .tup [x.1, .tup x.2])), ("routines", rRs rs)]), .im ek, .im er, .un, .un, .un, .un], [], []⟩
  simp only [e_T_BookX_initX_3, st, rd, gx, rx, ri, dk, dv, kb, ix, ox, bx, mem_hd, fk, Option.some.injEq, exists_eq_left', true_and, dv, List.length_map]
  refine orK_v (decide (3 < (ks.length : Int))) (fun _ Ψ q => ?_) ?_
  · simp only [st, rd, gx, rx, ri, dk, dv, kb, ix, ox, bx, mem_hd, fk, Option.some.injEq, exists_eq_left', true_and, dv, List.length_map]
    exact q
  refine ifK_i (fun e => ?_) fun e => ?_
  · simp only [st]
    refine bad ?_ _
    have : ¬ (1 ≤ ks.length ∧ ks.length ≤ 3) := by simp at e; omega
    simp only [bkOk]
    by_cases a : 1 ≤ ks.length
    · rw [decide_eq_false (p := ks.length ≤ 3) (fun b => this ⟨a, b⟩)]
      simp
    · rw [decide_eq_false a]
      simp
  have l13 : 1 ≤ ks.length ∧ ks.length ≤ 3 := by simp at e; omega
  simp only [bkOk, decide_eq_true l13.1, decide_eq_true l13.2, Bool.true_and, Bool.and_self] at good bad
  simp only [st, rd, gx, rx, ri, dk, dv, kb, ix, ox, bx, e_T_BookX_initX_5, e_C_BookX_initX_5, mem_hd, fk, Option.some.injEq, exists_eq_left', true_and]
  refine ⟨rfl, lc_map (f := fun x : D × List D => .tup [x.1, .tup x.2]) (fun x => x.1) ks (small (by omega)) (fun x hx K hK => ?_) ?_⟩
  · simp only [tg, st, rd, gx, rx, ri, dk, dv, kb, ix, ox, bx, List.length_cons, List.length_nil, true_and]
    exact hK _ (by simp only [gx])
  simp only [dk]
  refine ⟨rfl, distinct_ok (.inr rfl) (fun d hd => ?_) (by rw [List.length_map]; omega) ?_⟩
  · obtain ⟨x, hx, rfl⟩ := List.mem_map.mp hd
    exact (hv x hx).1
  simp only [dk]
  cases e6 : isDW (ks.map (·.1)) with
  | false =>
    simp only [Bool.not_false, st, rd, gx, rx, ri, dk, dv, kb, ix, ox, bx]
    exact bad (by rw [e6, Bool.false_and]) _
  | true =>
    rw [e6, Bool.true_and] at good bad
    simp only [Bool.not_true, st, rd, gx, rx, ri, dk, dv, kb, ix, ox, bx, e_T_BookX_initX_7, e_F_BookX_initX_7, mem_hd, fk, Option.some.injEq, exists_eq_left', true_and]
    refine for_all (f := fun x : D × List D => .tup [x.1, .tup x.2]) kOk (∀ c, R "BadBook" none c) ks (fun x hx K bk k1 k2 => ?_) (fun e => ?_) fun e => ?_
    · simp only [tg, st, rd, gx, rx, ri, dk, dv, kb, ix, ox, bx, List.length_cons, List.length_nil, true_and, e_L_BookX_initX_7, dv]
      refine orK_v (decide (3 < (x.2.length : Int)) || !isDW x.2) (fun _ Ψ q => ?_) ?_
      · simp only [st, rd, gx, rx, ri, dk, dv, kb, ix, ox, bx, dv]
        refine orK_v (!isDW x.2) (fun _ Ψ q => ?_) q
        simp only [st, rd, gx, rx, ri, dk, dv, kb, ix, ox, bx]
        refine ⟨rfl, distinct_ok (.inl rfl) (hv x hx).2.1 (by have := (hv x hx).2.2; omega) ?_⟩
        simp only [dk]
        exact q
      refine ifK_i (fun e => ?_) fun e => ?_
      · simp only [st]
        refine k1 ?_ _
        rw [Bool.eq_false_iff]
        intro q
        simp only [kOk, Bool.and_eq_true, decide_eq_true_eq] at q
        simp only [q.2, Bool.or_eq_true, decide_eq_true_eq, Bool.not_true, Bool.false_eq_true, or_false] at e
        omega
      · refine k2 ?_ _ (by simp only [gx])
        simp only [Bool.or_eq_false_iff, decide_eq_false_iff_not, Bool.not_eq_false'] at e
        simp only [kOk, Bool.and_eq_true, decide_eq_true_eq]
        exact ⟨⟨by omega, by omega⟩, e.2.2⟩
    · rw [e, Bool.true_and] at good bad
      rw [List.length_map] at good bad
      exact bki_rs e6 e l13.2 hr lr good bad
    · exact bad (by rw [e, Bool.false_and])
end
end Vl

namespace Vl
open PySem PySem.Spec PyProof.Rows L2
/-! ### the drawn book -/
def kindWs : List Str := ["lid", "box", "a", "make", "b2"]
def fieldWs : List Str := ["size", "f", "a", "lid", "w9"]
def routWs : List Str := ["fill", "r", "call", "t7", "fil"]
def wAt (ws : List Str) (i : Int) : Str := ws.getD (i % 5).toNat ""
theorem wAt_get {ws : List Str} (h : ws.length = 5) (i : Int) {k : D → Prop} (hk : k (.str (wAt ws i))) : ∃ d, L2.atI (ws.map D.str) (i % 5) = some d ∧ k d :=
  atI_m (Int.emod_nonneg _ (by decide)) (by rw [h]; exact Int.emod_lt_of_pos _ (by decide)) fun x hx => by
    have : wAt ws i = x := by
      unfold wAt
      rw [List.getD_eq_getElem?_getD, hx]
      rfl
    rwa [this] at hk
theorem wAt_mem {ws : List Str} (h : ws.length = 5) (i : Int) : wAt ws i ∈ ws := by
  unfold wAt
  have h1 := Int.emod_nonneg i (b := 5) (by decide)
  have h2 := Int.emod_lt_of_pos i (b := 5) (by decide)
  have h3 : (i % 5).toNat < ws.length := by omega
  rw [List.getD_eq_getElem?_getD, List.getElem?_eq_getElem h3]
  exact List.getElem_mem h3
def wRow (ws : List Str) (s st : Int) (n : Nat) : List Str := (List.range n).map fun (j : Nat) => wAt ws (s + st * (j : Int))
theorem wRow_all : ∀ ws ∈ [kindWs, fieldWs, routWs], ∀ st ∈ [(2 : Int), 3], ∀ n ∈ List.range 5, ∀ s ∈ List.range 5, (wRow ws (s : Int) st n).Nodup := by decide +kernel
theorem wRow_nodup {ws : List Str} (h : ws ∈ [kindWs, fieldWs, routWs]) {st s : Int} (hs : st ∈ [(2 : Int), 3]) {n : Nat} (hn : n ≤ 4) (h0 : 0 ≤ s) (h1 : s < 5) : (wRow ws s st n).Nodup := by
  obtain ⟨k, rfl⟩ := Int.eq_ofNat_of_zero_le h0
  exact wRow_all ws h st hs n (List.mem_range.mpr (by omega)) k (List.mem_range.mpr (by omega))
theorem wRow_mem {ws : List Str} (h : ws.length = 5) {s st : Int} {n : Nat} : ∀ z ∈ wRow ws s st n, z ∈ ws := fun z hz => by
  obtain ⟨j, _, rfl⟩ := List.mem_map.mp hz
  exact wAt_mem h _
theorem wRow_succ {ws : List Str} {s st : Int} {n : Nat} : wRow ws s st (n + 1) = wRow ws s st n ++ [wAt ws (s + st * (n : Int))] := by
  unfold wRow
  rw [List.range_succ, List.map_append]
  rfl
theorem ws_words : ∀ z ∈ kindWs ++ fieldWs ++ routWs, isWS z = true ∧ z ≠ "zz" ∧ z ≠ "q1" := by decide +kernel
def eKl (k : Kd) : D := .lst [.str k.1, .lst (k.2.map .str)]
def eRl (r : Str × Sig) : D := .lst [.str r.1, .lst (r.2.ts.map .str), .lst (r.2.ss.map .bl), .lst (r.2.ws.map eP)]
/-- what is drawn -/
structure BkG (ks : List Kd) (rs : List (Str × Sig)) : Prop where
  k1 : 1 ≤ ks.length
  k3 : ks.length ≤ 3
  kn : ∀ k ∈ ks, k.1 ∈ kindWs
  kd : (ks.map (·.1)).Nodup
  kf : ∀ k ∈ ks, 1 ≤ k.2.length ∧ k.2.length ≤ 3 ∧ k.2.Nodup ∧ ∀ f ∈ k.2, f ∈ fieldWs
  r4 : rs.length ≤ 4
  rn : ∀ r ∈ rs, r.1 ∈ routWs
  rd : (rs.map (·.1)).Nodup
  rg : ∀ r ∈ rs, r.2.ts.length ≤ 3 ∧ (∀ t ∈ r.2.ts, t ∈ ks.map (·.1)) ∧ r.2.ss.length = r.2.ts.length ∧ (∀ p ∈ r.2.ws, p ∈ sortsK ks) ∧ srtP r.2.ws = r.2.ws ∧ r.2.ws.length ≤ 9
/-- .. while it is drawn: the kinds -/
structure KInv (f : Int) (ks : List Kd) (so : List Pr) : Prop where
  n : ks.map (·.1) = wRow kindWs f 2 ks.length
  kf : ∀ k ∈ ks, 1 ≤ k.2.length ∧ k.2.length ≤ 3 ∧ k.2.Nodup ∧ ∀ f ∈ k.2, f ∈ fieldWs
  pm : so.Perm (sortsK ks)
  pw : so.Pairwise fun a b => pLe a b = true
def rOk (ks : List Kd) (g : Sig) : Prop := g.ts.length ≤ 3 ∧ (∀ t ∈ g.ts, t ∈ ks.map (·.1)) ∧ g.ss.length = g.ts.length ∧ (∀ p ∈ g.ws, p ∈ sortsK ks) ∧ srtP g.ws = g.ws ∧ g.ws.length ≤ 9
abbrev gBk (f : Int) (ns : List Int) (ks : List Kd) (so : List Pr) : Gm := ⟨[.ow (Cn ns), .im (.lst (kindWs.map .str)), .im (.lst (fieldWs.map .str)), .im (.int f), .ow (.lst (ks.map eKl)), .im (.lst (so.map eP)), .un, .un, .un, .un, .un, .un, .un, .un, .un, .un, .un], [], []⟩
abbrev gBr (f : Int) (ns : List Int) (ks : List Kd) (so : List Pr) (rs : List (Str × Sig)) : Gm := ⟨[.ow (Cn ns), .im (.lst (kindWs.map .str)), .im (.lst (fieldWs.map .str)), .im (.int f), .im (.lst (ks.map eKl)), .im (.lst (so.map eP)), .un, .ow (.lst (rs.map eRl)), .un, .un, .un, .un, .un, .un, .un, .un, .un], [], []⟩
abbrev RB (R : Rr) : ExD := fun c pl Γ => R c pl (bcOf (some 0) Γ)
abbrev DB (Φ : RD → Option Cl → Prop) : EndsD := { nx := fun Γ => Φ (.im .non) (bcOf (some 0) Γ), rt := fun r Γ => r.nwp fun r => Φ r (bcOf (some 0) Γ), bk := fun _ => False, ct := fun _ => False }
theorem sortsK_len {ks : List Kd} (h : ∀ k ∈ ks, k.2.length ≤ 3) : (sortsK ks).length ≤ 3 * ks.length := by
  induction ks with
  | nil => simp [sortsK]
  | cons k ks ih =>
    have a := ih fun q hq => h q (List.mem_cons_of_mem _ hq)
    have b := h k List.mem_cons_self
    simp only [sortsK, List.flatMap_cons, List.length_append, List.length_map, List.length_cons] at a ⊢
    omega
theorem sortsK_app (ks : List Kd) (k : Kd) : sortsK (ks ++ [k]) = sortsK ks ++ k.2.map fun f => (k.1, f) := by simp [sortsK]
theorem sortsK_nodup {ks : List Kd} (h1 : (ks.map (·.1)).Nodup) (h2 : ∀ k ∈ ks, k.2.Nodup) : (sortsK ks).Nodup := by
  induction ks with
  | nil => exact List.nodup_nil
  | cons k ks ih =>
    rw [List.map_cons, List.nodup_cons] at h1
    have a := ih h1.2 fun q hq => h2 q (List.mem_cons_of_mem _ hq)
    show ((k.2.map fun f => (k.1, f)) ++ sortsK ks).Nodup
    refine List.nodup_append.mpr ⟨(h2 k List.mem_cons_self).map (f := fun f => (k.1, f)) fun a b h e => h (Prod.ext_iff.mp e).2, a, fun p hp q hq e => ?_⟩
    subst e
    obtain ⟨f, _, rfl⟩ := List.mem_map.mp hp
    obtain ⟨k', hk', hq'⟩ := List.mem_flatMap.mp hq
    obtain ⟨f', _, e⟩ := List.mem_map.mp hq'
    exact h1.1 (List.mem_map.mpr ⟨k', hk', (Prod.ext_iff.mp e).1⟩)
section
variable {Φ : RD → Option Cl → Prop} {R : Rr}
theorem atL {xs : List D} {x : D} {k : D → Prop} : (∃ d, L2.atI (xs ++ [x]) (xs.length : Int) = some d ∧ k d) = k x := by
  have : L2.atI (xs ++ [x]) (xs.length : Int) = some x := by
    rw [atI_nat (by simp)]
    simp
  rw [this]
  simp
/-- one kind more -/
theorem kind_step {f : Int} {ns : List Int} {ks : List Kd} {so : List Pr} {i : Nat} {K : Gm → Prop} {bk : Gm → Prop} {rt : RD → Gm → Prop} {Rx : ExD} (hi : KInv f ks so) (f0 : 0 ≤ f) (f5 : f < 5) (e : i = ks.length) (h3 : ks.length < 3)
    (h : ∀ ns k so', KInv f (ks ++ [k]) so' → ∀ Γ, wipeD Γ [6, 8, 9] = gBk f ns (ks ++ [k]) so' → K Γ) :
    T_law_book_7 Rx ⟨K, rt, bk, K⟩ ((gBk f ns ks so).set 6 (.im (.int (0 + (i : Int))))) := by
  subst e
  simp only [e_T_law_book_7, st, rd, gx, rx, ri, dk, dv, kb, ix, ox, bx, Int.zero_add]
  refine ⟨rfl, rfl, take_ok (by decide) fun s ns s0 s5 => ?_⟩
  simp only [st, rd, gx, rx, ri, dk, dv, kb, ix, ox, bx, e_T_law_book_8, e_C_law_book_8]
  refine ⟨rfl, rfl, take_ok (by decide) fun r ns r0 r3 => ?_⟩
  simp only [st, rd, gx, rx, ri, dk, dv, kb, ix, ox, bx, dv, rangeDs_map]
  obtain ⟨n, hn⟩ : ∃ n : Nat, 1 + r = (n : Int) ∧ 1 ≤ n ∧ n ≤ 3 := ⟨(1 + r).toNat, by omega, by omega, by omega⟩
  rw [hn.1]
  refine ⟨by omega, by omega, rfl, ?_⟩
  rw [Int.toNat_natCast]
  refine lc_map (f := fun (i : Nat) => D.int (0 + (i : Int))) (fun j => .str (wAt fieldWs (s + 3 * (j : Int)))) (List.range n) (small (by simp; omega)) (fun j hj K hK => ?_) ?_
  · simp only [st, rd, gx, rx, ri, dk, dv, kb, ix, ox, bx, dv, Int.zero_add]
    exact ⟨.inl ⟨by decide, by decide⟩, by decide, wAt_get rfl _ (hK _ (by simp only [gx]))⟩
  have e1 : (List.range n).map (fun j : Nat => D.str (wAt fieldWs (s + 3 * (j : Int)))) = (wRow fieldWs s 3 n).map .str := by
    unfold wRow
    rw [List.map_map]
    rfl
  rw [e1]
  simp only [st, rd, gx, rx, ri, dk, dv, kb, ix, ox, bx, dv, e_T_law_book_9, Int.zero_add]
  refine ⟨.inl ⟨by decide, by decide⟩, by decide, wAt_get rfl _ ⟨Nat.le_of_ble_eq_true rfl, smallLt (by rw [List.length_map]; omega), ?_⟩⟩
  let k : Kd := (wAt kindWs (f + 2 * (ks.length : Int)), wRow fieldWs s 3 n)
  have e2 : ks.map eKl ++ [D.lst [.str (wAt kindWs (f + 2 * (ks.length : Int))), .lst ((wRow fieldWs s 3 n).map .str)]] = (ks ++ [k]).map eKl := by
    rw [List.map_append]
    rfl
  rw [e2]
  have kl : (wRow fieldWs s 3 n).length = n := by simp [wRow]
  have hs3 := sortsK_len (ks := ks) fun k hk => (hi.kf k hk).2.1
  have sol := hi.pm.length_eq
  refine sortL_same (so ++ k.2.map fun f => (k.1, f)) (fun Ψ q => ?_) ?_
  · simp only [st, rd, gx, rx, ri, dk, dv, kb, ix, ox, bx, e_C_law_book_10]
    refine ⟨rfl, lc_map (f := D.str) (fun f => eP (k.1, f)) (wRow fieldWs s 3 n) (small (by omega)) (fun f hf K hK => ?_) ?_⟩
    · have atk : ∀ {k' : D → Prop}, (∃ d, L2.atI ((ks ++ [k]).map eKl) (ks.length : Int) = some d ∧ k' d) = k' (eKl k) := fun {k'} => by
        have := @atL (ks.map eKl) (eKl k) k'
        rw [List.length_map] at this
        rw [← this, List.map_append]
        rfl
      simp only [st, rd, gx, rx, ri, dk, dv, kb, ix, ox, bx]
      rw [atk]
      simp only [eKl, ix, at2]
      exact ⟨Nat.le_of_ble_eq_true rfl, hK _ (by simp only [gx])⟩
    · simp only [st, rd, gx, rx, ri, dk, dv, kb, ix, ox, bx, dv]
      refine ⟨small (by simp; omega), ?_⟩
      have e3 : so.map eP ++ (wRow fieldWs s 3 n).map (fun f => eP (k.1, f)) = (so ++ k.2.map fun f => (k.1, f)).map eP := by
        rw [List.map_append, List.map_map]
        rfl
      rw [e3]
      exact q
  · simp only [st, rd, gx, rx, ri, dk, dv, kb, ix, ox, bx]
    refine h ns k _ ⟨?_, ?_, ?_, ?_⟩ _ (by simp only [gx]; rfl)
    · rw [List.map_append, hi.n, List.length_append, List.length_cons, List.length_nil, wRow_succ]
      rfl
    · intro q hq
      rcases List.mem_append.mp hq with hq | hq
      · exact hi.kf q hq
      · simp only [List.mem_singleton] at hq
        subst hq
        exact ⟨by rw [kl]; exact hn.2.1, by rw [kl]; exact hn.2.2, wRow_nodup (by simp) (by simp) (by omega) s0 s5, wRow_mem rfl⟩
    · rw [sortsK_app]
      exact (List.mergeSort_perm _ _).trans (hi.pm.append_right _)
    · exact List.pairwise_mergeSort ord_pLe.tr ord_pLe.tot _
/-- one routine more -/
theorem rout_step {f : Int} {ns : List Int} {ks : List Kd} {so : List Pr} {rs : List (Str × Sig)} {i : Nat} {K : Gm → Prop} {bk : Gm → Prop} {rt : RD → Gm → Prop} {Rx : ExD} (hi : KInv f ks so) (f0 : 0 ≤ f) (f5 : f < 5) (k1 : 1 ≤ ks.length) (k3 : ks.length ≤ 3) (h4 : rs.length < 4)
    (h : ∀ ns g, rOk ks g → ∀ Γ, wipeD Γ [6, 10, 11, 12, 13] = gBr f ns ks so (rs ++ [(wAt routWs (f + 2 * (i : Int)), g)]) → K Γ) :
    T_law_book_13 Rx ⟨K, rt, bk, K⟩ ((gBr f ns ks so rs).set 6 (.im (.int (0 + (i : Int))))) := by
  have hs3 := sortsK_len (ks := ks) fun k hk => (hi.kf k hk).2.1
  have sol := hi.pm.length_eq
  have nd : (ks.map (·.1)).Nodup := by
    rw [hi.n]
    exact wRow_nodup (by simp) (by simp) (by omega) f0 f5
  simp only [e_T_law_book_13, e_C_law_book_13, st, rd, gx, rx, ri, dk, dv, kb, ix, ox, bx, Int.zero_add]
  refine ⟨rfl, rfl, take_ok (by decide) fun r ns r0 r4 => ?_⟩
  simp only [st, rd, gx, rx, ri, dk, dv, kb, ix, ox, bx, rangeDs_map]
  refine ⟨by omega, by omega, rfl, ?_⟩
  refine lc_map2 (f := fun (i : Nat) => D.int (0 + (i : Int))) (fun ns : List Int => (gBr f ns ks so rs).set 6 (.im (.int (i : Int)))) D.str (fun _ z => z ∈ ks.map (·.1)) (fun _ => True) (small (by simp; omega)) trivial (fun j hj ns _ K hK => ?_) fun ts ns lt wt _ => ?_
  · simp only [st, rd, gx, rx, ri, dk, dv, kb, ix, ox, bx, dv, List.length_map]
    refine ⟨rfl, rfl, take_ok (by omega) fun r ns r0 r4 => ?_⟩
    simp only [st, rd, gx, rx, ri, dk, dv, kb, ix, ox, bx]
    refine atI_m (f := eKl) r0 r4 fun k hk => ?_
    simp only [eKl, ix, at2]
    exact hK k.1 ns _ (List.mem_map_of_mem (List.mem_of_getElem? hk)) trivial (by simp only [gx])
  have lt3 : ts.length ≤ 3 := by rw [lt, List.length_range]; omega
  simp only [st, rd, gx, rx, ri, dk, dv, kb, ix, ox, bx, e_T_law_book_14, e_C_law_book_14]
  refine ⟨rfl, lc_map2 (f := D.str) (fun ns : List Int => ((gBr f ns ks so rs).set 6 (.im (.int (i : Int)))).set 10 (.im (.lst (ts.map .str)))) D.bl (fun _ _ => True) (fun _ => True) (small (by omega)) trivial (fun j hj ns _ K hK => ?_) fun ss ns ls _ _ => ?_⟩
  · simp only [st, rd, gx, rx, ri, dk, dv, kb, ix, ox, bx]
    refine ⟨rfl, rfl, take_ok (by decide) fun r ns r0 r4 => ?_⟩
    simp only [st, rd, gx, rx, ri, dk, dv, kb, ix, ox, bx, dv, D.dt, Bool.and_self, true_and, Bool.false_eq_true, if_false]
    exact hK _ ns _ trivial trivial (by simp only [gx])
  simp only [st, rd, gx, rx, ri, dk, dv, kb, ix, ox, bx, e_T_law_book_15]
  refine ⟨rfl, rfl, take_ok (by decide) fun b ns b0 b5 => ?_⟩
  simp only [st, rd, gx, rx, ri, dk, dv, kb, ix, ox, bx, e_T_law_book_16, e_C_law_book_16, dv, List.length_map, rangeDs_map]
  refine ⟨by omega, by omega, rfl, ?_⟩
  rw [Int.toNat_natCast]
  refine lc_ok (f := fun (i : Nat) => D.int (0 + (i : Int))) (fun j => decide (b / 2 ^ j % 2 = 0)) (fun j => eP (so.getD j ("", ""))) (List.range so.length) [] (small (by simp; omega)) (fun j hj K hK => ?_) ?_
  · have hj2 : j < so.length := List.mem_range.mp hj
    simp only [st, rd, gx, rx, ri, dk, dv, kb, ix, ox, bx, dv, Int.zero_add, Int.toNat_natCast, D.dt, Bool.and_self, true_and, Bool.false_eq_true, if_false, eqv_int]
    refine ⟨by omega, by decide, ?_⟩
    cases e : decide (b / 2 ^ j % 2 = 0) with
    | false =>
      simp only [e, Bool.false_eq_true, if_false] at hK ⊢
      exact hK _ (by simp only [gx])
    | true =>
      simp only [e, if_true] at hK ⊢
      refine atI_m (f := eP) (by omega) (by omega) fun p hp => ?_
      rw [Int.toNat_natCast] at hp
      rw [List.getD_eq_getElem?_getD, hp] at hK
      exact hK _ (by simp only [gx])
  let ws := ((List.range so.length).filter fun j => decide (b / 2 ^ j % 2 = 0)).map fun j => so.getD j ("", "")
  have ew : ((List.range so.length).filter fun j => decide (b / 2 ^ j % 2 = 0)).map (fun j => eP (so.getD j ("", ""))) = ws.map eP := by
    rw [List.map_map]
    rfl
  have sub : ws.Sublist so := by
    have e : (List.range so.length).map (fun j => so.getD j ("", "")) = so := by
      refine List.ext_getElem (by simp) fun n h1 h2 => ?_
      rw [List.getElem_map, List.getElem_range, List.getD_eq_getElem?_getD, List.getElem?_eq_getElem h2]
      rfl
    have := (List.filter_sublist (l := List.range so.length) (p := fun j => decide (b / 2 ^ j % 2 = 0))).map fun j => so.getD j ("", "")
    rwa [e] at this
  rw [List.nil_append, ew]
  simp only [st, rd, gx, rx, ri, dk, dv, kb, ix, ox, bx, dv, Int.zero_add]
  refine ⟨Nat.le_of_ble_eq_true rfl, .inl ⟨by decide, by decide⟩, by decide, wAt_get (ws := routWs) rfl _ ⟨Nat.le_of_ble_eq_true rfl, smallLt (by rw [List.length_map]; omega), ?_⟩⟩
  have wn : ws.Nodup := sub.nodup (hi.pm.nodup_iff.mpr (sortsK_nodup nd fun k hk => (hi.kf k hk).2.2.1))
  have l9 := sub.length_le
  refine h ns ⟨ts, ss, ws⟩ ⟨lt3, fun t ht => (wt t ht).elim fun _ z => z.2, by rw [ls], fun p hp => (hi.pm.mem_iff).mp (sub.subset hp), ?_, by show ws.length ≤ 9; omega⟩ _ ?_
  · exact (srt_uniq ord_pLe wn (fun k => Iff.rfl) (hi.pw.sublist sub)).symm
  · simp only [gx, gBr, List.map_append, List.map_cons, List.map_nil]
    rfl
end
end Vl

namespace Vl
open PySem PySem.Spec PyProof.Rows L2
section
variable {Φ : RD → Option Cl → Prop} {R : Rr}
theorem frz_eq : (∀ (c : Cl) (sl : List SD) (as : List Addr) (ws : List Wc) (i : Nat), sl[i]? = some (.ow c) → frzAt i ⟨sl, as, ws⟩ = ⟨sl.set i (.im c.d), as, ws⟩) := fun c sl as ws i h => by
  unfold frzAt
  show (match sl[i]? with | some (.ow c) => _ | _ => _) = _
  rw [h]
/-- the book that a law draws -/
theorem book_ok {ns : List Int} (h : ∀ ks rs ns', BkG ks rs → Φ (.fr (.lst [.lst (ks.map eKl), .lst (rs.map eRl)])) (some (Cn ns'))) : S_law_book [.ow (Cn ns)] Φ R := by
  refine s_body (Γ := ⟨[.ow _, .un, .un, .un, .un, .un, .un, .un, .un, .un, .un, .un, .un, .un, .un, .un, .un], [], []⟩) rfl rfl rfl rfl ?_
  simp only [e_T_law_book, e_T_law_book_2, e_T_law_book_3, st, rd, gx, rx, ri, dk, dv, kb, ix, ox, bx]
  refine ⟨Nat.le_of_ble_eq_true rfl, Nat.le_of_ble_eq_true rfl, rfl, rfl, take_ok (by decide) fun f ns f0 f5 => ?_⟩
  simp only [st, rd, gx, rx, ri, dk, dv, kb, ix, ox, bx, e_T_law_book_4, e_T_law_book_5, e_T_law_book_6, e_F_law_book_6]
  refine ⟨Nat.zero_le _, Nat.zero_le _, Nat.le_of_ble_eq_true rfl, rfl, rfl, take_ok (by decide) fun r ns r0 r4 => ?_⟩
  simp only [st, rd, gx, rx, ri, dk, dv, kb, ix, ox, bx]
  have e0 : ([D.int 1, .int 2, .int 1, .int 3] : List D) = ([1, 2, 1, 3] : List Int).map .int := rfl
  rw [e0]
  refine atI_m r0 r4 fun N hN => ?_
  have hN2 : 1 ≤ N ∧ N ≤ 3 := by
    have := List.mem_of_getElem? hN
    simp only [List.mem_cons, List.not_mem_nil, or_false] at this
    omega
  obtain ⟨n, rfl⟩ := Int.eq_ofNat_of_zero_le (a := N) (by omega)
  simp only [st, rd, gx, rx, ri, dk, dv, kb, ix, ox, bx, rangeDs_map, Int.toNat_natCast]
  refine ⟨by omega, by omega, ?_⟩
  refine for_inv (f := fun (i : Nat) => D.int (0 + (i : Int))) (fun a : List Int × List Kd × List Pr => gBk f a.1 a.2.1 a.2.2) (fun rest a => KInv f a.2.1 a.2.2 ∧ ∃ m, rest = List.range' a.2.1.length m ∧ a.2.1.length + m = n) ?_ ?_ (List.range n) (ns, [], []) ⟨⟨rfl, fun k hk => (by cases hk), .nil, .nil⟩, n, List.range_eq_range', by simp⟩
  · rintro x xs ⟨ns, ks, so⟩ ⟨hi, m, hm, hn⟩ K bk hK
    cases m with
    | zero => cases hm
    | succ m =>
      rw [List.range'_succ] at hm
      injection hm with hm1 hm2
      have hn2 : ks.length + (m + 1) = n := hn
      simp only [ri]
      refine kind_step hi f0 f5 hm1 (by omega) fun ns' k so' hi' Γ hΓ => hK (ns', ks ++ [k], so') Γ ⟨hi', m, ?_, ?_⟩ hΓ
      · show xs = List.range' (ks ++ [k]).length m
        rw [hm2, List.length_append]
        rfl
      · show (ks ++ [k]).length + m = n
        rw [List.length_append, List.length_cons, List.length_nil]
        omega
  rintro ⟨ns, ks, so⟩ ⟨hi, m, hm, hn⟩
  have lk : ks.length = n := by
    cases m with
    | zero => exact hn
    | succ m => rw [List.range'_succ] at hm; cases hm
  subst lk
  have lk1 : 1 ≤ ks.length ∧ ks.length ≤ 3 := by omega
  simp only [st, rd, gx, rx, ri, dk, dv, kb, ix, ox, bx, e_Z_law_book_6, e_T_law_book_11, e_T_law_book_12, e_F_law_book_12, frz_eq (Cl.lst (ks.map eKl)) [.ow (Cn ns), .im (.lst (kindWs.map .str)), .im (.lst (fieldWs.map .str)), .im (.int f), .ow (.lst (ks.map eKl)), .im (.lst (so.map eP)), .un, .un, .un, .un, .un, .un, .un, .un, .un, .un, .un] [] [] 4 rfl]
  refine ⟨Nat.zero_le _, Nat.le_of_ble_eq_true rfl, rfl, rfl, take_ok (by decide) fun r ns r0 r4 => ?_⟩
  simp only [st, rd, gx, rx, ri, dk, dv, kb, ix, ox, bx]
  have e0 : ([D.int 1, .int 2, .int 0, .int 3, .int 4] : List D) = ([1, 2, 0, 3, 4] : List Int).map .int := rfl
  rw [e0]
  refine atI_m r0 r4 fun N hN => ?_
  have hN2 : 0 ≤ N ∧ N ≤ 4 := by
    have := List.mem_of_getElem? hN
    simp only [List.mem_cons, List.not_mem_nil, or_false] at this
    omega
  obtain ⟨n, rfl⟩ := Int.eq_ofNat_of_zero_le (a := N) (by omega)
  simp only [st, rd, gx, rx, ri, dk, dv, kb, ix, ox, bx, rangeDs_map, Int.toNat_natCast]
  refine ⟨by omega, by omega, ?_⟩
  refine for_inv (f := fun (i : Nat) => D.int (0 + (i : Int))) (fun a : List Int × List (Str × Sig) => gBr f a.1 ks so a.2) (fun rest a => (a.2.map (·.1) = wRow routWs f 2 a.2.length ∧ ∀ r ∈ a.2, rOk ks r.2) ∧ ∃ m, rest = List.range' a.2.length m ∧ a.2.length + m = n) ?_ ?_ (List.range n) (ns, []) ⟨⟨rfl, fun k hk => (by cases hk)⟩, n, List.range_eq_range', by simp⟩
  · rintro x xs ⟨ns, rs⟩ ⟨⟨hr1, hr2⟩, m, hm, hn⟩ K bk hK
    cases m with
    | zero => cases hm
    | succ m =>
      rw [List.range'_succ] at hm
      injection hm with hm1 hm2
      have hn2 : rs.length + (m + 1) = n := hn
      replace hm1 : x = rs.length := hm1
      simp only [ri]
      refine rout_step hi f0 f5 lk1.1 lk1.2 (by omega) fun ns' g hg Γ hΓ => hK (ns', rs ++ [(wAt routWs (f + 2 * (x : Int)), g)]) Γ ⟨⟨?_, ?_⟩, m, ?_, ?_⟩ hΓ
      · show (rs ++ [_]).map _ = wRow routWs f 2 (rs ++ [_]).length
        rw [List.map_append, hr1, List.length_append, List.length_cons, List.length_nil, wRow_succ, hm1]
        rfl
      · intro r hr
        rcases List.mem_append.mp hr with hr | hr
        · exact hr2 r hr
        · simp only [List.mem_singleton] at hr
          subst hr
          exact hg
      · show xs = List.range' (rs ++ [_]).length m
        rw [hm2, List.length_append]
        rfl
      · show (rs ++ [_]).length + m = n
        rw [List.length_append, List.length_cons, List.length_nil]
        omega
  rintro ⟨ns, rs⟩ ⟨⟨hr1, hr2⟩, m, hm, hn⟩
  have lr : rs.length = n := by
    cases m with
    | zero => exact hn
    | succ m => rw [List.range'_succ] at hm; cases hm
  subst lr
  simp only [st, rd, gx, rx, ri, dk, dv, kb, ix, ox, bx, e_Z_law_book_12, frz_eq (Cl.lst (rs.map eRl)) [.ow (Cn ns), .im (.lst (kindWs.map .str)), .im (.lst (fieldWs.map .str)), .im (.int f), .im (.lst (ks.map eKl)), .im (.lst (so.map eP)), .un, .ow (.lst (rs.map eRl)), .un, .un, .un, .un, .un, .un, .un, .un, .un] [] [] 7 rfl]
  have kn : ∀ k ∈ ks, k.1 ∈ kindWs := fun k hk => wRow_mem rfl _ (hi.n ▸ List.mem_map_of_mem (f := fun k : Kd => k.1) hk)
  have rn : ∀ r ∈ rs, r.1 ∈ routWs := fun k hk => wRow_mem rfl _ (hr1 ▸ List.mem_map_of_mem (f := fun k : Str × Sig => k.1) hk)
  exact ⟨Nat.le_of_ble_eq_true rfl, h ks rs ns ⟨by omega, by omega, kn, by rw [hi.n]; exact wRow_nodup (by simp) (by simp) (by omega) f0 f5, hi.kf, by omega, rn, by rw [hr1]; exact wRow_nodup (by simp) (by simp) (by omega) f0 f5, hr2⟩⟩
end
end Vl

namespace Vl
open PySem PySem.Spec PyProof.Rows L2
/-! ### books of typed parts -/
def rawK (k : Kd) : D × List D := (D.str k.1, k.2.map D.str)
def rawR (r : Str × Sig) : D × Sig := (D.str r.1, r.2)
structure BkT (ks : List Kd) (rs : List (Str × Sig)) : Prop where
  k1 : 1 ≤ ks.length
  k3 : ks.length ≤ 3
  kn : ∀ k ∈ ks, isWS k.1 = true
  kd : (ks.map (·.1)).Nodup
  kf : ∀ k ∈ ks, 1 ≤ k.2.length ∧ k.2.length ≤ 3 ∧ k.2.Nodup ∧ ∀ f ∈ k.2, isWS f = true
  r4 : rs.length ≤ 4
  rn : ∀ r ∈ rs, isWS r.1 = true
  rd : (rs.map (·.1)).Nodup
  rg : ∀ r ∈ rs, roomB ks r.2 = true
theorem isDW_true {zs : List Str} (h : ∀ z ∈ zs, isWS z = true) (n : zs.Nodup) : isDW (zs.map .str) = true := by rw [isDW_words zs h, decide_eq_true n]
theorem rawK_fst (ks : List Kd) : (ks.map rawK).map (·.1) = (ks.map (·.1)).map .str := by rw [List.map_map, List.map_map]; rfl
theorem rawR_fst (rs : List (Str × Sig)) : (rs.map rawR).map (·.1) = (rs.map (·.1)).map .str := by rw [List.map_map, List.map_map]; rfl
theorem tyK_raw (ks : List Kd) : (ks.map rawK).map tyK = ks := by
  rw [List.map_map]
  conv => rhs; rw [← List.map_id ks]
  refine List.map_congr_left fun k _ => ?_
  show (k.1, strsOf (k.2.map D.str)) = (k.1, k.2)
  rw [strsOf_map]
theorem BkT.ok {ks : List Kd} {rs : List (Str × Sig)} (h : BkT ks rs) : bkOk (ks.map rawK) (rs.map rawR) = true := by
  have a1 : isDW ((ks.map rawK).map (·.1)) = true := by
    rw [rawK_fst]
    exact isDW_true (fun z hz => by obtain ⟨k, hk, rfl⟩ := List.mem_map.mp hz; exact h.kn k hk) h.kd
  have a2 : isDW ((rs.map rawR).map (·.1)) = true := by
    rw [rawR_fst]
    exact isDW_true (fun z hz => by obtain ⟨k, hk, rfl⟩ := List.mem_map.mp hz; exact h.rn k hk) h.rd
  have a3 : (ks.map rawK).all kOk = true := List.all_eq_true.mpr fun q hq => by
    obtain ⟨k, hk, rfl⟩ := List.mem_map.mp hq
    obtain ⟨b1, b2, b3, b4⟩ := h.kf k hk
    simp only [kOk, rawK, List.length_map, decide_eq_true b1, decide_eq_true b2, isDW_true b4 b3, Bool.and_self]
  have a4 : ((rs.map rawR).all fun r => roomB ((ks.map rawK).map tyK) r.2) = true := List.all_eq_true.mpr fun q hq => by
    obtain ⟨r, hr, rfl⟩ := List.mem_map.mp hq
    rw [tyK_raw]
    exact h.rg r hr
  simp only [bkOk, a1, a2, a3, a4, List.length_map, decide_eq_true h.k1, decide_eq_true h.k3, decide_eq_true h.r4, Bool.and_self]
theorem BkT.sm {ks : List Kd} {rs : List (Str × Sig)} (h : BkT ks rs) : (Bk.mk ks rs).Sm := ⟨by have := h.k3; show ks.length ≤ 20; omega, fun k hk => by have := (h.kf k hk).2.1; omega, by have := h.r4; show rs.length ≤ 20; omega⟩
theorem roomB_ok {ks : List Kd} {g : Sig} (h1 : ∀ t ∈ g.ts, t ∈ ks.map (·.1)) (h2 : ∀ p ∈ g.ws, p ∈ sortsK ks) : roomB ks g = true := by
  rw [roomB, Bool.and_eq_true]
  exact ⟨List.all_eq_true.mpr fun t ht => decide_eq_true (h1 t ht), List.all_eq_true.mpr fun t ht => decide_eq_true (h2 t ht)⟩
theorem BkG.t {ks : List Kd} {rs : List (Str × Sig)} (h : BkG ks rs) : BkT ks rs :=
  ⟨h.k1, h.k3, fun k hk => (ws_words _ (by simp [h.kn k hk])).1, h.kd, fun k hk => ⟨(h.kf k hk).1, (h.kf k hk).2.1, (h.kf k hk).2.2.1, fun f hf => (ws_words _ (by simp [(h.kf k hk).2.2.2 f hf])).1⟩, h.r4, fun r hr => (ws_words _ (by simp [h.rn r hr])).1, h.rd, fun r hr => roomB_ok (h.rg r hr).2.1 (h.rg r hr).2.2.2.1⟩
theorem sortsK_word {ks : List Kd} (h1 : ∀ k ∈ ks, isWS k.1 = true) (h2 : ∀ k ∈ ks, ∀ f ∈ k.2, isWS f = true) : ∀ p ∈ sortsK ks, isP p = true := fun p hp => by
  obtain ⟨k, hk, hq⟩ := List.mem_flatMap.mp hp
  obtain ⟨f, hf, rfl⟩ := List.mem_map.mp hq
  simp [isP, h1 k hk, h2 k hk f hf]
theorem BkG.sig {ks : List Kd} {rs : List (Str × Sig)} (h : BkG ks rs) {r : Str × Sig} (hr : r ∈ rs) : r.2.Ok := by
  obtain ⟨a1, a2, a3, a4, a5, a6⟩ := h.rg r hr
  refine ⟨a1, fun t ht => ?_, a3, fun p hp => sortsK_word h.t.kn (fun k hk => (h.t.kf k hk).2.2.2) p (a4 p hp), by omega⟩
  obtain ⟨k, hk, rfl⟩ := List.mem_map.mp (a2 t ht)
  exact h.t.kn k hk
theorem BkG.srt {ks : List Kd} {rs : List (Str × Sig)} (h : BkG ks rs) {r : Str × Sig} (hr : r ∈ rs) : r.2.srt = r.2 := by
  have := (h.rg r hr).2.2.2.2.1
  unfold Sig.srt
  rw [this]
section
variable {Φ : RD → Option Cl → Prop} {R : Rr}
/-- making a book of typed parts -/
theorem bkT_ok {ks : List Kd} {rs : List (Str × Sig)} {ek er : D} {fk : Kd → D} {fr : Str × Sig → D} (h1 : Sq ek (ks.map fk)) (h2 : Sq er (rs.map fr)) (hk : ∀ k ∈ ks, ∃ f, Sq f (k.2.map .str) ∧ Sq (fk k) [.str k.1, f]) (hr : ∀ r ∈ rs, Sq (fr r) [.str r.1, sgD r.2])
    (wk : ∀ k ∈ ks, isWS k.1 = true ∧ (∀ f ∈ k.2, isWS f = true) ∧ k.2.length ≤ 20) (wr : ∀ r ∈ rs, isWS r.1 = true) (lk : ks.length ≤ 20) (lr : rs.length ≤ 20)
    (good : bkOk (ks.map rawK) (rs.map rawR) = true → Φ (.im .non) (some (.ins "Book" (bkFs ⟨ks, rs⟩)))) (bad : bkOk (ks.map rawK) (rs.map rawR) = false → ∀ c, R "BadBook" none c) : S_BookX_initX [.ow (.ins "Book" []), .im ek, .im er] Φ R := by
  have e1 : ks.map fk = (ks.map fun k => (fk k, rawK k)).map (·.1) := by rw [List.map_map]; rfl
  have e2 : rs.map fr = (rs.map fun k => (fr k, rawR k)).map (·.1) := by rw [List.map_map]; rfl
  have e3 : (ks.map fun k => (fk k, rawK k)).map (·.2) = ks.map rawK := by rw [List.map_map]; rfl
  have e4 : (rs.map fun k => (fr k, rawR k)).map (·.2) = rs.map rawR := by rw [List.map_map]; rfl
  rw [e1] at h1
  rw [e2] at h2
  refine bkI_ok h1 h2 (fun x hx => ?_) (fun x hx => ?_) (by rw [List.length_map]; exact lk) (by rw [List.length_map]; exact lr) (fun e => ?_) fun e => bad (by rw [e3, e4] at e; exact e)
  · obtain ⟨k, hk2, rfl⟩ := List.mem_map.mp hx
    obtain ⟨w1, w2, w3⟩ := wk k hk2
    refine ⟨hk k hk2, isWS_wv w1, fun y hy => ?_, by show (k.2.map D.str).length ≤ 20; rw [List.length_map]; exact w3⟩
    obtain ⟨f, hf, rfl⟩ := List.mem_map.mp (show y ∈ k.2.map D.str from hy)
    exact isWS_wv (w2 f hf)
  · obtain ⟨r, hr2, rfl⟩ := List.mem_map.mp hx
    exact ⟨hr r hr2, isWS_wv (wr r hr2)⟩
  · rw [e3, e4] at e
    have g := good e
    have q1 : rKs (ks.map fun k => (fk k, rawK k)) = .tup (ks.map eK) := by unfold rKs; rw [List.map_map]; rfl
    have q2 : rRs (rs.map fun k => (fr k, rawR k)) = .tup (rs.map eR) := by unfold rRs; rw [List.map_map]; rfl
    rw [q1, q2]
    exact g
/-- .. of drawn ones -/
theorem bkG_ok {ks : List Kd} {rs : List (Str × Sig)} {ek er : D} {fk : Kd → D} {fr : Str × Sig → D} (t : BkT ks rs) (h1 : Sq ek (ks.map fk)) (h2 : Sq er (rs.map fr)) (hk : ∀ k ∈ ks, ∃ f, Sq f (k.2.map .str) ∧ Sq (fk k) [.str k.1, f]) (hr : ∀ r ∈ rs, Sq (fr r) [.str r.1, sgD r.2])
    (good : Φ (.im .non) (some (.ins "Book" (bkFs ⟨ks, rs⟩)))) : S_BookX_initX [.ow (.ins "Book" []), .im ek, .im er] Φ R :=
  bkT_ok h1 h2 hk hr (fun k hk => ⟨t.kn k hk, (t.kf k hk).2.2.2, by have := (t.kf k hk).2.1; omega⟩) t.rn (by have := t.k3; omega) (by have := t.r4; omega) (fun _ => good) fun e => by rw [t.ok] at e; cases e
end
end Vl

namespace Vl
open PySem PySem.Spec PyProof.Rows L2
def odds : List D := [.str "", .str "A", .str "a b", .str "0a", .str "abcdefghi", .str "a_", .non, .int 7, .tup [.str "a"], .str "a\n"]
theorem odds_no : ∀ d ∈ odds, isW d = false ∧ WV d := by
  have sl : ∀ z : Str, z.length ≤ 1000 → WV (.str z) := fun z h => .inr ⟨z, rfl, small h⟩
  intro d hd
  simp only [odds, List.mem_cons, List.not_mem_nil, or_false] at hd
  rcases hd with rfl | rfl | rfl | rfl | rfl | rfl | rfl | rfl | rfl | rfl
  · exact ⟨by decide +kernel, sl _ (by decide +kernel)⟩
  · exact ⟨by decide +kernel, sl _ (by decide +kernel)⟩
  · exact ⟨by decide +kernel, sl _ (by decide +kernel)⟩
  · exact ⟨by decide +kernel, sl _ (by decide +kernel)⟩
  · exact ⟨by decide +kernel, sl _ (by decide +kernel)⟩
  · exact ⟨by decide +kernel, sl _ (by decide +kernel)⟩
  · exact ⟨rfl, .inl ⟨_, rfl, by decide⟩⟩
  · exact ⟨rfl, .inl ⟨_, rfl, by decide⟩⟩
  · exact ⟨rfl, .inl ⟨_, rfl, by decide⟩⟩
  · exact ⟨by decide +kernel, sl _ (by decide +kernel)⟩
theorem bad_len {ks : List (D × List D)} {rs : List (D × Sig)} (h : ks.length = 0 ∨ 3 < ks.length) : bkOk ks rs = false := by
  have : ¬ (1 ≤ ks.length ∧ ks.length ≤ 3) := by omega
  rw [Bool.eq_false_iff]
  intro e
  simp only [bkOk, Bool.and_eq_true, decide_eq_true_eq] at e
  exact this e.1
theorem bad_names {ks : List (D × List D)} {rs : List (D × Sig)} (h : isDW (ks.map (·.1)) = false) : bkOk ks rs = false := by
  rw [Bool.eq_false_iff]
  intro e
  simp only [bkOk, Bool.and_eq_true] at e
  rw [h] at e
  cases e.2.1
theorem bad_k {ks : List (D × List D)} {rs : List (D × Sig)} (k : D × List D) (hk : k ∈ ks) (h : kOk k = false) : bkOk ks rs = false := by
  rw [Bool.eq_false_iff]
  intro e
  simp only [bkOk, Bool.and_eq_true] at e
  have := List.all_eq_true.mp e.2.2.1 k hk
  rw [h] at this
  cases this
theorem bad_rlen {ks : List (D × List D)} {rs : List (D × Sig)} (h : 4 < rs.length) : bkOk ks rs = false := by
  rw [Bool.eq_false_iff]
  intro e
  simp only [bkOk, Bool.and_eq_true, decide_eq_true_eq] at e
  have := e.2.2.2.1
  omega
theorem bad_rnames {ks : List (D × List D)} {rs : List (D × Sig)} (h : isDW (rs.map (·.1)) = false) : bkOk ks rs = false := by
  rw [Bool.eq_false_iff]
  intro e
  simp only [bkOk, Bool.and_eq_true] at e
  rw [h] at e
  cases e.2.2.2.2.1
theorem bad_room {ks : List (D × List D)} {rs : List (D × Sig)} (r : D × Sig) (hr : r ∈ rs) (h : roomB (ks.map tyK) r.2 = false) : bkOk ks rs = false := by
  rw [Bool.eq_false_iff]
  intro e
  simp only [bkOk, Bool.and_eq_true] at e
  have := List.all_eq_true.mp e.2.2.2.2.2 r hr
  rw [h] at this
  cases this
theorem dw_odd {ds : List D} (d : D) (hd : d ∈ ds) (h : isW d = false) : isDW ds = false := by
  rw [Bool.eq_false_iff]
  intro e
  rw [isDW, Bool.and_eq_true] at e
  have := List.all_eq_true.mp e.1 d hd
  rw [h] at this
  cases this
theorem strsOf_app (a b : List D) : strsOf (a ++ b) = strsOf a ++ strsOf b := by
  induction a with
  | nil => rfl
  | cons d a ih =>
    cases d <;> first | exact ih | exact congrArg (List.cons _) ih
theorem mem_strsOf {z : Str} : ∀ {ds : List D}, D.str z ∈ ds → z ∈ strsOf ds
  | [], h => by cases h
  | d :: ds, h => by
    rcases List.mem_cons.mp h with rfl | h
    · exact List.mem_cons_self
    · have := mem_strsOf h
      cases d <;> first | exact this | exact List.mem_cons_of_mem _ this
theorem dw_dup {a b : List D} {z : Str} (ha : D.str z ∈ a) (hb : D.str z ∈ b) : isDW (a ++ b) = false := by
  rw [Bool.eq_false_iff]
  intro e
  rw [isDW, Bool.and_eq_true, strsOf_app] at e
  exact (List.nodup_append.mp (of_decide_eq_true e.2)).2.2 z (mem_strsOf ha) z (mem_strsOf hb) rfl
end Vl

namespace Vl
open PySem PySem.Spec PyProof.Rows L2
theorem sx : (∀ (n m : Nat) (c : Str) (sp : SpD) (U V : TAD) (R : ExD) (Γ : Gm) (Φ : Cl → Gm → Prop), tMakeOK n m c sp U V R Γ Φ = U R Γ fun ds Γ1 => V R Γ1 fun es Γ' => ds.length = n ∧ es.length = m ∧ sp (.ow (.ins c []) :: (ds ++ es).map .im) (fun r c' => r = .im .non ∧ match c' with
      | some c1 => Φ c1 Γ'
      | none => False) (fun nm pl _ => R nm pl Γ')) ∧ (∀ (T : TF) (R : ExD) (Γ : Gm) (Φ : List D → Gm → Prop), tEnum T R Γ Φ = T R Γ fun d Γ' => d.seq fun ds => Φ (enumDs ds) Γ') := ⟨fun _ _ _ _ _ _ _ _ _ => rfl, fun _ _ _ _ => rfl⟩
/-! ### scenes -/
structure Sc where
  b : Bk
  ns : List Pr
  ap : List Pr
def scFs (s : Sc) : List (Str × D) := [("book", bkD s.b), ("names", .tup (s.ns.map eP)), ("apart", .tup (s.ap.map eP))]
def scD (s : Sc) : D := .obj "Scene" (scFs s)
def ord (ns : List Pr) : List Str := ns.map (·.1)
def kndOf (ns : List Pr) (x : Str) : Option Str := (ns.find? fun p => decide (p.1 = x)).map (·.2)
/-- a start fact that can be told -/
def factB (ns : List Pr) (q : Pr) : Bool := decide (q.1 ∈ ord ns) && decide (q.2 ∈ ord ns) && !decide (q.1 = q.2) && decide (kndOf ns q.1 = kndOf ns q.2)
def twice (ap : List Pr) : List Pr := ap.flatMap fun q => [(q.1, q.2), (q.2, q.1)]
def apS (o : List Str) (ap : List Pr) : List Pr := o.zipIdx.flatMap fun p => ((o.drop (p.2 + 1)).filter fun y => decide ((p.1, y) ∈ twice ap)).map fun y => (p.1, y)
theorem fsc (s : Sc) : (scFs s).lookup ("book" : Str) = some (bkD s.b) ∧ (scFs s).lookup ("names" : Str) = some (.tup (s.ns.map eP)) ∧ (scFs s).lookup ("apart" : Str) = some (.tup (s.ap.map eP)) ∧ (scFs s).lookup ("kind_of" : Str) = none ∧ (scFs s).lookup ("with_apart" : Str) = none ∧ (scFs s).lookup ("with_book" : Str) = none ∧ (scFs s).lookup ("fields_of" : Str) = none ∧ (scFs s).lookup ("rank" : Str) = none ∧ (scFs s).lookup ("order" : Str) = none := ⟨rfl, rfl, rfl, rfl, rfl, rfl, rfl, rfl, rfl⟩
theorem mKind : M_kind_of "Scene" = some S_Scene_kind_of := if_pos rfl
section
variable {Φ : RD → Option Cl → Prop} {R : Rr}
/-- kind_of, of any object with these names -/
theorem kind_ok {fs : List (Str × D)} {ns : List Pr} {x : Str} (hf : fs.lookup ("names" : Str) = some (.tup (ns.map eP))) (h1 : ∀ k, kndOf ns x = some k → Φ (.im (.str k)) none) (h2 : kndOf ns x = none → R "BadScene" none none) : S_Scene_kind_of [.im (.obj "Scene" fs), .im (.str x)] Φ R := by
  refine s_body (Γ := ⟨[.im _, .im _, .un, .un], [], []⟩) rfl rfl rfl rfl ?_
  simp only [e_T_Scene_kind_of, e_F_Scene_kind_of_1, st, rd, gx, rx, ri, dk, dv, kb, ix, ox, bx, mem_hd, hf, Option.some.injEq, exists_eq_left', true_and]
  refine for_find (f := eP) (fun p => decide (p.1 = x)) (fun p => Φ (.im (.str p.2)) none) ns (fun p hp K bk k1 k2 => ?_) ?_
  · simp only [eP, tg, st, rd, gx, rx, ri, dk, dv, kb, ix, ox, bx, List.length_cons, List.length_nil, true_and, e_L_Scene_kind_of_1, dv, D.dt, Bool.and_self, Bool.false_eq_true, if_false, eqv_strs]
    refine ifK_i (fun e => ?_) fun e => ?_
    · simp only [st, rd, gx, rx, ri, dk, dv, kb, ix, ox, bx]
      exact k1 e
    · exact k2 e _ (by simp only [gx])
  · unfold kndOf at h1 h2
    split
    · rename_i p e
      exact h1 p.2 (by rw [e]; rfl)
    · rename_i e
      exact h2 (by rw [e]; rfl)
end
theorem kndOf_mem {ns : List Pr} {x : Str} (h : x ∈ ord ns) : ∃ k, kndOf ns x = some k := by
  unfold kndOf
  obtain ⟨p, hp, rfl⟩ := List.mem_map.mp h
  cases e : ns.find? fun q => decide (q.1 = p.1) with
  | some q => exact ⟨q.2, rfl⟩
  | none =>
    have := List.find?_eq_none.mp e p hp
    simp at this
theorem kndOf_none {ns : List Pr} {x : Str} (h : x ∉ ord ns) : kndOf ns x = none := by
  unfold kndOf
  rw [List.find?_eq_none.mpr fun p hp => ?_]
  · rfl
  · simp only [decide_eq_true_eq]
    exact fun e => h (List.mem_map.mpr ⟨p, hp, e⟩)
/-! ### making a scene -/
/-- a name as it is passed: the item, the name, the kind -/
def NV (x : D × D × Str) : Prop := Sq x.1 [x.2.1, .str x.2.2] ∧ WV x.2.1
def scOk (ks : List Kd) (ns : List (D × Str)) (ap : List Pr) : Bool :=
  decide (1 ≤ ns.length) && decide (ns.length ≤ 5) && (isDW (ns.map (·.1)) && (ns.all (fun n => decide (n.2 ∈ ks.map (·.1))) && ap.all (factB (ns.map fun n => (strOf n.1, n.2)))))
theorem typed_ns {ns : List (D × Str)} (h : isDW (ns.map (·.1)) = true) : ∃ zs : List Pr, ns = zs.map (fun p => (D.str p.1, p.2)) ∧ zs = (ns.map fun n => (strOf n.1, n.2)) ∧ (∀ p ∈ zs, isWS p.1 = true) ∧ (ord zs).Nodup := by
  obtain ⟨ws, e, hw, hn⟩ := isDW_words2 h
  have key : ∀ n ∈ ns, n.1 = D.str (strOf n.1) ∧ isWS (strOf n.1) = true := fun n hn => by
    have : n.1 ∈ ws.map D.str := e ▸ List.mem_map_of_mem hn
    obtain ⟨w, hw', e2⟩ := List.mem_map.mp this
    rw [← e2]
    exact ⟨rfl, hw w hw'⟩
  refine ⟨ns.map fun n => (strOf n.1, n.2), ?_, rfl, fun p hp => ?_, ?_⟩
  · rw [List.map_map]
    conv => lhs; rw [← List.map_id ns]
    refine List.map_congr_left fun n hn => ?_
    show n = (D.str (strOf n.1), n.2)
    rw [← (key n hn).1]
  · obtain ⟨n, hn, rfl⟩ := List.mem_map.mp hp
    exact (key n hn).2
  · have : (ord (ns.map fun n => (strOf n.1, n.2))).map D.str = ws.map D.str := by
      rw [← e, ord, List.map_map, List.map_map]
      exact List.map_congr_left fun n hn => (key n hn).1.symm
    have := congrArg strsOf this
    rw [strsOf_map, strsOf_map] at this
    rw [this]
    exact hn
theorem mem_twice {p : Pr} {ap : List Pr} : p ∈ twice ap ↔ p ∈ ap ∨ (p.2, p.1) ∈ ap := by
  unfold twice
  rw [List.mem_flatMap]
  constructor
  · rintro ⟨q, hq, h⟩
    simp only [List.mem_cons, List.not_mem_nil, or_false] at h
    rcases h with rfl | rfl
    · exact .inl hq
    · exact .inr hq
  · rintro (h | h)
    · exact ⟨p, h, by simp⟩
    · exact ⟨_, h, by simp⟩
theorem apS_len {o : List Str} {ap : List Pr} : (apS o ap).length ≤ o.length * o.length := by
  unfold apS
  have : ∀ l : List (Str × Nat), (l.flatMap fun p => ((o.drop (p.2 + 1)).filter fun y => decide ((p.1, y) ∈ twice ap)).map fun y => (p.1, y)).length ≤ l.length * o.length := by
    intro l
    induction l with
    | nil => simp
    | cons p l ih =>
      rw [List.flatMap_cons, List.length_append, List.length_map, List.length_cons, Nat.add_mul, Nat.one_mul]
      have a := List.length_filter_le (fun y => decide ((p.1, y) ∈ twice ap)) (o.drop (p.2 + 1))
      rw [List.length_drop] at a
      omega
  have h := this o.zipIdx
  rwa [List.length_zipIdx] at h
section
variable {Φ : RD → Option Cl → Prop} {R : Rr}
abbrev gSc (b : Bk) (ns : List Pr) (e2 e3 : D) (s5 s6 s7 s10 s11 : SD) : Gm :=
  ⟨[.ow (.ins "Scene" [("book", bkD b), ("names", .tup (ns.map eP))]), .im (bkD b), .im e2, .im e3, .im (.lst ((ord ns).map .str)), s5, s6, s7, .un, .un, s10, s11, .un, .un, .un, .un], [], []⟩
/-- behind the start facts -/
theorem sc13 {b : Bk} {ns : List Pr} {e2 e3 : D} {s5 : SD} {tw : List Pr} {ap : List Pr} (l5 : ns.length ≤ 5) (ht : tw = twice ap)
    (h : Φ (.im .non) (some (.ins "Scene" (scFs ⟨b, ns, apS (ord ns) ap⟩)))) :
    T_SceneX_initX_20 (RB R) (DB Φ) (gSc b ns e2 e3 s5 (.im (.lst (tw.map eP))) .un .un .un) := by
  subst ht
  have lo : (ord ns).length = ns.length := List.length_map _
  have al := apS_len (o := ord ns) (ap := ap)
  have ab : ns.length * ns.length ≤ 25 := Nat.mul_le_mul l5 l5
  simp only [e_T_SceneX_initX_20, e_C_SceneX_initX_20, st, rd, gx, rx, ri, dk, dv, kb, ix, ox, bx, tEnum, D.seq, enumDs_map]
  refine ⟨rfl, lc2_map (N := 25) (f := fun p : Str × Nat => .tup [.int (p.2 : Int), .str p.1]) (fun p => (ord ns).drop (p.2 + 1) |>.filter fun y => decide ((p.1, y) ∈ twice ap)) (fun p y => eP (p.1, y)) (ord ns).zipIdx [] ?_ (fun p hp acc K hl hK => ?_) ?_⟩
  · have e : ((ord ns).zipIdx.flatMap fun p => ((ord ns).drop (p.2 + 1)).filter fun y => decide ((p.1, y) ∈ twice ap)).length = (apS (ord ns) ap).length := by
      unfold apS
      generalize (ord ns).zipIdx = l
      induction l with
      | nil => rfl
      | cons k l ih => simp only [List.flatMap_cons, List.length_append, List.length_map, ih]
    rw [e]
    rw [lo] at al
    show 0 + _ ≤ 25
    omega
  · have p2 : p.2 < (ord ns).length := by
      have := List.snd_lt_of_mem_zipIdx hp
      simpa using this
    simp only [tg, st, rd, gx, rx, ri, dk, dv, kb, ix, ox, bx, List.length_cons, List.length_nil, true_and, dv]
    have ec : cutD ((ord ns).map D.str) (some ((p.2 : Int) + 1)) none = ((ord ns).drop (p.2 + 1)).map .str := by
      have : (p.2 : Int) + 1 = ((p.2 + 1 : Nat) : Int) := rfl
      rw [this, cutD_from (by rw [List.length_map]; omega), List.map_drop]
    rw [ec]
    refine ⟨rfl, lc_ok (f := D.str) (fun y => decide ((p.1, y) ∈ twice ap)) (fun y => eP (p.1, y)) ((ord ns).drop (p.2 + 1)) acc ?_ (fun y hy K hK => ?_) ?_⟩
    · exact small (by rw [List.length_drop]; omega)
    · simp only [st, rd, gx, rx, ri, dk, dv, kb, ix, ox, bx, dv]
      have ee : ((twice ap).map eP).any (fun z => z.eqv (D.tup [D.str p.1, D.str y])) = decide ((p.1, y) ∈ twice ap) := (any_map eP (p.1, y) (twice ap)).trans (decide_eq_decide.mpr Iff.rfl)
      refine ⟨Nat.le_of_ble_eq_true rfl, by rw [show D.dt 60 (D.tup [D.str p.1, D.str y]) = true from dt_p (p.1, y), dt_ps]; rfl, ?_⟩
      simp only [Bool.false_eq_true, if_false, ee]
      cases c : decide ((p.1, y) ∈ twice ap) with
      | true =>
        simp only [c, if_true] at hK ⊢
        exact ⟨Nat.le_of_ble_eq_true rfl, hK _ (by simp only [gx])⟩
      | false =>
        simp only [c, Bool.false_eq_true, if_false] at hK ⊢
        exact hK _ (by simp only [gx])
    · exact hK _ (by simp only [gx])
  · have e : ((ord ns).zipIdx.flatMap fun p => (((ord ns).drop (p.2 + 1)).filter fun y => decide ((p.1, y) ∈ twice ap)).map fun y => eP (p.1, y)) = (apS (ord ns) ap).map eP := by
      unfold apS
      rw [List.map_flatMap]
      simp only [List.map_map]
      rfl
    rw [List.nil_append, e]
    simp only [st, rd, gx, rx, ri, dk, dv, kb, ix, ox, bx, dv]
    exact ⟨by decide, (by show (2 : Nat) < 1000; decide), h⟩
/-- one start fact -/
theorem sc14 {b : Bk} {ns : List Pr} {e2 e3 : D} {s5 s7 s12 s13 s14 s15 : SD} {tw : List Pr} {q : Pr} {K bk : Gm → Prop} {rt : RD → Gm → Prop} {P : Prop} (l5 : tw.length ≤ 200)
    (hbad : factB ns q = false → ∀ Γ, RB R "BadScene" none Γ)
    (hok : factB ns q = true → ∀ Γ, wipeD Γ [10, 11] = gSc b ns e2 e3 s5 (.ow (.lst ((tw ++ [(q.1, q.2), (q.2, q.1)]).map eP))) s7 .un .un → K Γ) :
    T_SceneX_initX_14 (RB R) ⟨K, rt, bk, K⟩ (gSc b ns e2 e3 s5 (.ow (.lst (tw.map eP))) s7 (.im (.str q.1)) (.im (.str q.2))) := by
  have dts : ∀ zs : List Str, Ds.dt 60 (zs.map .str) = true := fun zs => dt_map D.str (by decide) zs
  simp only [e_T_SceneX_initX_14, st, rd, gx, rx, ri, dk, dv, kb, ix, ox, bx, dv, D.dt, dts, Bool.and_self, true_and, any_map, if_true]
  refine orK_v (!decide (q.2 ∈ ord ns) || decide (q.1 = q.2)) (fun _ Ψ z => ?_) ?_
  · simp only [st, rd, gx, rx, ri, dk, dv, kb, ix, ox, bx, dv, D.dt, dts, Bool.and_self, true_and, any_map, if_true]
    refine orK_v (decide (q.1 = q.2)) (fun _ Ψ z => ?_) z
    simp only [st, rd, gx, rx, ri, dk, dv, kb, ix, ox, bx, dv, D.dt, Bool.and_self, true_and, Bool.false_eq_true, if_false, eqv_strs]
    exact z
  refine ifK_i (fun e => ?_) fun e => ?_
  · simp only [st]
    refine hbad ?_ _
    simp only [factB]
    simp only [Bool.or_eq_true, Bool.not_eq_true', decide_eq_false_iff_not, decide_eq_true_eq] at e
    rcases e with e | e | e
    · simp [e]
    · simp [e]
    · simp [e]
  simp only [Bool.or_eq_false_iff, Bool.not_eq_false', decide_eq_true_eq, decide_eq_false_iff_not] at e
  obtain ⟨e1, e2', e3'⟩ := e
  obtain ⟨k1, hk1⟩ := kndOf_mem e1
  obtain ⟨k2, hk2⟩ := kndOf_mem e2'
  have hf : ([("book", bkD b), ("names", .tup (ns.map eP))] : List (Str × D)).lookup ("names" : Str) = some (.tup (ns.map eP)) := rfl
  have hm : ([("book", bkD b), ("names", .tup (ns.map eP))] : List (Str × D)).lookup ("kind_of" : Str) = none := rfl
  simp only [e_T_SceneX_initX_16, st, rd, gx, rx, ri, dk, dv, kb, ix, ox, bx, wx]
  refine ⟨_, .cons (.ow (.refl _)) (.cons (.un _) (.cons (.un _) (.cons (.un _) (.cons (.un _) (.cons (.un _) (.cons (.un _) (.cons (.un _) (.cons (.un _) (.cons (.un _) (.cons (.im (.refl _)) (.cons (.im (.refl _)) (.cons (.un _) (.cons (.un _) (.cons (.un _) (.cons (.un _) .nil))))))))))))))), ?_⟩
  simp only [st, rd, gx, rx, ri, dk, dv, kb, ix, ox, bx, hm, mKind, true_and]
  refine ⟨_, rfl, rfl, kind_ok hf (fun k hk => ?_) fun z => ?_⟩
  · simp only [st, rd, gx, rx, ri, dk, dv, kb, ix, ox, bx, D.nov, true_and]
    refine ⟨_, .cons (.ow (.refl _)) (.cons (.un _) (.cons (.un _) (.cons (.un _) (.cons (.un _) (.cons (.un _) (.cons (.un _) (.cons (.un _) (.cons (.un _) (.cons (.un _) (.cons (.im (.refl _)) (.cons (.im (.refl _)) (.cons (.un _) (.cons (.un _) (.cons (.un _) (.cons (.un _) .nil))))))))))))))), ?_⟩
    simp only [st, rd, gx, rx, ri, dk, dv, kb, ix, ox, bx, hm, mKind, true_and]
    refine ⟨_, rfl, rfl, kind_ok hf (fun k' hk' => ?_) fun z => ?_⟩
    · simp only [st, rd, gx, rx, ri, dk, dv, kb, ix, ox, bx, dv, D.nov, D.dt, Bool.and_self, true_and, eqv_strs, if_true]
      have ek : decide (k = k') = decide (kndOf ns q.1 = kndOf ns q.2) := by
        rw [hk, hk']
        by_cases c : k = k'
        · simp [c]
        · have : ¬ some k = some k' := fun z => c (Option.some.inj z)
          rw [decide_eq_false c, decide_eq_false this]
      rw [ek]
      refine ifK_i (fun e => ?_) fun e => ?_
      · simp only [st]
        refine hbad ?_ _
        simp only [Bool.not_eq_true'] at e
        simp only [factB, e, Bool.and_false]
      · simp only [Bool.not_eq_false'] at e
        simp only [st, rd, gx, rx, ri, dk, dv, kb, ix, ox, bx, e_T_SceneX_initX_18]
        have ht : factB ns q = true := by simp only [factB, e, e1, e2', e3', decide_true, decide_false, Bool.not_false, Bool.and_self]
        refine ⟨Nat.le_of_ble_eq_true rfl, smallLt (by rw [List.length_map]; omega), Nat.le_of_ble_eq_true rfl, smallLt (by rw [List.length_append, List.length_map]; show _ + 1 ≤ 1000; omega), hok ht _ ?_⟩
        simp only [gx, List.map_append, List.append_assoc]
        rfl
    · rw [hk2] at z
      cases z
  · rw [hk1] at z
    cases z
/-- making a scene -/
theorem sci_ok {b : Bk} {ns : List (D × D × Str)} {ap : List Pr} {e2 e3 : D} {fa : Pr → D} (h2 : Sq e2 (ns.map (·.1))) (h3 : Sq e3 (ap.map fa)) (ha : ∀ q ∈ ap, Sq (fa q) [.str q.1, .str q.2]) (hn : ∀ x ∈ ns, NV x) (ln : ns.length ≤ 20) (la : ap.length ≤ 100) (lb : b.ks.length ≤ 20)
    (good : ∀ zs : List Pr, ns.map (·.2) = zs.map (fun p => (D.str p.1, p.2)) → scOk b.ks (ns.map (·.2)) ap = true → Φ (.im .non) (some (.ins "Scene" (scFs ⟨b, zs, apS (ord zs) ap⟩))))
    (bad : scOk b.ks (ns.map (·.2)) ap = false → ∀ c, R "BadScene" none c) : S_SceneX_initX [.ow (.ins "Scene" []), .im (bkD b), .im e2, .im e3] Φ R := by
  refine s_body (Γ := ⟨[.ow _, .im _, .im _, .im _, .un, .un, .un, .un, .un, .un, .un, .un, .un, .un, .un, .un], [], []⟩) rfl rfl rfl rfl ?_
  simp only [e_T_SceneX_initX, e_T_SceneX_initX_2, e_C_SceneX_initX_2, st, rd, gx, rx, ri, dk, dv, kb, ix, ox, bx, h2.its]
  refine ⟨by decide, by decide, rfl, lc_map (f := fun x : D × D × Str => x.1) (fun x => .tup [x.2.1, .str x.2.2]) ns (small (by omega)) (fun x hx K hK => ?_) ?_⟩
  · rcases (hn x hx).1 with e | e <;> simp only [e, tg, st, rd, gx, rx, ri, dk, dv, kb, ix, ox, bx, List.length_cons, List.length_nil, true_and] <;> exact ⟨Nat.le_of_ble_eq_true rfl, hK _ (by simp only [gx])⟩
  have hv : ∀ x ∈ ns.map (·.2), WV x.1 := fun x hx => by
    obtain ⟨q, hq, rfl⟩ := List.mem_map.mp hx
    exact (hn q hq).2
  have en : (ns.map fun x => D.tup [x.2.1, .str x.2.2]) = (ns.map (·.2)).map fun x => .tup [x.1, .str x.2] := by rw [List.map_map]; rfl
  have ln2 : (ns.map (·.2)).length ≤ 20 := by rw [List.length_map]; exact ln
  rw [en]
  generalize (ns.map (·.2)) = ms at *
  have fk : ([("book", bkD b), ("names", .tup (ms.map fun x => .tup [x.1, .str x.2]))] : List (Str × D)).lookup ("names" : Str) = some (.tup (ms.map fun x => .tup [x.1, .str x.2])) := rfl
  simp only [st, rd, gx, rx, ri, dk, dv, kb, ix, ox, bx, dv]
  refine ⟨by decide, (by show (1 : Nat) < 1000; decide), ?_⟩
  show T_SceneX_initX_3 _ _ ⟨[.ow (.ins "Scene" [("book", bkD b), ("names", .tup (ms.map fun x => .tup [x.1, .str x.2]))]), .im (bkD b), .im e2, .im e3, .un, .un, .un, .un, .un, .un, .un, .un, .un, .un, .un, .un], [], []⟩
  simp only [e_T_SceneX_initX_3, st, rd, gx, rx, ri, dk, dv, kb, ix, ox, bx, mem_hd, fk, Option.some.injEq, exists_eq_left', true_and, dv, List.length_map]
  refine orK_v (decide (5 < (ms.length : Int))) (fun _ Ψ q => ?_) ?_
  · simp only [st, rd, gx, rx, ri, dk, dv, kb, ix, ox, bx, mem_hd, fk, Option.some.injEq, exists_eq_left', true_and, dv, List.length_map]
    exact q
  refine ifK_i (fun e => ?_) fun e => ?_
  · simp only [st]
    refine bad ?_ _
    have : ¬ (1 ≤ ms.length ∧ ms.length ≤ 5) := by simp at e; omega
    rw [Bool.eq_false_iff]
    intro q
    simp only [scOk, Bool.and_eq_true, decide_eq_true_eq] at q
    exact this q.1
  have l15 : 1 ≤ ms.length ∧ ms.length ≤ 5 := by simp at e; omega
  simp only [scOk, decide_eq_true l15.1, decide_eq_true l15.2, Bool.true_and, Bool.and_self] at good bad
  simp only [st, rd, gx, rx, ri, dk, dv, kb, ix, ox, bx, e_T_SceneX_initX_5, e_C_SceneX_initX_5, mem_hd, fk, Option.some.injEq, exists_eq_left', true_and]
  refine ⟨rfl, lc_map (f := fun x : D × Str => .tup [x.1, .str x.2]) (fun x => x.1) ms (small (by omega)) (fun x hx K hK => ?_) ?_⟩
  · simp only [tg, st, rd, gx, rx, ri, dk, dv, kb, ix, ox, bx, List.length_cons, List.length_nil, true_and]
    exact hK _ (by simp only [gx])
  simp only [st, rd, gx, rx, ri, dk, dv, kb, ix, ox, bx, e_T_SceneX_initX_6]
  refine ⟨rfl, distinct_ok (.inr rfl) (fun d hd => ?_) (by rw [List.length_map]; omega) ?_⟩
  · obtain ⟨x, hx, rfl⟩ := List.mem_map.mp hd
    exact hv x hx
  simp only [st, rd, gx, rx, ri, dk, dv, kb, ix, ox, bx]
  cases e6 : isDW (ms.map (·.1)) with
  | false =>
    simp only [Bool.not_false, st, rd, gx, rx, ri, dk, dv, kb, ix, ox, bx]
    exact bad (by rw [e6, Bool.false_and]) _
  | true =>
    rw [e6, Bool.true_and] at good bad
    obtain ⟨zs, em, ez, zw, zn⟩ := typed_ns e6
    have lz : zs.length = ms.length := by rw [em, List.length_map]
    have e1 : ms.map (fun x => D.tup [x.1, .str x.2]) = zs.map eP := by rw [em, List.map_map]; rfl
    have e2' : ms.map (·.1) = (ord zs).map .str := by rw [em, ord, List.map_map, List.map_map]; rfl
    have e3' : (ms.all fun n => decide (n.2 ∈ b.ks.map (·.1))) = zs.all fun p => decide (p.2 ∈ b.ks.map (·.1)) := by rw [em, List.all_map]; rfl
    rw [← ez, e3'] at good bad
    rw [e1, e2']
    have fk2 : ([("book", bkD b), ("names", .tup (zs.map eP))] : List (Str × D)).lookup ("names" : Str) = some (.tup (zs.map eP)) := rfl
    simp only [Bool.not_true, st, rd, gx, rx, ri, dk, dv, kb, ix, ox, bx, e_T_SceneX_initX_8, e_C_SceneX_initX_8, bkD, mem_hd, fbs, Option.some.injEq, exists_eq_left', true_and]
    refine ⟨rfl, lc_map (f := eK) (fun k => .str k.1) b.ks (small (by omega)) (fun k hk K hK => ?_) ?_⟩
    · simp only [eK, tg, st, rd, gx, rx, ri, dk, dv, kb, ix, ox, bx, List.length_cons, List.length_nil, true_and]
      exact hK _ (by simp only [gx])
    have e4 : b.ks.map (fun k => D.str k.1) = (b.ks.map (·.1)).map .str := by rw [List.map_map]; rfl
    rw [e4]
    have dts : ∀ zs : List Str, Ds.dt 60 (zs.map .str) = true := fun zs => dt_map D.str (by decide) zs
    have fk3 : ([("book", D.obj "Book" (bkFs b)), ("names", .tup (zs.map eP))] : List (Str × D)).lookup ("names" : Str) = some (.tup (zs.map eP)) := rfl
    simp only [st, rd, gx, rx, ri, dk, dv, kb, ix, ox, bx, e_T_SceneX_initX_9, e_F_SceneX_initX_9, mem_hd, fk3, Option.some.injEq, exists_eq_left', true_and]
    refine for_all (f := eP) (fun p => decide (p.2 ∈ b.ks.map (·.1))) (∀ c, R "BadScene" none c) zs (fun p hp K bk k1 k2 => ?_) (fun e => ?_) fun e => ?_
    · simp only [eP, tg, st, rd, gx, rx, ri, dk, dv, kb, ix, ox, bx, List.length_cons, List.length_nil, true_and, e_L_SceneX_initX_9, dv, D.dt, dts, Bool.and_self, any_map, if_true]
      refine ifK_i (fun e => ?_) fun e => ?_
      · simp only [st]
        exact k1 (by simpa using e) _
      · exact k2 (by simpa using e) _ (by simp only [gx, eP])
    · rw [e, Bool.true_and] at good bad
      simp only [st, rd, gx, rx, ri, dk, dv, kb, ix, ox, bx, e_T_SceneX_initX_12, e_T_SceneX_initX_13, e_F_SceneX_initX_13, h3.its]
      refine ⟨Nat.zero_le _, ?_⟩
      refine for_inv (f := fa) (fun tw : List Pr => gSc b zs e2 e3 (.im (.lst ((b.ks.map (·.1)).map .str))) (.ow (.lst (tw.map eP))) .un .un .un) (fun rest tw => ∃ dn, dn ++ rest = ap ∧ tw = twice dn ∧ dn.all (factB zs) = true) ?_ ?_ ap [] ⟨[], rfl, rfl, rfl⟩
      · rintro q rest tw ⟨dn, hd, rfl, hall⟩ K bk hK
        have qm : q ∈ ap := by rw [← hd]; simp
        have ld : dn.length ≤ 100 := by
          have := congrArg List.length hd
          rw [List.length_append] at this
          omega
        have tl : (twice dn).length ≤ 200 := by
          have : (twice dn).length = 2 * dn.length := by
            unfold twice
            generalize dn = l
            induction l with
            | nil => rfl
            | cons x l ih => rw [List.flatMap_cons, List.length_append, ih, List.length_cons]; simp; omega
          omega
        have key := sc14 (R := R) (b := b) (ns := zs) (e2 := e2) (e3 := e3) (s5 := .im (.lst ((b.ks.map (·.1)).map .str))) (s7 := .un) (s12 := .un) (s13 := .un) (s14 := .un) (s15 := .un) (tw := twice dn) (q := q) (K := K) (bk := bk) (rt := (DB Φ).rt) (P := True) tl (fun e Γ => bad (by
          rw [Bool.eq_false_iff]
          intro z
          have := List.all_eq_true.mp z q qm
          rw [e] at this
          cases this) _) fun e Γ eΓ => hK _ Γ ⟨dn ++ [q], by rw [← hd]; simp, by simp [twice], by rw [List.all_append, hall]; simp [e]⟩ eΓ
        rcases ha q qm with z | z <;> simp only [z, tg, st, rd, gx, rx, ri, dk, dv, kb, ix, ox, bx, List.length_cons, List.length_nil, true_and] <;> exact key
      · rintro tw ⟨dn, hd, rfl, hall⟩
        rw [List.append_nil] at hd
        subst hd
        simp only [st, rd, gx, rx, ri, dk, dv, kb, ix, ox, bx, e_Z_SceneX_initX_13, frzAt]
        exact sc13 (by omega) rfl (good zs em hall)
    · exact bad (by rw [e, Bool.false_and])
end
end Vl

namespace Vl
open PySem PySem.Spec PyProof.Rows L2
/-! ### pairs of places -/
abbrev IJ := Nat × Nat
def idx (n : Nat) : List IJ := (List.range n).flatMap fun i => ((List.range n).drop (i + 1)).map fun j => (i, j)
def iLe (p q : IJ) : Bool := if p.1 = q.1 then decide (p.2 ≤ q.2) else decide (p.1 ≤ q.1)
theorem ord_iLe : Ord iLe where
  tr a b c h1 h2 := by
    unfold iLe at *
    split at h1 <;> split at h2 <;> split <;> simp only [decide_eq_true_eq] at * <;> omega
  tot a b := by
    unfold iLe
    split <;> split <;> simp only [Bool.or_eq_true, decide_eq_true_eq] <;> omega
  as a b h1 h2 := by
    unfold iLe at *
    refine Prod.ext ?_ ?_ <;> split at h1 <;> split at h2 <;> simp only [decide_eq_true_eq] at * <;> omega
theorem mem_idx {n : Nat} {p : IJ} : p ∈ idx n ↔ p.1 < p.2 ∧ p.2 < n := by
  unfold idx
  rw [List.mem_flatMap]
  constructor
  · rintro ⟨i, hi, h⟩
    obtain ⟨j, hj, rfl⟩ := List.mem_map.mp h
    rw [List.mem_drop_iff_getElem] at hj
    obtain ⟨k, hk, e⟩ := hj
    rw [List.getElem_range] at e
    rw [List.length_range] at hk
    show i < j ∧ j < n
    omega
  · rintro ⟨h1, h2⟩
    refine ⟨p.1, List.mem_range.mpr (by omega), List.mem_map.mpr ⟨p.2, ?_, rfl⟩⟩
    rw [List.mem_drop_iff_getElem]
    refine ⟨p.2 - (p.1 + 1), ?_, ?_⟩
    · rw [List.length_range]; omega
    · rw [List.getElem_range]; omega
theorem idx_all : ∀ n ∈ List.range 6, (idx n).Nodup ∧ (idx n).Pairwise (fun a b => iLe a b = true) ∧ (idx n).length ≤ 10 := by decide +kernel
theorem idx_ok {n : Nat} (h : n ≤ 5) : (idx n).Nodup ∧ (idx n).Pairwise (fun a b => iLe a b = true) ∧ (idx n).length ≤ 10 := idx_all n (List.mem_range.mpr (by omega))
def nmA (o : List Str) (p : IJ) : Pr := (o.getD p.1 "", o.getD p.2 "")
theorem apS_idx (o : List Str) (ap : List Pr) : apS o ap = ((idx o.length).filter fun p => decide (nmA o p ∈ twice ap)).map (nmA o) := by
  have e1 : o.zipIdx = (List.range o.length).map fun i => (o.getD i "", i) := by
    refine List.ext_getElem (by simp) fun n h1 h2 => ?_
    rw [List.length_zipIdx] at h1
    simp [List.getD_eq_getElem?_getD, h1]
  have e2 : ∀ i, o.drop (i + 1) = ((List.range o.length).drop (i + 1)).map fun j => o.getD j "" := fun i => by
    rw [List.map_drop]
    congr 1
    refine List.ext_getElem (by simp) fun n h1 h2 => ?_
    simp [List.getD_eq_getElem?_getD, h1]
  unfold apS idx
  rw [e1, List.flatMap_map, List.filter_flatMap, List.map_flatMap]
  congr 1
  funext i
  show ((o.drop (i + 1)).filter _).map _ = _
  rw [e2, List.filter_map, List.map_map, List.filter_map, List.map_map]
  rfl
theorem getD_inj {o : List Str} (nd : o.Nodup) {i j : Nat} (hi : i < o.length) (hj : j < o.length) (e : o.getD i "" = o.getD j "") : i = j := by
  rw [List.getD_eq_getElem?_getD, List.getD_eq_getElem?_getD, List.getElem?_eq_getElem hi, List.getElem?_eq_getElem hj] at e
  exact (List.getElem_inj nd).mp e
/-- the pairs told, in order -/
def told (o : List Str) (S : IJ → Bool) : List Pr := ((idx o.length).filter S).map (nmA o)
theorem mem_told {o : List Str} (nd : o.Nodup) {S : IJ → Bool} {p : IJ} (hp : p ∈ idx o.length) : nmA o p ∈ twice (told o S) ↔ S p = true := by
  obtain ⟨h1, h2⟩ := mem_idx.mp hp
  rw [mem_twice]
  constructor
  · rintro (h | h)
    · obtain ⟨q, hq, e⟩ := List.mem_map.mp h
      obtain ⟨hq1, hq2⟩ := List.mem_filter.mp hq
      obtain ⟨g1, g2⟩ := mem_idx.mp hq1
      have a := getD_inj nd (by omega) (by omega) (Prod.ext_iff.mp e).1
      have b := getD_inj nd (by omega) (by omega) (Prod.ext_iff.mp e).2
      rw [show p = q from Prod.ext a.symm b.symm]
      exact hq2
    · obtain ⟨q, hq, e⟩ := List.mem_map.mp h
      obtain ⟨hq1, hq2⟩ := List.mem_filter.mp hq
      obtain ⟨g1, g2⟩ := mem_idx.mp hq1
      have a := getD_inj nd (by omega) (by omega) (Prod.ext_iff.mp e).1
      have b := getD_inj nd (by omega) (by omega) (Prod.ext_iff.mp e).2
      omega
  · intro h
    exact .inl (List.mem_map_of_mem (List.mem_filter.mpr ⟨hp, h⟩))
theorem apS_told {o : List Str} (nd : o.Nodup) {S : IJ → Bool} {ap : List Pr} (h : ∀ p, p ∈ twice ap ↔ p ∈ twice (told o S)) : apS o ap = told o S := by
  rw [apS_idx]
  unfold told
  congr 1
  refine List.filter_congr fun p hp => ?_
  have := mem_told nd (S := S) hp
  cases e : S p with
  | true => exact decide_eq_true ((h _).mpr (this.mpr e))
  | false =>
    refine decide_eq_false fun q => ?_
    rw [this.mp ((h _).mp q)] at e
    cases e
/-! ### the drawn world -/
def nameWs : List Str := ["m", "c", "aa", "x1", "a", "read", "abcdefg8"]
def w7At (i : Int) : Str := nameWs.getD (i % 7).toNat ""
theorem w7_get (i : Int) {k : D → Prop} (hk : k (.str (w7At i))) : ∃ d, L2.atI (nameWs.map D.str) (i % 7) = some d ∧ k d :=
  atI_m (Int.emod_nonneg _ (by decide)) (by show i % 7 < 7; exact Int.emod_lt_of_pos _ (by decide)) fun x hx => by
    have : w7At i = x := by
      unfold w7At
      rw [List.getD_eq_getElem?_getD, hx]
      rfl
    rwa [this] at hk
theorem w7_mem (i : Int) : w7At i ∈ nameWs := by
  unfold w7At
  have h1 := Int.emod_nonneg i (b := 7) (by decide)
  have h2 := Int.emod_lt_of_pos i (b := 7) (by decide)
  have h3 : (i % 7).toNat < nameWs.length := by show _ < 7; omega
  rw [List.getD_eq_getElem?_getD, List.getElem?_eq_getElem h3]
  exact List.getElem_mem h3
def w7Row (s st : Int) (n : Nat) : List Str := (List.range n).map fun (j : Nat) => w7At (s + st * (j : Int))
theorem w7_all : ∀ s ∈ List.range 7, ∀ st ∈ List.range 6, ∀ n ∈ List.range 6, (w7Row (s : Int) (1 + (st : Int)) n).Nodup := by decide +kernel
theorem w7_nodup {s st : Int} {n : Nat} (h0 : 0 ≤ s) (h1 : s < 7) (h2 : 0 ≤ st) (h3 : st < 6) (hn : n ≤ 5) : (w7Row s (1 + st) n).Nodup := by
  obtain ⟨k, rfl⟩ := Int.eq_ofNat_of_zero_le h0
  obtain ⟨m, rfl⟩ := Int.eq_ofNat_of_zero_le h2
  exact w7_all k (List.mem_range.mpr (by omega)) m (List.mem_range.mpr (by omega)) n (List.mem_range.mpr (by omega))
theorem w7_succ {s st : Int} {n : Nat} : w7Row s st (n + 1) = w7Row s st n ++ [w7At (s + st * (n : Int))] := by
  unfold w7Row
  rw [List.range_succ, List.map_append]
  rfl
theorem names_words : ∀ z ∈ nameWs, isWS z = true ∧ z ≠ "zz" ∧ z ≠ "q1" ∧ z ≠ "qq" := by decide +kernel
def eN (p : IJ) : D := .tup [.int (p.1 : Int), .int (p.2 : Int)]
structure WG (ks : List Kd) (ns : List Pr) (rs : List (Str × Sig)) (ps : List Pr) : Prop where
  g : BkG ks rs
  n1 : 1 ≤ ns.length
  n5 : ns.length ≤ 5
  nn : ∀ p ∈ ns, p.1 ∈ nameWs
  nd : (ord ns).Nodup
  nk : ∀ p ∈ ns, p.2 ∈ ks.map (·.1)
  ps : ∃ S : IJ → Bool, ps = told (ord ns) S ∧ ∀ p ∈ idx ns.length, S p = true → kndOf ns ((ord ns).getD p.1 "") = kndOf ns ((ord ns).getD p.2 "")
end Vl

namespace Vl
open PySem PySem.Spec PyProof.Rows L2 PySem.W
def uI (p : IJ) : UK := [.inl (p.1 : Int), .inl (p.2 : Int)]
theorem uI_inj {p q : IJ} (h : uI p = uI q) : p = q := by
  cases p; cases q
  simp only [uI, List.cons.injEq, Sum.inl.injEq, and_true] at h
  exact Prod.ext (by show _ = _; exact_mod_cast h.1) (by show _ = _; exact_mod_cast h.2)
theorem uLe_uI (p q : IJ) : uLe (uI p) (uI q) = iLe p q := by
  show (!dataLt (uPd (uI q)) (uPd (uI p))) = iLe p q
  show (!dataLt (.tuple [.int q.1, .int q.2]) (.tuple [.int p.1, .int p.2])) = iLe p q
  rw [dataLt_pair (by simp [alike]) (by simp [alike]), dataLt_int, dataLt_int]
  simp only [PyData.eqv, beq_iff_eq]
  unfold iLe
  by_cases e : p.1 = q.1
  · have e2 : (q.1 : Int) = (p.1 : Int) := by rw [e]
    by_cases e3 : (q.2 : Int) = (p.2 : Int)
    · rw [if_pos e, if_pos e2, if_pos e3]
      simp
      omega
    · rw [if_pos e, if_pos e2, if_neg e3]
      rw [← decide_not]
      exact decide_eq_decide.mpr (by omega)
  · have e2 : ¬ (q.1 : Int) = (p.1 : Int) := by omega
    rw [if_neg e, if_neg e2, ← decide_not]
    exact decide_eq_decide.mpr (by omega)
theorem uIs_map {rs : List UK} {ws : List IJ} (h : ∀ k ∈ rs, k ∈ ws.map uI) : ∃ ps : List IJ, rs = ps.map uI := by
  induction rs with
  | nil => exact ⟨[], rfl⟩
  | cons r rs ih =>
    obtain ⟨ps, rfl⟩ := ih fun k hk => h k (List.mem_cons_of_mem _ hk)
    obtain ⟨p, _, rfl⟩ := List.mem_map.mp (h r List.mem_cons_self)
    exact ⟨p :: ps, rfl⟩
theorem sortSetL_ij {T : TF} {R : ExD} {Γ : Gm} {Φ : Cl → Gm → Prop} {n : Nat} (ms : List IJ) (hn : n ≤ 5) (hm : ∀ m ∈ ms, m ∈ idx n) (h2 : ms.length < 64) (hT : ∀ Ψ : D → Gm → Prop, Ψ (.lst (ms.map eN)) Γ → T R Γ Ψ)
    (h : Φ (.lst (((idx n).filter fun p => decide (p ∈ ms)).map eN)) Γ) : tSortSetL T R Γ Φ := by
  refine hT _ ⟨ms.map uI, ?_, by rwa [List.length_map], ?_, ?_, ?_⟩
  · rw [List.map_map]; rfl
  · intro d hd d' hd'
    rw [List.map_map] at hd hd'
    obtain ⟨k, _, rfl⟩ := List.mem_map.mp hd
    obtain ⟨k', _, rfl⟩ := List.mem_map.mp hd'
    rfl
  · intro k hk
    obtain ⟨p, _, rfl⟩ := List.mem_map.mp hk
    exact fun h => by cases h
  · intro rs n1 n2 n3
    obtain ⟨ps, rfl⟩ := uIs_map (ws := ms) fun k hk => (n2 k).mp hk
    have pm : ∀ k, k ∈ ps ↔ k ∈ ms := fun k => ⟨fun q => (mem_map_inj uI_inj).mp ((n2 _).mp (List.mem_map_of_mem q)), fun q => (mem_map_inj uI_inj).mp ((n2 _).mpr (List.mem_map_of_mem q))⟩
    have e1 : ps = srt iLe ms := srt_uniq ord_iLe (nodup_of_map n1) pm (by
      rw [List.pairwise_map] at n3
      exact n3.imp fun {a b} q => by rwa [uLe_uI] at q)
    have e2 : (idx n).filter (fun p => decide (p ∈ ms)) = srt iLe ms := srt_uniq ord_iLe ((idx_ok hn).1.filter _) (fun k => by
      rw [List.mem_filter, decide_eq_true_eq]
      exact ⟨fun q => q.2, fun q => ⟨hm k q, q⟩⟩) ((idx_ok hn).2.1.filter _)
    rw [e1, ← e2, List.map_map]
    exact h
/-! ### the drawing of the world -/
abbrev gWn (f sz : Int) (ns : List Int) (ks : List Kd) (rs : List (Str × Sig)) (nm : List Pr) (s5 : SD) : Gm := ⟨[.ow (Cn ns), .im (.lst (nameWs.map .str)), .im (.int f), .im (.int sz), .ow (.lst (nm.map eP)), s5, .un, .un, .im (.lst (ks.map eKl)), .im (.lst (rs.map eRl)), .un, .un], [], []⟩
abbrev gWm (f sz : Int) (ns : List Int) (ks : List Kd) (rs : List (Str × Sig)) (nm : List Pr) (ms : List IJ) (s5 : SD) : Gm := ⟨[.ow (Cn ns), .im (.lst (nameWs.map .str)), .im (.int f), .im (.int sz), .im (.lst (nm.map eP)), s5, .ow (.lst (ms.map eN)), .un, .im (.lst (ks.map eKl)), .im (.lst (rs.map eRl)), .un, .un], [], []⟩
theorem kndOf_at {ns : List Pr} (nd : (ord ns).Nodup) {i : Nat} {p : Pr} (h : ns[i]? = some p) : kndOf ns ((ord ns).getD i "") = some p.2 := by
  have e : (ord ns).getD i "" = p.1 := by
    rw [List.getD_eq_getElem?_getD, ord, List.getElem?_map, h]
    rfl
  rw [e]
  unfold kndOf
  have : ns.find? (fun q => decide (q.1 = p.1)) = some p := by
    have hp := List.mem_of_getElem? h
    clear e h
    unfold ord at nd
    induction ns with
    | nil => cases hp
    | cons y ys ih =>
      rw [List.map_cons, List.nodup_cons] at nd
      rcases List.mem_cons.mp hp with rfl | hp
      · rw [List.find?_cons_of_pos (by simp)]
      · have : ¬ y.1 = p.1 := fun e => nd.1 (List.mem_map.mpr ⟨p, hp, e.symm⟩)
        rw [List.find?_cons_of_neg (by simp [this])]
        exact ih nd.2 hp
  rw [this]
  rfl
section
variable {Φ : RD → Option Cl → Prop} {R : Rr}
theorem world_ok {ns : List Int} (h : ∀ ks nm rs ps ns', WG ks nm rs ps → Φ (.fr (.lst [.lst (ks.map eKl), .lst (nm.map eP), .lst (rs.map eRl), .lst (ps.map eP)])) (some (Cn ns'))) : S_law_world [.ow (Cn ns)] Φ R := by
  refine s_body (Γ := ⟨[.ow _, .un, .un, .un, .un, .un, .un, .un, .un, .un, .un, .un], [], []⟩) rfl rfl rfl rfl ?_
  simp only [e_T_law_world, st, rd, gx, rx, ri, dk, dv, kb, ix, ox, bx]
  refine ⟨rfl, rfl, book_ok fun ks rs ns G => ?_⟩
  have t := G.t
  simp only [st, rd, gx, rx, ri, dk, dv, kb, ix, ox, bx, tg, List.length_cons, List.length_nil, true_and, e_T_law_world_2, e_T_law_world_3]
  repeat ((with_reducible apply And.intro); focus (first | (refine small ?_; (try simp only [List.length_append, List.length_map, List.length_cons, List.length_nil, List.length_take, List.length_drop, List.length_range]); omega) | (refine smallLt ?_; (try simp only [List.length_append, List.length_map, List.length_cons, List.length_nil, List.length_take, List.length_drop, List.length_range]); omega) | rfl | (exact Nat.le_of_ble_eq_true rfl)))
  refine take_ok (by decide) fun f ns f0 f7 => ?_
  simp only [st, rd, gx, rx, ri, dk, dv, kb, ix, ox, bx, e_T_law_world_4]
  refine ⟨rfl, rfl, take_ok (by decide) fun sz ns s0 s6 => ?_⟩
  simp only [st, rd, gx, rx, ri, dk, dv, kb, ix, ox, bx, dv, e_T_law_world_5, e_T_law_world_6, e_F_law_world_6]
  refine ⟨Nat.zero_le _, Nat.le_of_ble_eq_true rfl, rfl, rfl, take_ok (by decide) fun r ns r0 r4 => ?_⟩
  simp only [st, rd, gx, rx, ri, dk, dv, kb, ix, ox, bx]
  have e0 : ([D.int 2, .int 3, .int 1, .int 4, .int 5] : List D) = ([2, 3, 1, 4, 5] : List Int).map .int := rfl
  rw [e0]
  refine atI_m r0 r4 fun N hN => ?_
  have hN2 : 1 ≤ N ∧ N ≤ 5 := by
    have := List.mem_of_getElem? hN
    simp only [List.mem_cons, List.not_mem_nil, or_false] at this
    omega
  obtain ⟨n, rfl⟩ := Int.eq_ofNat_of_zero_le (a := N) (by omega)
  simp only [st, rd, gx, rx, ri, dk, dv, kb, ix, ox, bx, rangeDs_map, Int.toNat_natCast]
  refine ⟨by omega, by omega, ?_⟩
  refine for_inv (f := fun (i : Nat) => D.int (0 + (i : Int))) (fun a : List Int × List Pr => gWn f (1 + sz) a.1 ks rs a.2 .un) (fun rest a => (ord a.2 = w7Row f (1 + sz) a.2.length ∧ ∀ p ∈ a.2, p.2 ∈ ks.map (·.1)) ∧ ∃ m, rest = List.range' a.2.length m ∧ a.2.length + m = n) ?_ ?_ (List.range n) (ns, []) ⟨⟨rfl, fun k hk => (by cases hk)⟩, n, List.range_eq_range', by simp⟩
  · rintro x xs ⟨ns, nm⟩ ⟨⟨hr1, hr2⟩, m, hm, hn⟩ K bk hK
    cases m with
    | zero => cases hm
    | succ m =>
      rw [List.range'_succ] at hm
      injection hm with hm1 hm2
      have hn2 : nm.length + (m + 1) = n := hn
      replace hm1 : x = nm.length := hm1
      simp only [st, rd, gx, rx, ri, dk, dv, kb, ix, ox, bx, e_L_law_world_6, dv, List.length_map, Int.zero_add]
      have k1 := t.k1
      have cm : CMul (1 + sz) (x : Int) := .inl ⟨by omega, by omega⟩
      refine ⟨cm, by decide, w7_get _ ⟨rfl, rfl, take_ok (by omega) fun r ns r0 r4 => ?_⟩⟩
      simp only [st, rd, gx, rx, ri, dk, dv, kb, ix, ox, bx]
      refine atI_m (f := eKl) r0 r4 fun k hk => ?_
      simp only [eKl, ix, at2]
      refine ⟨Nat.le_of_ble_eq_true rfl, smallLt (by omega), ?_⟩
      refine hK (ns, nm ++ [(w7At (f + (1 + sz) * (x : Int)), k.1)]) _ ⟨⟨?_, ?_⟩, m, ?_, ?_⟩ ?_
      · show ord (nm ++ [_]) = w7Row f (1 + sz) (nm ++ [_]).length
        rw [ord, List.map_append, ← ord, hr1, List.length_append, List.length_cons, List.length_nil, w7_succ, hm1]
        rfl
      · intro p hp
        rcases List.mem_append.mp hp with hp | hp
        · exact hr2 p hp
        · simp only [List.mem_singleton] at hp
          subst hp
          exact List.mem_map_of_mem (f := fun k : Kd => k.1) (List.mem_of_getElem? hk)
      · show xs = List.range' (nm ++ [_]).length m
        rw [hm2, List.length_append]
        rfl
      · show (nm ++ [_]).length + m = n
        rw [List.length_append, List.length_cons, List.length_nil]
        omega
      · simp only [gx, gWn, List.map_append, List.map_cons, List.map_nil]
        rfl
  rintro ⟨ns, nm⟩ ⟨⟨hr1, hr2⟩, m, hm, hn⟩
  replace hr1 : ord nm = w7Row f (1 + sz) nm.length := hr1
  have lr : nm.length = n := by
    cases m with
    | zero => exact hn
    | succ m => rw [List.range'_succ] at hm; cases hm
  subst lr
  have n15 : 1 ≤ nm.length ∧ nm.length ≤ 5 := by omega
  have lo : (ord nm).length = nm.length := List.length_map _
  have nd : (ord nm).Nodup := by rw [hr1]; exact w7_nodup f0 f7 s0 s6 n15.2
  have nn : ∀ p ∈ nm, p.1 ∈ nameWs := fun p hp => by
    have : p.1 ∈ ord nm := List.mem_map_of_mem hp
    rw [hr1] at this
    obtain ⟨j, _, e⟩ := List.mem_map.mp this
    rw [← e]
    exact w7_mem _
  simp only [st, rd, gx, rx, ri, dk, dv, kb, ix, ox, bx, e_Z_law_world_6, frzAt, e_T_law_world_8, e_T_law_world_9, e_F_law_world_9]
  refine ⟨Nat.zero_le _, rfl, rfl, take_ok (by decide) fun r ns r0 r3 => ?_⟩
  obtain ⟨j, rfl⟩ := Int.eq_ofNat_of_zero_le r0
  simp only [st, rd, gx, rx, ri, dk, dv, kb, ix, ox, bx, rangeDs_map, Int.toNat_natCast]
  refine ⟨by omega, by omega, ?_⟩
  refine for_inv (f := fun (i : Nat) => D.int (0 + (i : Int))) (fun a : List Int × List IJ => gWm f (1 + sz) a.1 ks rs nm a.2 .un) (fun rest a => (∀ p ∈ a.2, p ∈ idx nm.length ∧ kndOf nm ((ord nm).getD p.1 "") = kndOf nm ((ord nm).getD p.2 "")) ∧ a.2.length + rest.length ≤ 10) ?_ ?_ (List.range j) (ns, []) ⟨(fun k hk => (by cases hk)), by simp; omega⟩
  · rintro x xs ⟨ns, ms⟩ ⟨hr, hl⟩ K bk hK
    replace hl : ms.length + (xs.length + 1) ≤ 10 := hl
    simp only [st, rd, gx, rx, ri, dk, dv, kb, ix, ox, bx, e_T_law_world_10, dv, List.length_map]
    refine ⟨rfl, rfl, take_ok (by omega) fun a ns a0 a1 => ?_⟩
    simp only [st, rd, gx, rx, ri, dk, dv, kb, ix, ox, bx, e_T_law_world_11, dv, List.length_map]
    refine ⟨rfl, rfl, take_ok (by omega) fun b ns b0 b1 => ?_⟩
    obtain ⟨i, rfl⟩ := Int.eq_ofNat_of_zero_le a0
    obtain ⟨k, rfl⟩ := Int.eq_ofNat_of_zero_le b0
    simp only [st, rd, gx, rx, ri, dk, dv, kb, ix, ox, bx, dv, D.dt, Bool.and_self, true_and, if_true, eqv_int]
    have hi : i < nm.length := by omega
    have hk : k < nm.length := by omega
    have ei : nm[i]? = some nm[i] := List.getElem?_eq_getElem hi
    have ek : nm[k]? = some nm[k] := List.getElem?_eq_getElem hk
    have ai : ∀ (P : D → Prop), (∃ d, L2.atI (nm.map eP) (i : Int) = some d ∧ P d) = P (eP nm[i]) := fun P => by
      have : L2.atI (nm.map eP) (i : Int) = some (eP nm[i]) := by rw [atI_nat (by rw [List.length_map]; omega), List.getElem?_map, ei]; rfl
      simp [this]
    have ak : ∀ (P : D → Prop), (∃ d, L2.atI (nm.map eP) (k : Int) = some d ∧ P d) = P (eP nm[k]) := fun P => by
      have : L2.atI (nm.map eP) (k : Int) = some (eP nm[k]) := by rw [atI_nat (by rw [List.length_map]; omega), List.getElem?_map, ek]; rfl
      simp [this]
    refine andK_v (decide (nm[i].2 = nm[k].2)) (fun _ Ψ q => ?_) ?_
    · simp only [st, rd, gx, rx, ri, dk, dv, kb, ix, ox, bx, ai, ak, eP, at2, dv, D.dt, Bool.and_self, true_and, Bool.false_eq_true, if_false, eqv_strs]
      exact q
    refine ifK_i (fun e => ?_) fun e => ?_
    · simp only [Bool.and_eq_true, Bool.not_eq_true', decide_eq_false_iff_not, decide_eq_true_eq] at e
      simp only [st, rd, gx, rx, ri, dk, dv, kb, ix, ox, bx, dv]
      have em : (if (k : Int) < (i : Int) then (k : Int) else (i : Int)) = ((min i k : Nat) : Int) := by split <;> omega
      have ex : (if (k : Int) > (i : Int) then (k : Int) else (i : Int)) = ((max i k : Nat) : Int) := by split <;> omega
      rw [em, ex]
      refine ⟨Nat.le_of_ble_eq_true rfl, smallLt (by rw [List.length_map]; omega), ?_⟩
      refine hK (ns, ms ++ [(min i k, max i k)]) _ ⟨fun p hp => ?_, by simp; omega⟩ ?_
      · rcases List.mem_append.mp hp with hp | hp
        · exact hr p hp
        · simp only [List.mem_singleton] at hp
          subst hp
          refine ⟨mem_idx.mpr ⟨by show min i k < max i k; omega, by show max i k < _; omega⟩, ?_⟩
          show kndOf nm ((ord nm).getD (min i k) "") = kndOf nm ((ord nm).getD (max i k) "")
          have kk : kndOf nm ((ord nm).getD i "") = kndOf nm ((ord nm).getD k "") := by rw [kndOf_at nd ei, kndOf_at nd ek, e.2]
          rcases Nat.le_total i k with z | z
          · rw [Nat.min_eq_left z, Nat.max_eq_right z]; exact kk
          · rw [Nat.min_eq_right z, Nat.max_eq_left z]; exact kk.symm
      · simp only [gx, gWm, List.map_append, List.map_cons, List.map_nil]
        rfl
    · simp only [st, rd, gx, rx, ri, dk, dv, kb, ix, ox, bx]
      exact hK (ns, ms) _ ⟨hr, by show ms.length + xs.length ≤ 10; omega⟩ (by simp only [gx])
  rintro ⟨ns, ms⟩ ⟨hr, hl⟩
  replace hl : ms.length + 0 ≤ 10 := hl
  simp only [st, rd, gx, rx, ri, dk, dv, kb, ix, ox, bx, e_Z_law_world_9, frzAt, e_T_law_world_14, e_C_law_world_14]
  refine sortSetL_ij (n := nm.length) ms n15.2 (fun m hm => (hr m hm).1) (by omega) (fun Ψ q => ?_) ?_
  · simp only [st, rd, gx, rx, ri, dk, dv, kb, ix, ox, bx]
    exact q
  simp only [st, rd, gx, rx, ri, dk, dv, kb, ix, ox, bx]
  have il := (idx_ok n15.2).2.2
  have fl := List.length_filter_le (fun p => decide (p ∈ ms)) (idx nm.length)
  refine ⟨rfl, lc_map (f := eN) (fun p => eP (nmA (ord nm) p)) ((idx nm.length).filter fun p => decide (p ∈ ms)) (small (by omega)) (fun p hp K hK => ?_) ?_⟩
  · obtain ⟨h1, h2⟩ := mem_idx.mp (List.mem_filter.mp hp).1
    have hi : p.1 < nm.length := by omega
    simp only [eN, tg, st, rd, gx, rx, ri, dk, dv, kb, ix, ox, bx, List.length_cons, List.length_nil, true_and]
    have aa : ∀ (i : Nat), i < nm.length → ∀ (P : D → Prop), P (.tup [.str ((ord nm).getD i ""), .str (nm.getD i ("", "")).2]) → (∃ d, L2.atI (nm.map eP) (i : Int) = some d ∧ P d) := fun i hi P hP => by
      have e1 : nm[i]? = some nm[i] := List.getElem?_eq_getElem hi
      refine ⟨eP nm[i], by rw [atI_nat (by rw [List.length_map]; omega), List.getElem?_map, e1]; rfl, ?_⟩
      rw [List.getD_eq_getElem?_getD, ord, List.getElem?_map, e1, List.getD_eq_getElem?_getD, e1] at hP
      exact hP
    refine aa p.1 hi _ ?_
    simp only [ix, at2]
    refine aa p.2 h2 _ ?_
    simp only [ix, at2]
    exact ⟨Nat.le_of_ble_eq_true rfl, hK _ (by simp only [gx])⟩
  · have e1 : ((idx nm.length).filter fun p => decide (p ∈ ms)).map (fun p => eP (nmA (ord nm) p)) = (told (ord nm) fun p => decide (p ∈ ms)).map eP := by
      unfold told
      rw [List.map_map, lo]
      rfl
    rw [e1]
    simp only [st, rd, gx, rx, ri, dk, dv, kb, ix, ox, bx]
    exact ⟨Nat.le_of_ble_eq_true rfl, h ks nm rs _ ns ⟨G, n15.1, n15.2, nn, nd, hr2, _, rfl, fun p _ hp => (hr p (of_decide_eq_true hp)).2⟩⟩
end
end Vl

namespace Vl
open PySem PySem.Spec PyProof.Rows L2
theorem cut1d (xs : List D) : cutD xs (some 1) none = xs.drop 1 := by
  cases xs with
  | nil => rfl
  | cons x xs => exact cutD_from (r := 1) (by simp)
theorem cut4 (xs : List D) : cutD xs none (some 4) = xs.take 4 := by
  by_cases h : 4 ≤ xs.length
  · exact cutD_to (r := 4) h
  · match xs, h with
    | [], _ => rfl
    | [_], _ => rfl
    | [_, _], _ => rfl
    | [_, _, _], _ => rfl
    | _ :: _ :: _ :: _ :: _, h => exact absurd (by simp) h
theorem ex_some {o : Option D} {x : D} (h : o = some x) (P : D → Prop) : (∃ d, o = some d ∧ P d) = P x := by
  subst h
  simp
def nT (p : Pr) : D × D × Str := (eP p, D.str p.1, p.2)
def nU (p : Pr) : D × Str := (D.str p.1, p.2)
theorem nT_fst (ns : List Pr) : (ns.map nT).map (·.1) = ns.map eP := by rw [List.map_map]; rfl
theorem nT_snd (ns : List Pr) : (ns.map nT).map (·.2) = ns.map nU := by rw [List.map_map]; rfl
theorem nU_fst (ns : List Pr) : (ns.map nU).map (·.1) = (ord ns).map .str := by rw [ord, List.map_map, List.map_map]; rfl
theorem nU_ty (ns : List Pr) : (ns.map nU).map (fun n => (strOf n.1, n.2)) = ns := by
  rw [List.map_map]
  conv => rhs; rw [← List.map_id ns]
  exact List.map_congr_left fun p _ => rfl
theorem nT_v {ns : List Pr} (h : ∀ p ∈ ns, isWS p.1 = true) : ∀ x ∈ ns.map nT, NV x := fun x hx => by
  obtain ⟨p, hp, rfl⟩ := List.mem_map.mp hx
  exact ⟨.inl rfl, isWS_wv (h p hp)⟩
theorem sb_len {ks : List Kd} {ns : List (D × Str)} {ap : List Pr} (h : ns.length = 0 ∨ 5 < ns.length) : scOk ks ns ap = false := by
  have : ¬ (1 ≤ ns.length ∧ ns.length ≤ 5) := by omega
  rw [Bool.eq_false_iff]
  intro e
  simp only [scOk, Bool.and_eq_true, decide_eq_true_eq] at e
  exact this e.1
theorem sb_names {ks : List Kd} {ns : List (D × Str)} {ap : List Pr} (h : isDW (ns.map (·.1)) = false) : scOk ks ns ap = false := by
  rw [Bool.eq_false_iff]
  intro e
  simp only [scOk, Bool.and_eq_true] at e
  rw [h] at e
  cases e.2.1
theorem sb_kind {ks : List Kd} {ns : List (D × Str)} {ap : List Pr} (n : D × Str) (hn : n ∈ ns) (h : n.2 ∉ ks.map (·.1)) : scOk ks ns ap = false := by
  rw [Bool.eq_false_iff]
  intro e
  simp only [scOk, Bool.and_eq_true] at e
  have := List.all_eq_true.mp e.2.2.1 n hn
  exact h (of_decide_eq_true this)
theorem sb_fact {ks : List Kd} {ns : List Pr} {ap : List Pr} (q : Pr) (hq : q ∈ ap) (h : factB ns q = false) : scOk ks (ns.map nU) ap = false := by
  rw [Bool.eq_false_iff]
  intro e
  simp only [scOk, Bool.and_eq_true] at e
  have := List.all_eq_true.mp e.2.2.2 q hq
  rw [nU_ty, h] at this
  cases this
theorem sc_good {ks : List Kd} {ns : List Pr} {ap : List Pr} (n1 : 1 ≤ ns.length) (n5 : ns.length ≤ 5) (nw : ∀ p ∈ ns, isWS p.1 = true) (nd : (ord ns).Nodup) (nk : ∀ p ∈ ns, p.2 ∈ ks.map (·.1)) (ha : ∀ q ∈ ap, factB ns q = true) : scOk ks (ns.map nU) ap = true := by
  have a1 : isDW ((ns.map nU).map (·.1)) = true := by
    rw [nU_fst]
    exact isDW_true (fun z hz => by obtain ⟨p, hp, rfl⟩ := List.mem_map.mp hz; exact nw p hp) nd
  have a2 : ((ns.map nU).all fun n => decide (n.2 ∈ ks.map (·.1))) = true := List.all_eq_true.mpr fun q hq => by
    obtain ⟨p, hp, rfl⟩ := List.mem_map.mp hq
    exact decide_eq_true (nk p hp)
  have a3 : ap.all (factB ((ns.map nU).map fun n => (strOf n.1, n.2))) = true := List.all_eq_true.mpr fun q hq => by
    rw [nU_ty]
    exact ha q hq
  simp only [scOk, a1, a2, a3, List.length_map, decide_eq_true n1, decide_eq_true n5, Bool.and_self]
theorem fact_no {ns : List Pr} {q : Pr} (h : q.1 ∉ ord ns ∨ q.2 ∉ ord ns) : factB ns q = false := by
  unfold factB
  rcases h with h | h <;> simp [h]
theorem fact_same {ns : List Pr} {x : Str} : factB ns (x, x) = false := by simp [factB]
theorem fact_turn {ns : List Pr} {q : Pr} : factB ns (q.2, q.1) = factB ns q := by
  unfold factB
  have e1 : decide (q.2 = q.1) = decide (q.1 = q.2) := decide_eq_decide.mpr ⟨Eq.symm, Eq.symm⟩
  have e2 : decide (kndOf ns q.2 = kndOf ns q.1) = decide (kndOf ns q.1 = kndOf ns q.2) := decide_eq_decide.mpr ⟨Eq.symm, Eq.symm⟩
  simp only [e1, e2, Bool.and_comm (decide (q.2 ∈ ord ns))]
theorem fact_told {ns : List Pr} (nd : (ord ns).Nodup) {S : IJ → Bool} (hS : ∀ p ∈ idx ns.length, S p = true → kndOf ns ((ord ns).getD p.1 "") = kndOf ns ((ord ns).getD p.2 "")) : ∀ q ∈ told (ord ns) S, factB ns q = true := fun q hq => by
  have lo : (ord ns).length = ns.length := List.length_map _
  obtain ⟨p, hp, rfl⟩ := List.mem_map.mp hq
  obtain ⟨h1, h2⟩ := List.mem_filter.mp hp
  rw [lo] at h1
  obtain ⟨g1, g2⟩ := mem_idx.mp h1
  have m : ∀ i, i < ns.length → (ord ns).getD i "" ∈ ord ns := fun i hi => by
    rw [List.getD_eq_getElem?_getD, List.getElem?_eq_getElem (by omega)]
    exact List.getElem_mem _
  have ne : ¬ (ord ns).getD p.1 "" = (ord ns).getD p.2 "" := fun e => by
    have := getD_inj nd (by omega) (by omega) e
    omega
  unfold factB nmA
  refine Bool.and_eq_true_iff.mpr ⟨Bool.and_eq_true_iff.mpr ⟨Bool.and_eq_true_iff.mpr ⟨decide_eq_true (m p.1 (by omega)), decide_eq_true (m p.2 g2)⟩, ?_⟩, decide_eq_true (hS p h1 h2)⟩
  show (!decide ((ord ns).getD p.1 "" = (ord ns).getD p.2 "")) = true
  rw [decide_eq_false ne]
  rfl
theorem nU_inj {xs ys : List Pr} (h : xs.map nU = ys.map nU) : xs = ys := by
  have := congrArg (List.map fun n : D × Str => (strOf n.1, n.2)) h
  rwa [nU_ty, nU_ty] at this
section
variable {Φ : RD → Option Cl → Prop} {R : Rr}
/-- making a scene of typed parts -/
theorem scT_ok {b : Bk} {ns ap : List Pr} {e2 e3 : D} {fn fa : Pr → D} (h2 : Sq e2 (ns.map fn)) (h3 : Sq e3 (ap.map fa)) (hn : ∀ p ∈ ns, Sq (fn p) [.str p.1, .str p.2]) (ha : ∀ q ∈ ap, Sq (fa q) [.str q.1, .str q.2]) (nw : ∀ p ∈ ns, isWS p.1 = true) (ln : ns.length ≤ 20) (la : ap.length ≤ 100) (lb : b.ks.length ≤ 20)
    (good : scOk b.ks (ns.map nU) ap = true → Φ (.im .non) (some (.ins "Scene" (scFs ⟨b, ns, apS (ord ns) ap⟩)))) (bad : scOk b.ks (ns.map nU) ap = false → ∀ c, R "BadScene" none c) : S_SceneX_initX [.ow (.ins "Scene" []), .im (bkD b), .im e2, .im e3] Φ R := by
  have e1 : ns.map fn = (ns.map fun p => (fn p, nU p)).map (·.1) := by rw [List.map_map]; rfl
  have e4 : (ns.map fun p => (fn p, nU p)).map (·.2) = ns.map nU := by rw [List.map_map]; rfl
  rw [e1] at h2
  refine sci_ok h2 h3 ha (fun x hx => ?_) (by rw [List.length_map]; exact ln) la lb (fun zs ez e => ?_) fun e => bad (by rw [e4] at e; exact e)
  · obtain ⟨p, hp, rfl⟩ := List.mem_map.mp hx
    exact ⟨hn p hp, isWS_wv (nw p hp)⟩
  · rw [e4] at ez e
    have : ns = zs := nU_inj ez
    subst this
    exact good e
theorem mApart : M_with_apart "Scene" = some S_Scene_with_apart := if_pos rfl
theorem mBook : M_with_book "Scene" = some S_Scene_with_book := if_pos rfl
theorem with_apart_ok {s : Sc} {x y : Str} (nw : ∀ p ∈ s.ns, isWS p.1 = true) (ln : s.ns.length ≤ 20) (la : s.ap.length ≤ 50) (lb : s.b.ks.length ≤ 20)
    (good : scOk s.b.ks (s.ns.map nU) (s.ap ++ [(x, y)]) = true → Φ (.im (scD ⟨s.b, s.ns, apS (ord s.ns) (s.ap ++ [(x, y)])⟩)) none) (bad : scOk s.b.ks (s.ns.map nU) (s.ap ++ [(x, y)]) = false → R "BadScene" none none) : S_Scene_with_apart [.im (scD s), .im (.str x), .im (.str y)] Φ R := by
  refine s_body (Γ := ⟨[.im _, .im _, .im _], [], []⟩) rfl rfl rfl rfl ?_
  simp only [e_T_Scene_with_apart, st, rd, gx, rx, ri, dk, dv, kb, ix, ox, bx, sx, scD, mem_hd, fsc, Option.some.injEq, exists_eq_left', true_and, dv, List.length_map]
  repeat ((with_reducible apply And.intro); focus (first | (refine small ?_; (try simp only [List.length_append, List.length_map, List.length_cons, List.length_nil, List.length_take, List.length_drop, List.length_range]); omega) | (refine smallLt ?_; (try simp only [List.length_append, List.length_map, List.length_cons, List.length_nil, List.length_take, List.length_drop, List.length_range]); omega) | rfl | (exact Nat.le_of_ble_eq_true rfl)))
  refine scT_ok (ns := s.ns) (ap := s.ap ++ [(x, y)]) (fn := eP) (fa := eP) (.inl rfl) (.inl (by rw [List.map_append]; rfl)) (fun _ _ => .inl rfl) (fun _ _ => .inl rfl) nw ln (by simp; omega) lb (fun e => ⟨rfl, good e⟩) fun e c => bad e
theorem with_book_ok {s : Sc} {b : Bk} (nw : ∀ p ∈ s.ns, isWS p.1 = true) (ln : s.ns.length ≤ 20) (la : s.ap.length ≤ 50) (lb : b.ks.length ≤ 20)
    (good : scOk b.ks (s.ns.map nU) s.ap = true → Φ (.im (scD ⟨b, s.ns, apS (ord s.ns) s.ap⟩)) none) (bad : scOk b.ks (s.ns.map nU) s.ap = false → R "BadScene" none none) : S_Scene_with_book [.im (scD s), .im (bkD b)] Φ R := by
  refine s_body (Γ := ⟨[.im _, .im _], [], []⟩) rfl rfl rfl rfl ?_
  simp only [e_T_Scene_with_book, st, rd, gx, rx, ri, dk, dv, kb, ix, ox, bx, sx, scD, mem_hd, fsc, Option.some.injEq, exists_eq_left', true_and, dv, List.length_map]
  repeat ((with_reducible apply And.intro); focus (first | (refine small ?_; (try simp only [List.length_append, List.length_map, List.length_cons, List.length_nil, List.length_take, List.length_drop, List.length_range]); omega) | (refine smallLt ?_; (try simp only [List.length_append, List.length_map, List.length_cons, List.length_nil, List.length_take, List.length_drop, List.length_range]); omega) | rfl | (exact Nat.le_of_ble_eq_true rfl)))
  refine scT_ok (ns := s.ns) (ap := s.ap) (fn := eP) (fa := eP) (.inl rfl) (.inl rfl) (fun _ _ => .inl rfl) (fun _ _ => .inl rfl) nw ln (by omega) lb (fun e => ⟨rfl, good e⟩) fun e c => bad e
end
end Vl

namespace Vl
open PySem PySem.Spec PyProof.Rows L2
/-! ### the written form of a book -/
theorem vx : (∀ (T U : TF) (R : ExD) (Γ : Gm) (Φ : D → Gm → Prop), tJoin T U R Γ Φ = T R Γ fun a Γ1 => match a with
      | .str s => U R Γ1 fun d Γ2 => dJoin s d fun r => Φ r Γ2
      | _ => False) ∧
    (∀ (i : Nat) (T : TF) (R : ExD) (D : EndsD) (Γ : Gm), tAugL i T R D Γ = match Γ.sl[i]? with
      | some (.ow (.lst _)) => T R Γ fun d Γ' => match Γ'.sl[i]?, d with
        | some (.ow (.lst ds)), .lst es => ds.length + es.length ≤ sizeLine ∧ D.nx (Γ'.set i (.ow (.lst (ds ++ es))))
        | _, _ => False
      | _ => False) := ⟨fun _ _ _ _ _ => rfl, fun _ _ _ _ _ => rfl⟩
theorem sum_le {ys : List Str} {n : Nat} (h : ∀ y ∈ ys, y.length ≤ n) : (ys.map (·.length)).sum ≤ ys.length * n := by
  induction ys with
  | nil => simp
  | cons y ys ih =>
    have a := h y List.mem_cons_self
    have b := ih fun z hz => h z (List.mem_cons_of_mem _ hz)
    simp only [List.map_cons, List.sum_cons, List.length_cons, Nat.add_mul, Nat.one_mul]
    omega
theorem join_le {s : Str} {ys : List Str} {n : Nat} (h : ∀ y ∈ ys, y.length ≤ n) : (Txt.join s ys).length ≤ ys.length * n + ys.length * s.length := by
  have a := sum_le h
  cases ys with
  | nil => show (Str.empty).length ≤ _; simp [Str.empty, Str.length]
  | cons y ys =>
    show (PySem.Builtin.Str.glued s (y :: ys)).length ≤ _
    rw [StrLaws.glued_eq_join, len_join_cons]
    have : ys.length * s.length ≤ (y :: ys).length * s.length := Nat.mul_le_mul_right _ (by simp)
    omega
theorem len_app (a b : Str) : (a ++ b).length = a.length + b.length := Str.length_append a b
def wPl (g : Sig) (i : Nat) : Str := g.ts.getD i "" ++ (if g.ss.getD i false = true then "*" else "")
def wSt (l : Str) (p : Pr) : Str := l ++ " " ++ p.1 ++ "." ++ p.2
def wHd (r : Str × Sig) : Str := "routine " ++ r.1 ++ "(" ++ Txt.join ", " ((List.range r.2.ts.length).map (wPl r.2)) ++ "):"
def wRt (r : Str × Sig) : Str := r.2.ws.foldl wSt (wHd r)
def wKd (k : Kd) : Str := "kind " ++ k.1 ++ ": " ++ Txt.join " " k.2
def wBk (b : Bk) : Str := Txt.join "\n" (b.ks.map wKd ++ b.rs.map wRt)
theorem one_len : (" " : Str).length = 1 ∧ ("." : Str).length = 1 ∧ ("*" : Str).length = 1 ∧ ("" : Str).length = 0 ∧ (", " : Str).length = 2 ∧ ("routine " : Str).length = 8 ∧ ("(" : Str).length = 1 ∧ ("):" : Str).length = 2 ∧ ("kind " : Str).length = 5 ∧ (": " : Str).length = 2 ∧ ("\n" : Str).length = 1 := by decide +kernel
theorem wPl_len {g : Sig} (ok : g.Ok) (i : Nat) : (wPl g i).length ≤ 9 := by
  unfold wPl
  rw [len_app]
  have a : (g.ts.getD i "").length ≤ 8 := by
    rw [List.getD_eq_getElem?_getD]
    cases e : g.ts[i]? with
    | none => simp [one_len]
    | some z => exact (isWS_len (ok.tw z (List.mem_of_getElem? e))).2
  split <;> simp only [one_len] <;> omega
theorem wHd_len {r : Str × Sig} (ok : r.2.Ok) (hn : isWS r.1 = true) : (wHd r).length ≤ 60 := by
  have h1 := (isWS_len hn).2
  have h2 := ok.t3
  have h3 := join_le (s := ", ") (ys := (List.range r.2.ts.length).map (wPl r.2)) (n := 9) fun y hy => by
    obtain ⟨i, _, rfl⟩ := List.mem_map.mp hy
    exact wPl_len ok i
  rw [List.length_map, List.length_range] at h3
  simp only [one_len] at h3
  simp only [wHd, len_app, one_len]
  omega
theorem wSt_len {l : Str} {p : Pr} (hp : isP p = true) : (wSt l p).length ≤ l.length + 18 := by
  simp only [isP, Bool.and_eq_true] at hp
  have h1 := (isWS_len hp.1).2
  have h2 := (isWS_len hp.2).2
  simp only [wSt, len_app, one_len]
  omega
theorem fold_len : ∀ {ws : List Pr} {l : Str}, (∀ p ∈ ws, isP p = true) → (ws.foldl wSt l).length ≤ l.length + 18 * ws.length
  | [], l, _ => by simp
  | p :: ws, l, h => by
    have a := wSt_len (l := l) (h p List.mem_cons_self)
    have b := fold_len (ws := ws) (l := wSt l p) fun q hq => h q (List.mem_cons_of_mem _ hq)
    simp only [List.foldl_cons, List.length_cons]
    omega
theorem wRt_len {r : Str × Sig} (ok : r.2.Ok) (hn : isWS r.1 = true) : (wRt r).length ≤ 2000 := by
  have a := wHd_len ok hn
  have b := fold_len (l := wHd r) ok.ww
  have c := ok.wl
  unfold wRt
  omega
theorem wKd_len {k : Kd} (h1 : isWS k.1 = true) (h2 : k.2.length ≤ 3) (h3 : ∀ f ∈ k.2, isWS f = true) : (wKd k).length ≤ 100 := by
  have a := (isWS_len h1).2
  have b := join_le (s := " ") (ys := k.2) (n := 8) fun y hy => (isWS_len (h3 y hy)).2
  simp only [one_len] at b
  simp only [wKd, len_app, one_len]
  omega
theorem sml {n : Nat} (h : n ≤ 5000) : n ≤ sizeLine := Nat.le_trans h (by decide)
section
variable {Φ : RD → Option Cl → Prop} {R : Rr}
abbrev gWr (n : Str) (g : Sig) (ss : List Str) (s3 s4 s5 s6 : SD) : Gm := ⟨[.im (.str n), .im (sgD g), .ow (.lst (ss.map .str)), s3, s4, s5, s6], [], []⟩
theorem wrout_ok {n : Str} {g : Sig} (ok : g.Ok) (hn : isWS n = true) (h : Φ (.im (.str (wRt (n, g)))) none) : S_written_routine [.im (.str n), .im (sgD g)] Φ R := by
  have t3 := ok.t3
  have w9 := ok.wl
  have n8 := (isWS_len hn).2
  refine s_body (Γ := ⟨[.im _, .im _, .un, .un, .un, .un, .un], [], []⟩) rfl rfl rfl rfl ?_
  simp only [e_T_written_routine, e_T_written_routine_2, e_F_written_routine_2, st, rd, gx, rx, ri, dk, dv, kb, ix, ox, bx, sgD, mem_hd, fls, Option.some.injEq, exists_eq_left', true_and, dv, List.length_map]
  refine ⟨Nat.zero_le _, ?_⟩
  simp only [rangeDs_map, Int.toNat_natCast]
  refine ⟨by omega, by omega, ?_⟩
  refine for_inv (f := fun (i : Nat) => D.int (0 + (i : Int))) (fun a : List Str => gWr n g a .un .un .un .un) (fun rest a => a = (List.range a.length).map (wPl g) ∧ ∃ m, rest = List.range' a.length m ∧ a.length + m = g.ts.length) ?_ ?_ (List.range g.ts.length) [] ⟨rfl, g.ts.length, List.range_eq_range', by simp⟩
  · rintro x xs a ⟨ha, m, hm, hl⟩ K bk hK
    cases m with
    | zero => cases hm
    | succ m =>
      rw [List.range'_succ] at hm
      injection hm with hm1 hm2
      subst hm1
      have hi : a.length < g.ts.length := by omega
      have hj : a.length < g.ss.length := by have := ok.sl; omega
      have e1 : g.ts[a.length]? = some g.ts[a.length] := List.getElem?_eq_getElem hi
      have e2 : g.ss[a.length]? = some g.ss[a.length] := List.getElem?_eq_getElem hj
      have a1 : ∀ P : D → Prop, (∃ d, L2.atI (g.ts.map D.str) (a.length : Int) = some d ∧ P d) = P (.str g.ts[a.length]) := fun P => ex_some (by rw [atI_nat (by rw [List.length_map]; exact hi), List.getElem?_map, e1]; rfl) P
      have a2 : ∀ P : D → Prop, (∃ d, L2.atI (g.ss.map D.bl) (a.length : Int) = some d ∧ P d) = P (.bl g.ss[a.length]) := fun P => ex_some (by rw [atI_nat (by rw [List.length_map]; exact hj), List.getElem?_map, e2]; rfl) P
      have tw := (isWS_len (ok.tw _ (List.getElem_mem hi))).2
      have ew : wPl g a.length = g.ts[a.length] ++ (if g.ss[a.length] = true then "*" else "") := by
        unfold wPl
        rw [List.getD_eq_getElem?_getD, List.getD_eq_getElem?_getD, e1, e2]
        rfl
      have fin : ∀ Γ, wipeD Γ [3] = gWr n g (a ++ [wPl g a.length]) .un .un .un .un → K Γ := fun Γ e => hK (a ++ [wPl g a.length]) Γ ⟨by
        rw [List.length_append, List.length_cons, List.length_nil, List.range_succ, List.map_append, ← ha]
        rfl, m, by rw [hm2, List.length_append]; rfl, by rw [List.length_append, List.length_cons, List.length_nil]; omega⟩ e
      simp only [st, rd, gx, rx, ri, dk, dv, kb, ix, ox, bx, e_L_written_routine_2, dv, sgD, mem_hd, fls, Option.some.injEq, exists_eq_left', true_and, a1, a2, Int.zero_add]
      rw [ew] at fin
      cases hb : g.ss[a.length] with
      | true =>
        simp only [hb, st, rd, gx, rx, ri, dk, dv, kb, ix, ox, bx, dv, if_true, one_len] at fin ⊢
        exact ⟨sml (by omega), smallLt (by rw [List.length_map]; omega), fin _ (by simp only [gx, gWr, List.map_append]; rfl)⟩
      | false =>
        simp only [hb, st, rd, gx, rx, ri, dk, dv, kb, ix, ox, bx, dv, if_false, Bool.false_eq_true, one_len] at fin ⊢
        exact ⟨sml (by omega), smallLt (by rw [List.length_map]; omega), fin _ (by simp only [gx, gWr, List.map_append]; rfl)⟩
  rintro a ⟨ha, m, hm, hl⟩
  have la : a.length = g.ts.length := by
    cases m with
    | zero => exact hl
    | succ m => rw [List.range'_succ] at hm; cases hm
  have lj := join_le (s := ", ") (ys := a) (n := 9) fun y hy => by
    rw [ha] at hy
    obtain ⟨i, _, rfl⟩ := List.mem_map.mp hy
    exact wPl_len ok i
  have lsum := sum_le (ys := a) (n := 9) fun y hy => by
    rw [ha] at hy
    obtain ⟨i, _, rfl⟩ := List.mem_map.mp hy
    exact wPl_len ok i
  simp only [one_len] at lj
  simp only [e_Z_written_routine_2, st, rd, gx, rx, ri, dk, dv, kb, ix, ox, bx, frzAt, e_T_written_routine_4, e_T_written_routine_5, e_F_written_routine_5, vx, dJoin, dv, len_app, one_len]
  refine ⟨sml (by omega), sml (by omega), a, rfl, by omega, sml (by omega), sml (by omega), ?_⟩
  have eh : "routine " ++ n ++ "(" ++ Txt.join ", " a ++ "):" = wHd (n, g) := by
    unfold wHd
    rw [ha, la]
  rw [eh]
  have lh := wHd_len (r := (n, g)) ok hn
  simp only [sgD, mem_hd, fls, true_and]
  refine for_inv (f := eP) (fun l : Str => ⟨[.im (.str n), .im (sgD g), .im (.lst (a.map .str)), .un, .im (.str l), .un, .un], [], []⟩) (fun rest l => rest.foldl wSt l = wRt (n, g) ∧ (∀ p ∈ rest, isP p = true) ∧ l.length + 18 * rest.length ≤ 1300) ?_ ?_ g.ws (wHd (n, g)) ⟨rfl, ok.ww, by omega⟩
  · rintro p xs l ⟨h1, h2, h3⟩ K bk hK
    replace h3 : l.length + 18 * (xs.length + 1) ≤ 1300 := h3
    have pw := h2 p List.mem_cons_self
    have wl := wSt_len (l := l) pw
    simp only [isP, Bool.and_eq_true] at pw
    have p1 := (isWS_len pw.1).2
    have p2 := (isWS_len pw.2).2
    simp only [eP, tg, st, rd, gx, rx, ri, dk, dv, kb, ix, ox, bx, List.length_cons, List.length_nil, true_and, e_L_written_routine_5, dv, len_app, one_len]
    refine ⟨sml (by omega), sml (by omega), sml (by omega), sml (by omega), ?_⟩
    exact hK (wSt l p) _ ⟨h1, fun q hq => h2 q (List.mem_cons_of_mem _ hq), by omega⟩ (by simp only [gx]; rfl)
  · rintro l ⟨h1, _, _⟩
    replace h1 : l = wRt (n, g) := h1
    simp only [st, rd, gx, rx, ri, dk, dv, kb, ix, ox, bx, h1]
    exact h
theorem mWritten : M_written "Book" = some S_Book_written := if_pos rfl
theorem written_ok {b : Bk} (g : BkG b.ks b.rs) (h : Φ (.im (.str (wBk b))) none) : S_Book_written [.im (bkD b)] Φ R := by
  have t := g.t
  have k3 := t.k3
  have r4 := t.r4
  refine s_body (Γ := ⟨[.im _, .un, .un, .un, .un, .un], [], []⟩) rfl rfl rfl rfl ?_
  simp only [e_T_Book_written, e_C_Book_written_1, st, rd, gx, rx, ri, dk, dv, kb, ix, ox, bx, bkD, mem_hd, fbs, Option.some.injEq, exists_eq_left', true_and]
  refine ⟨rfl, lc_map (f := eK) (fun k => .str (wKd k)) b.ks (small (by omega)) (fun k hk K hK => ?_) ?_⟩
  · obtain ⟨f1, f2, f3, f4⟩ := t.kf k hk
    have kw := (isWS_len (t.kn k hk)).2
    have lj := join_le (s := " ") (ys := k.2) (n := 8) fun y hy => (isWS_len (f4 y hy)).2
    have ls := sum_le (ys := k.2) (n := 8) fun y hy => (isWS_len (f4 y hy)).2
    simp only [one_len] at lj
    simp only [eK, tg, st, rd, gx, rx, ri, dk, dv, kb, ix, ox, bx, List.length_cons, List.length_nil, true_and, dv, vx, dJoin, len_app, one_len]
    exact ⟨sml (by omega), sml (by omega), k.2, rfl, by omega, sml (by omega), hK _ (by simp only [gx])⟩
  simp only [st, rd, gx, rx, ri, dk, dv, kb, ix, ox, bx, e_T_Book_written_2, e_C_Book_written_2, vx, bkD, mem_hd, fbs, Option.some.injEq, exists_eq_left', true_and]
  refine ⟨rfl, lc_map (f := eR) (fun r => .str (wRt r)) b.rs (small (by omega)) (fun r hr K hK => ?_) ?_⟩
  · simp only [eR, tg, st, rd, gx, rx, ri, dk, dv, kb, ix, ox, bx, List.length_cons, List.length_nil, true_and]
    exact wrout_ok (g.sig hr) (t.rn r hr) (hK _ (by simp only [gx]))
  have l1 : ∀ y ∈ b.ks.map wKd ++ b.rs.map wRt, y.length ≤ 2000 := fun y hy => by
    rcases List.mem_append.mp hy with hy | hy
    · obtain ⟨k, hk, rfl⟩ := List.mem_map.mp hy
      have := wKd_len (t.kn k hk) (t.kf k hk).2.1 (t.kf k hk).2.2.2
      omega
    · obtain ⟨k, hk, rfl⟩ := List.mem_map.mp hy
      exact wRt_len (g.sig hk) (t.rn k hk)
  have ls := sum_le l1
  have ll : (b.ks.map wKd ++ b.rs.map wRt).length ≤ 7 := by rw [List.length_append, List.length_map, List.length_map]; omega
  have ee : (b.ks.map fun k => D.str (wKd k)) ++ (b.rs.map fun r => D.str (wRt r)) = (b.ks.map wKd ++ b.rs.map wRt).map D.str := by rw [List.map_append, List.map_map, List.map_map]; rfl
  simp only [st, rd, gx, rx, ri, dk, dv, kb, ix, ox, bx, List.length_map, e_Z_Book_written_2, frzAt, vx, ee, dJoin]
  exact ⟨sml (by omega), _, rfl, by simp only [one_len]; omega, h⟩
end
end Vl

namespace Vl
open PySem PySem.Spec PyProof.Rows L2
section
variable {Φ : RD → Option Cl → Prop} {R : Rr}
theorem fields_ok {b : Bk} {n : Str} (h1 : ∀ k, b.ks.find? (fun k => decide (k.1 = n)) = some k → Φ (.im (.tup (k.2.map .str))) none) (h2 : b.ks.find? (fun k => decide (k.1 = n)) = none → R "BadBook" none none) : S_Book_fields_of [.im (bkD b), .im (.str n)] Φ R := by
  refine s_body (Γ := ⟨[.im _, .im _, .un, .un], [], []⟩) rfl rfl rfl rfl ?_
  simp only [e_T_Book_fields_of, e_F_Book_fields_of_1, st, rd, gx, rx, ri, dk, dv, kb, ix, ox, bx, bkD, mem_hd, fbs, Option.some.injEq, exists_eq_left', true_and]
  refine for_find (f := eK) (fun k => decide (k.1 = n)) (fun k => Φ (.im (.tup (k.2.map .str))) none) b.ks (fun k hk K bk k1 k2 => ?_) ?_
  · simp only [eK, tg, st, rd, gx, rx, ri, dk, dv, kb, ix, ox, bx, List.length_cons, List.length_nil, true_and, e_L_Book_fields_of_1, dv, D.dt, Bool.and_self, Bool.false_eq_true, if_false, eqv_strs]
    refine ifK_i (fun e => ?_) fun e => ?_
    · simp only [st, rd, gx, rx, ri, dk, dv, kb, ix, ox, bx]
      exact k1 e
    · exact k2 e _ (by simp only [gx])
  · split
    · rename_i k e
      exact h1 k e
    · rename_i e
      exact h2 e
end
end Vl

namespace Vl
open PySem PySem.Spec PyProof.Rows L2
/-! ### what a scene tells -/
theorem mSF : M_fields_of "Scene" = some S_Scene_fields_of := if_pos rfl
theorem mBF : M_fields_ofXBook "Book" = some S_Book_fields_of := if_pos rfl
theorem mRank : M_rank "Scene" = some S_Scene_rank := if_pos rfl
theorem mOrder : M_order "Scene" = some S_Scene_order := if_pos rfl
theorem ex_sc0 : (exSub "BadScene" "BadScene" = true) ∧ (exSub "BadScene" "HeldError" = true) ∧ (exSub "BadScene" "BadBook" = false) ∧ (("BadScene" : Str) ∈ exL) := by decide
section
variable {Φ : RD → Option Cl → Prop} {R : Rr}
theorem sfields_ok {s : Sc} {x : Str} (h1 : ∀ k, kndOf s.ns x = some k → ∃ kd, s.b.ks.find? (fun q => decide (q.1 = k)) = some kd ∧ Φ (.im (.tup (kd.2.map .str))) none) (h2 : kndOf s.ns x = none → R "BadScene" none none) : S_Scene_fields_of [.im (scD s), .im (.str x)] Φ R := by
  refine s_body (Γ := ⟨[.im _, .im _], [], []⟩) rfl rfl rfl rfl ?_
  simp only [e_T_Scene_fields_of, st, rd, gx, rx, ri, dk, dv, kb, ix, ox, bx, scD, mem_hd, fsc, Option.some.injEq, exists_eq_left', true_and, bkD, fbs, mBF, mKind]
  refine ⟨rfl, kind_ok (ns := s.ns) (fsc s).2.1 (fun k hk => ?_) fun e => h2 e⟩
  obtain ⟨kd, e, hΦ⟩ := h1 k hk
  simp only [st, rd, gx, rx, ri, dk, dv, kb, ix, ox, bx]
  exact ⟨rfl, fields_ok (b := s.b) (fun kd' e' => by
    rw [e] at e'
    cases e'
    exact hΦ) fun e' => by rw [e] at e'; cases e'⟩
theorem rank_ok {s : Sc} {x : Str} (h1 : ∀ p, s.ns.zipIdx.find? (fun p => decide (p.1.1 = x)) = some p → Φ (.im (.int (p.2 : Int))) none) (h2 : s.ns.zipIdx.find? (fun p => decide (p.1.1 = x)) = none → R "BadScene" none none) : S_Scene_rank [.im (scD s), .im (.str x)] Φ R := by
  refine s_body (Γ := ⟨[.im _, .im _, .un, .un, .un], [], []⟩) rfl rfl rfl rfl ?_
  simp only [e_T_Scene_rank, e_F_Scene_rank_1, st, rd, gx, rx, ri, dk, dv, kb, ix, ox, bx, sx, scD, mem_hd, fsc, Option.some.injEq, exists_eq_left', true_and, D.seq, enumDs_map]
  refine for_find (f := fun p : Pr × Nat => .tup [.int (p.2 : Int), eP p.1]) (fun p => decide (p.1.1 = x)) (fun p => Φ (.im (.int (p.2 : Int))) none) s.ns.zipIdx (fun p hp K bk k1 k2 => ?_) ?_
  · simp only [eP, tg, st, rd, gx, rx, ri, dk, dv, kb, ix, ox, bx, List.length_cons, List.length_nil, true_and, e_L_Scene_rank_1, dv, D.dt, Bool.and_self, Bool.false_eq_true, if_false, eqv_strs]
    refine ifK_i (fun e => ?_) fun e => ?_
    · simp only [st, rd, gx, rx, ri, dk, dv, kb, ix, ox, bx]
      exact k1 e
    · exact k2 e _ (by simp only [gx])
  · split
    · rename_i p e
      exact h1 p e
    · rename_i e
      exact h2 e
theorem order_ok {s : Sc} (l5 : s.ns.length ≤ 5) (h : Φ (.im (.tup ((ord s.ns).map .str))) none) : S_Scene_order [.im (scD s)] Φ R := by
  refine s_body (Γ := ⟨[.im _, .un, .un], [], []⟩) rfl rfl rfl rfl ?_
  simp only [e_T_Scene_order, e_C_Scene_order_1, st, rd, gx, rx, ri, dk, dv, kb, ix, ox, bx, scD, mem_hd, fsc, Option.some.injEq, exists_eq_left', true_and]
  refine ⟨rfl, lc_map (f := eP) (fun p => .str p.1) s.ns (small (by omega)) (fun p hp K hK => ?_) ?_⟩
  · simp only [eP, tg, st, rd, gx, rx, ri, dk, dv, kb, ix, ox, bx, List.length_cons, List.length_nil, true_and]
    exact hK _ (by simp only [gx])
  · have e : (s.ns.map fun p => D.str p.1) = (ord s.ns).map .str := by rw [ord, List.map_map]; rfl
    simp only [st, rd, gx, rx, ri, dk, dv, kb, ix, ox, bx, dv, e]
    exact h
theorem zip_none {ns : List Pr} {x : Str} (h : x ∉ ord ns) : ns.zipIdx.find? (fun p => decide (p.1.1 = x)) = none := by
  rw [List.find?_eq_none]
  intro p hp
  simp only [decide_eq_true_eq]
  exact fun e => h (List.mem_map.mpr ⟨p.1, by
    have := List.mem_zipIdx hp
    obtain ⟨_, _, e3⟩ := this
    rw [e3]
    exact List.getElem_mem _, e⟩)
theorem hndR {s : Sc} {c : Int} {Γ : Gm} (hΓ : Γ = ⟨[.im (scD s), .im (.int c), .im (.int 0), .un], [], []⟩) (h : Φ (.im (.bl true)) none) :
    ("BadScene" : Str) ∈ exL ∧ (none : Option (List (Str × D))) = none ∧ if exSub "BadScene" "BadScene" = true then ∀ a : Addr, H_law_refused_2 a "BadScene" nvr ⟨fun Γ2 => Z_law_refused_2 (RR R) (DD Φ) (Γ2.set 3 .un), (DD Φ).rt, fun Γ2 => (DD Φ).bk (Γ2.set 3 .un), fun Γ2 => (DD Φ).ct (Γ2.set 3 .un)⟩ (Γ.set 3 (.im (.ptr (.ref a)))) else RR R "BadScene" none Γ := by
  subst hΓ
  refine ⟨ex_sc0.2.2.2, rfl, ?_⟩
  rw [if_pos ex_sc0.1]
  intro a
  simp only [H_law_refused_2, e_Z_law_refused_2, st, rd, gx, rx, ri, dk, dv, kb, ix, ox, bx, dv, ex_sc0, true_and, if_true, if_false, Bool.false_eq_true, Int.reduceAdd, Int.reduceSub, D.dt, Bool.and_self, eqv_int, decide_true]
  exact h
theorem refused_ok {s : Sc} {c : Int} (hz : ("zz" : Str) ∉ ord s.ns) (hc : c = 0 ∨ c = 1 ∨ c = 2) (h : Φ (.im (.bl true)) none) : S_law_refused [.im (scD s), .im (.int c)] Φ R := by
  refine s_body (Γ := ⟨[.im _, .im _, .un, .un], [], []⟩) rfl rfl rfl rfl ?_
  have iq : ∀ (i j : Int), D.eqv (.int i) (.int j) = decide (i = j) := eqv_int
  simp only [e_T_law_refused, e_T_law_refused_2, e_Y_law_refused_2, e_B_law_refused_2, e_T_law_refused_3, e_T_law_refused_5, st, rd, gx, rx, ri, dk, dv, kb, ix, ox, bx, dv, D.dt, Bool.and_self, true_and, Bool.false_eq_true, if_false, iq]
  rcases hc with rfl | rfl | rfl
  · simp only [st, rd, gx, rx, ri, dk, dv, kb, ix, ox, bx, dv, D.dt, Bool.and_self, true_and, Bool.false_eq_true, if_false, iq, decide_true, Int.reduceEq, decide_false, scD, fsc, mKind, Option.some.injEq, exists_eq_left', List.map_cons, List.map_nil]
    refine ⟨rfl, kind_ok (ns := s.ns) (fsc s).2.1 (fun k hk => ?_) fun _ => ?_⟩
    · rw [kndOf_none hz] at hk; cases hk
    · exact hndR (s := s) rfl h
  · simp only [st, rd, gx, rx, ri, dk, dv, kb, ix, ox, bx, e_T_law_refused_5, dv, D.dt, Bool.and_self, true_and, Bool.false_eq_true, if_false, iq, decide_true, Int.reduceEq, decide_false, scD, fsc, mSF, Option.some.injEq, exists_eq_left', List.map_cons, List.map_nil]
    refine ⟨rfl, sfields_ok (s := s) (fun k hk => ?_) fun _ => ?_⟩
    · rw [kndOf_none hz] at hk; cases hk
    · exact hndR (s := s) rfl h
  · simp only [st, rd, gx, rx, ri, dk, dv, kb, ix, ox, bx, e_T_law_refused_5, dv, D.dt, Bool.and_self, true_and, Bool.false_eq_true, if_false, iq, decide_true, Int.reduceEq, decide_false, scD, fsc, mRank, Option.some.injEq, exists_eq_left', List.map_cons, List.map_nil]
    refine ⟨rfl, rank_ok (s := s) (fun p hp => ?_) fun _ => ?_⟩
    · rw [zip_none hz] at hp; cases hp
    · exact hndR (s := s) rfl h
end
end Vl

namespace Vl
open PySem PySem.Spec PyProof.Rows L2
/-! ### pairs told -/
theorem sub_filter {L M : List IJ} (h : M.Sublist L) (nd : L.Nodup) : L.filter (fun p => decide (p ∈ M)) = M := by
  induction h with
  | slnil => rfl
  | cons a h ih =>
    rw [List.nodup_cons] at nd
    rw [List.filter_cons_of_neg (by simpa using fun m => nd.1 (h.subset m))]
    exact ih nd.2
  | cons_cons a h ih =>
    rename_i l1 l2
    rw [List.nodup_cons] at nd
    rw [List.filter_cons_of_pos (by simp)]
    congr 1
    refine Eq.trans (List.filter_congr fun p hp => ?_) (ih nd.2)
    have : p ≠ a := fun e => nd.1 (e ▸ hp)
    simp [this]
theorem tw_mem {T U : List Pr} (h : ∀ q, q ∈ T ↔ q ∈ U) : ∀ q, q ∈ twice T ↔ q ∈ twice U := fun q => by
  rw [mem_twice, mem_twice, h, h]
theorem tw_snoc {T U : List Pr} {t u : Pr} (h : ∀ q, q ∈ twice T ↔ q ∈ twice U) (e : t = u ∨ t = (u.2, u.1)) : ∀ q, q ∈ twice (T ++ [t]) ↔ q ∈ twice (U ++ [u]) := fun q => by
  have ap : ∀ (A : List Pr) (b : Pr), q ∈ twice (A ++ [b]) ↔ q ∈ twice A ∨ (q = b ∨ q = (b.2, b.1)) := fun A b => by
    unfold twice
    rw [List.flatMap_append, List.mem_append]
    simp
  rw [ap, ap, h]
  rcases e with rfl | rfl
  · exact Iff.rfl
  · constructor
    · rintro (a | a | a)
      · exact .inl a
      · exact .inr (.inr a)
      · exact .inr (.inl a)
    · rintro (a | a | a)
      · exact .inl a
      · exact .inr (.inr a)
      · exact .inr (.inl a)
theorem tw_rot {T : List Pr} {k : Nat} : ∀ q, q ∈ twice (T.drop k ++ T.take k) ↔ q ∈ twice T := tw_mem fun q => by
  conv => rhs; rw [← List.take_append_drop k T]
  rw [List.mem_append, List.mem_append, or_comm]
theorem tw_dup {T : List Pr} {k : Nat} : ∀ q, q ∈ twice (T ++ T.take k) ↔ q ∈ twice T := tw_mem fun q => by
  rw [List.mem_append]
  exact ⟨fun h => h.elim id fun h => List.mem_of_mem_take h, .inl⟩
def KS (nm : List Pr) (S : IJ → Bool) : Prop := ∀ p ∈ idx nm.length, S p = true → kndOf nm ((ord nm).getD p.1 "") = kndOf nm ((ord nm).getD p.2 "")
theorem fact_tw {nm : List Pr} {S : IJ → Bool} {ap : List Pr} (nd : (ord nm).Nodup) (hS : KS nm S) (h : ∀ q, q ∈ twice ap ↔ q ∈ twice (told (ord nm) S)) : ∀ q ∈ ap, factB nm q = true := fun q hq => by
  have := (h q).mp (mem_twice.mpr (.inl hq))
  rcases mem_twice.mp this with m | m
  · exact fact_told nd hS q m
  · rw [← fact_turn]
    exact fact_told nd hS _ m
def ak (nm : List Pr) (p : IJ) : Bool := decide ((nm.getD p.1 ("", "")).2 = (nm.getD p.2 ("", "")).2)
theorem ak_knd {nm : List Pr} (nd : (ord nm).Nodup) : KS nm (ak nm) := fun p hp h => by
  obtain ⟨h1, h2⟩ := mem_idx.mp hp
  have e1 : nm[p.1]? = some nm[p.1] := List.getElem?_eq_getElem (by omega)
  have e2 : nm[p.2]? = some nm[p.2] := List.getElem?_eq_getElem (by omega)
  have h := of_decide_eq_true h
  rw [List.getD_eq_getElem?_getD, List.getD_eq_getElem?_getD, e1, e2] at h
  rw [kndOf_at nd e1, kndOf_at nd e2]
  exact congrArg some h
theorem nmA_inj {o : List Str} (nd : o.Nodup) {p q : IJ} (hp : p ∈ idx o.length) (hq : q ∈ idx o.length) (e : nmA o p = nmA o q) : p = q := by
  obtain ⟨h1, h2⟩ := mem_idx.mp hp
  obtain ⟨g1, g2⟩ := mem_idx.mp hq
  exact Prod.ext (getD_inj nd (by omega) (by omega) (Prod.ext_iff.mp e).1) (getD_inj nd (by omega) (by omega) (Prod.ext_iff.mp e).2)
theorem mem_told1 {o : List Str} (nd : o.Nodup) {S : IJ → Bool} {p : IJ} (hp : p ∈ idx o.length) : nmA o p ∈ told o S ↔ S p = true := by
  constructor
  · intro h
    obtain ⟨q, hq, e⟩ := List.mem_map.mp h
    obtain ⟨h1, h2⟩ := List.mem_filter.mp hq
    rw [← nmA_inj nd h1 hp e]
    exact h2
  · exact fun h => List.mem_map_of_mem (List.mem_filter.mpr ⟨hp, h⟩)
def plus (S : IJ → Bool) (p0 : IJ) (p : IJ) : Bool := S p || decide (p = p0)
/-- one fact more -/
theorem told_plus {o : List Str} (nd : o.Nodup) {S A : IJ → Bool} {p0 : IJ} (h0 : p0 ∈ idx o.length) (a0 : A p0 = true) (hS : ∀ p ∈ idx o.length, S p = true → A p = true) :
    (told o A).filter (fun q => decide (q ∈ told o S) || decide (q = nmA o p0)) = told o (plus S p0) := by
  unfold told
  rw [List.filter_map, List.filter_filter]
  congr 1
  refine List.filter_congr fun p hp => ?_
  have m1 := mem_told1 nd (S := S) hp
  unfold told at m1
  have m2 : nmA o p = nmA o p0 ↔ p = p0 := ⟨fun e => nmA_inj nd hp h0 e, fun e => by rw [e]⟩
  show ((decide (nmA o p ∈ ((idx o.length).filter S).map (nmA o)) || decide (nmA o p = nmA o p0)) && A p) = plus S p0 p
  rw [Bool.eq_iff_iff]
  simp only [plus, Bool.and_eq_true, Bool.or_eq_true, decide_eq_true_eq, m1, m2]
  constructor
  · exact fun h => h.1
  · rintro (h | h)
    · exact ⟨.inl h, hS p hp h⟩
    · exact ⟨.inr h, by rw [h]; exact a0⟩
theorem tw_plus {o : List Str} (nd : o.Nodup) {S : IJ → Bool} {p0 : IJ} (h0 : p0 ∈ idx o.length) {t : Pr} (ht : t = nmA o p0 ∨ t = ((nmA o p0).2, (nmA o p0).1)) : ∀ q, q ∈ twice (told o S ++ [t]) ↔ q ∈ twice (told o (plus S p0)) := fun q => by
  rw [tw_snoc (U := told o S) (u := nmA o p0) (fun _ => Iff.rfl) ht]
  refine tw_mem (fun q => ?_) q
  rw [List.mem_append, List.mem_singleton]
  constructor
  · rintro (h | rfl)
    · obtain ⟨p, hp, rfl⟩ := List.mem_map.mp h
      obtain ⟨h1, h2⟩ := List.mem_filter.mp hp
      exact List.mem_map_of_mem (List.mem_filter.mpr ⟨h1, by simp [plus, h2]⟩)
    · exact List.mem_map_of_mem (List.mem_filter.mpr ⟨h0, by simp [plus]⟩)
  · intro h
    obtain ⟨p, hp, rfl⟩ := List.mem_map.mp h
    obtain ⟨h1, h2⟩ := List.mem_filter.mp hp
    simp only [plus, Bool.or_eq_true, decide_eq_true_eq] at h2
    rcases h2 with h2 | h2
    · exact .inl (List.mem_map_of_mem (List.mem_filter.mpr ⟨h1, h2⟩))
    · exact .inr (by rw [h2])
theorem KS_plus {nm : List Pr} {S : IJ → Bool} {p0 : IJ} (hS : KS nm S) (h0 : p0 ∈ idx nm.length) (k0 : kndOf nm ((ord nm).getD p0.1 "") = kndOf nm ((ord nm).getD p0.2 "")) : KS nm (plus S p0) := fun p hp h => by
  simp only [plus, Bool.or_eq_true, decide_eq_true_eq] at h
  rcases h with h | h
  · exact hS p hp h
  · rw [h]; exact k0
/-! ### the loops of the law -/
structure LI (nm : List Pr) (L : List IJ) (al du to : List Pr) : Prop where
  al : al = (L.filter (ak nm)).map (nmA (ord nm))
  ex : ∃ M : List IJ, M.Sublist (L.filter (ak nm)) ∧ du = M.map (nmA (ord nm))
  tw : ∀ q, q ∈ twice to ↔ q ∈ twice du
  tl : to.length = du.length
theorem LI.len {nm : List Pr} {L : List IJ} {al du to : List Pr} (h : LI nm L al du to) : al.length ≤ L.length ∧ du.length ≤ L.length ∧ to.length ≤ L.length := by
  have a := List.length_filter_le (ak nm) L
  obtain ⟨M, hM, e⟩ := h.ex
  have b := hM.length_le
  have c := h.tl
  have d : al.length = (L.filter (ak nm)).length := by rw [h.al, List.length_map]
  have f : du.length = M.length := by rw [e, List.length_map]
  omega
theorem LI.no {nm : List Pr} {L : List IJ} {al du to : List Pr} {p : IJ} (h : LI nm L al du to) (hp : ak nm p = false) : LI nm (L ++ [p]) al du to := by
  have e : (L ++ [p]).filter (ak nm) = L.filter (ak nm) := by rw [List.filter_append, List.filter_cons_of_neg (by simp [hp]), List.filter_nil, List.append_nil]
  exact ⟨by rw [e]; exact h.al, by rw [e]; exact h.ex, h.tw, h.tl⟩
theorem LI.one {nm : List Pr} {L : List IJ} {al du to : List Pr} {p : IJ} (h : LI nm L al du to) (hp : ak nm p = true) : LI nm (L ++ [p]) (al ++ [nmA (ord nm) p]) du to := by
  have e : (L ++ [p]).filter (ak nm) = L.filter (ak nm) ++ [p] := by rw [List.filter_append, List.filter_cons_of_pos hp, List.filter_nil]
  obtain ⟨M, hM, e2⟩ := h.ex
  exact ⟨by rw [e, List.map_append, h.al]; rfl, by rw [e]; exact ⟨M, hM.trans (List.sublist_append_left _ _), e2⟩, h.tw, h.tl⟩
theorem LI.two {nm : List Pr} {L : List IJ} {al du to : List Pr} {p : IJ} {t : Pr} (h : LI nm L al du to) (hp : ak nm p = true) (ht : t = nmA (ord nm) p ∨ t = ((nmA (ord nm) p).2, (nmA (ord nm) p).1)) : LI nm (L ++ [p]) (al ++ [nmA (ord nm) p]) (du ++ [nmA (ord nm) p]) (to ++ [t]) := by
  have e : (L ++ [p]).filter (ak nm) = L.filter (ak nm) ++ [p] := by rw [List.filter_append, List.filter_cons_of_pos hp, List.filter_nil]
  obtain ⟨M, hM, e2⟩ := h.ex
  exact ⟨by rw [e, List.map_append, h.al]; rfl, by rw [e]; exact ⟨M ++ [p], hM.append (List.Sublist.refl _), by rw [List.map_append, e2]; rfl⟩, tw_snoc h.tw ht, by rw [List.length_append, List.length_append, h.tl]; rfl⟩
/-- what the loops leave -/
theorem LI.fin {nm : List Pr} {al du to : List Pr} (n5 : nm.length ≤ 5) (nd : (ord nm).Nodup) (h : LI nm (idx nm.length) al du to) :
    al = told (ord nm) (ak nm) ∧ ∃ S : IJ → Bool, du = told (ord nm) S ∧ KS nm S ∧ ∀ p ∈ idx nm.length, S p = true → ak nm p = true := by
  have lo : (ord nm).length = nm.length := List.length_map _
  obtain ⟨M, hM, e⟩ := h.ex
  have sub : M.Sublist (idx nm.length) := hM.trans List.filter_sublist
  have key : ∀ p ∈ idx nm.length, decide (p ∈ M) = true → ak nm p = true := fun p _ hp => (List.mem_filter.mp (hM.subset (of_decide_eq_true hp))).2
  refine ⟨by rw [h.al, told, lo], fun p => decide (p ∈ M), ?_, fun p hp hm => ak_knd nd p hp (key p hp hm), key⟩
  rw [told, lo, sub_filter sub (idx_ok n5).1, e]
def rowI (n i : Nat) : List IJ := (List.range (n - (i + 1))).map fun k => (i, i + 1 + k)
theorem rowI_eq (n i : Nat) : ((List.range n).drop (i + 1)).map (fun j => (i, j)) = rowI n i := by
  unfold rowI
  refine List.ext_getElem (by simp) fun k h1 h2 => ?_
  simp
theorem idx_row (n : Nat) : idx n = (List.range n).flatMap (rowI n) := by
  unfold idx
  congr 1
  funext i
  exact rowI_eq n i
section
variable {ms : List Int} {Φ : RD → Option Cl → Prop} {R : Rr}
abbrev gLp (ms ns : List Int) (wd : D) (nm al du to : List Pr) (s7 : SD) : Gm :=
  ⟨[.im (.ro (ms.map .int)), .ow (Cn ns), .im wd, .im (.lst (nm.map eP)), .ow (.lst (al.map eP)), .ow (.lst (du.map eP)), .ow (.lst (to.map eP)), s7, .un, .un, .un, .un, .un, .un, .un, .un, .un, .un, .un, .un, .un, .un], [], []⟩
theorem loop_ok {ns : List Int} {wd : D} {nm : List Pr} (n5 : nm.length ≤ 5) (h : ∀ ns al du to, LI nm (idx nm.length) al du to → Z_law_7_3 (RR R) (DD Φ) (gLp ms ns wd nm al du to .un)) : T_law_7 (RR R) (DD Φ) (gLp ms ns wd nm [] [] [] .un) := by
  simp only [e_T_law_7, e_F_law_7, st, rd, gx, rx, ri, dk, dv, kb, ix, ox, bx, dv, List.length_map, rangeDs_map, Int.toNat_natCast]
  refine ⟨by omega, by omega, ?_⟩
  refine for_inv (f := fun (i : Nat) => D.int (0 + (i : Int))) (fun a : List Int × List Pr × List Pr × List Pr => gLp ms a.1 wd nm a.2.1 a.2.2.1 a.2.2.2 .un) (fun rest a => (∀ x ∈ rest, x < nm.length) ∧ ∃ L, LI nm L a.2.1 a.2.2.1 a.2.2.2 ∧ L ++ rest.flatMap (rowI nm.length) = idx nm.length) ?_ ?_ (List.range nm.length) (ns, [], [], []) ⟨fun x hx => List.mem_range.mp hx, [], ⟨rfl, ⟨[], .slnil, rfl⟩, fun q => Iff.rfl, rfl⟩, by rw [idx_row]; rfl⟩
  · rintro i xs ⟨ns, al, du, to⟩ ⟨hlt, L, hL, hx⟩ K bk hK
    rw [List.flatMap_cons] at hx
    have hi : i < nm.length := hlt i List.mem_cons_self
    simp only [st, rd, gx, rx, ri, dk, dv, kb, ix, ox, bx, e_F_law_8, dv, List.length_map, Int.zero_add]
    have en : ((nm.length : Int) - ((i : Int) + 1)).toNat = nm.length - (i + 1) := by omega
    rw [en, rangeDs_map]
    refine ⟨⟨by omega, by omega, by omega, by omega⟩, ?_⟩
    refine for_inv (f := fun (k : Nat) => D.int (((i : Int) + 1) + (k : Int))) (fun a : List Int × List Pr × List Pr × List Pr => gLp ms a.1 wd nm a.2.1 a.2.2.1 a.2.2.2 (.im (.int (i : Int)))) (fun rest a => ∃ L, LI nm L a.2.1 a.2.2.1 a.2.2.2 ∧ L ++ (rest.map (fun k => (i, i + 1 + k)) ++ xs.flatMap (rowI nm.length)) = idx nm.length) ?_ ?_ (List.range (nm.length - (i + 1))) (ns, al, du, to) ⟨L, hL, hx⟩
    · rintro k ys ⟨ns, al, du, to⟩ ⟨L, hL, hx⟩ K bk hK
      clear hlt
      have pm : ((i, i + 1 + k) : IJ) ∈ idx nm.length := by rw [← hx]; simp
      obtain ⟨_, hj⟩ := mem_idx.mp pm
      replace hj : i + 1 + k < nm.length := hj
      have l10 := (idx_ok n5).2.2
      rw [← hx] at l10
      simp only [List.length_append, List.map_cons, List.length_cons] at l10
      obtain ⟨b1, b2, b3⟩ := hL.len
      replace b1 : al.length ≤ L.length := b1
      replace b2 : du.length ≤ L.length := b2
      replace b3 : to.length ≤ L.length := b3
      have ei : nm[i]? = some nm[i] := List.getElem?_eq_getElem hi
      have ej : nm[i + 1 + k]? = some nm[i + 1 + k] := List.getElem?_eq_getElem hj
      have ai : ∀ (P : D → Prop), (∃ d, L2.atI (nm.map eP) (i : Int) = some d ∧ P d) = P (eP nm[i]) := fun P => ex_some (by rw [atI_nat (by rw [List.length_map]; omega), List.getElem?_map, ei]; rfl) P
      have aj : ∀ (P : D → Prop), (∃ d, L2.atI (nm.map eP) ((i : Int) + 1 + (k : Int)) = some d ∧ P d) = P (eP nm[i + 1 + k]) := fun P => ex_some (by
        have : ((i : Int) + 1 + (k : Int)) = ((i + 1 + k : Nat) : Int) := by omega
        rw [this, atI_nat (by rw [List.length_map]; omega), List.getElem?_map, ej]; rfl) P
      have epk : nmA (ord nm) (i, i + 1 + k) = (nm[i].1, nm[i + 1 + k].1) := by
        unfold nmA ord
        dsimp only
        rw [List.getD_eq_getElem?_getD, List.getD_eq_getElem?_getD, List.getElem?_map, List.getElem?_map, ei, ej]
        rfl
      have eak : ak nm (i, i + 1 + k) = decide (nm[i].2 = nm[i + 1 + k].2) := by
        unfold ak
        show decide ((nm.getD i ("", "")).2 = (nm.getD (i + 1 + k) ("", "")).2) = _
        rw [List.getD_eq_getElem?_getD, List.getD_eq_getElem?_getD, ei, ej]
        rfl
      have nx : ∀ (L' : List IJ), L' = L ++ [((i, i + 1 + k) : IJ)] → L' ++ (ys.map (fun k => ((i, i + 1 + k) : IJ)) ++ xs.flatMap (rowI nm.length)) = idx nm.length := fun L' e => by
        rw [e, ← hx]
        simp
      simp only [st, rd, gx, rx, ri, dk, dv, kb, ix, ox, bx, e_L_law_8, dv, ai, aj, eP, at2, D.dt, Bool.and_self, true_and, Bool.false_eq_true, if_false, eqv_strs]
      refine ifK_i (fun e => ?_) fun e => ?_
      · rw [← eak] at e
        simp only [st, rd, gx, rx, ri, dk, dv, kb, ix, ox, bx, e_T_law_10, e_T_law_11, e_T_law_12, ai, aj, eP, at2]
        repeat ((with_reducible apply And.intro); focus (first | (refine small ?_; (try simp only [List.length_append, List.length_map, List.length_cons, List.length_nil, List.length_take, List.length_drop, List.length_range]); omega) | (refine smallLt ?_; (try simp only [List.length_append, List.length_map, List.length_cons, List.length_nil, List.length_take, List.length_drop, List.length_range]); omega) | rfl | (exact Nat.le_of_ble_eq_true rfl)))
        refine take_ok (by decide) fun r ns r0 r3 => ?_
        simp only [st, rd, gx, rx, ri, dk, dv, kb, ix, ox, bx, dv]
        refine ifK_i (fun e2 => ?_) fun e2 => ?_
        · have hr : r = 1 ∨ r = 2 := by have := of_decide_eq_true e2; omega
          have tail : ∀ (t : Pr) Γ, t = nmA (ord nm) (i, i + 1 + k) ∨ t = ((nmA (ord nm) (i, i + 1 + k)).2, (nmA (ord nm) (i, i + 1 + k)).1) → wipeD Γ [16, 17, 21] = gLp ms ns wd nm (al ++ [nmA (ord nm) (i, i + 1 + k)]) (du ++ [nmA (ord nm) (i, i + 1 + k)]) (to ++ [t]) (.im (.int (i : Int))) → K Γ := fun t Γ ht e3 => hK (ns, al ++ [nmA (ord nm) (i, i + 1 + k)], du ++ [nmA (ord nm) (i, i + 1 + k)], to ++ [t]) Γ ⟨L ++ [((i, i + 1 + k) : IJ)], hL.two e ht, nx _ rfl⟩ e3
          rw [epk] at tail
          rcases hr with rfl | rfl
          · simp only [st, rd, gx, rx, ri, dk, dv, kb, ix, ox, bx, e_T_law_14, dv, at2, Int.reduceSub]
            repeat ((with_reducible apply And.intro); focus (first | (refine small ?_; (try simp only [List.length_append, List.length_map, List.length_cons, List.length_nil, List.length_take, List.length_drop, List.length_range]); omega) | (refine smallLt ?_; (try simp only [List.length_append, List.length_map, List.length_cons, List.length_nil, List.length_take, List.length_drop, List.length_range]); omega) | rfl | (exact Nat.le_of_ble_eq_true rfl)))
            refine tail (nm[i].1, nm[i + 1 + k].1) _ (.inl rfl) ?_
            simp only [gx, gLp, List.map_append]
            rfl
          · simp only [st, rd, gx, rx, ri, dk, dv, kb, ix, ox, bx, e_T_law_14, dv, at2, Int.reduceSub]
            repeat ((with_reducible apply And.intro); focus (first | (refine small ?_; (try simp only [List.length_append, List.length_map, List.length_cons, List.length_nil, List.length_take, List.length_drop, List.length_range]); omega) | (refine smallLt ?_; (try simp only [List.length_append, List.length_map, List.length_cons, List.length_nil, List.length_take, List.length_drop, List.length_range]); omega) | rfl | (exact Nat.le_of_ble_eq_true rfl)))
            refine tail (nm[i + 1 + k].1, nm[i].1) _ (.inr rfl) ?_
            simp only [gx, gLp, List.map_append]
            rfl
        · simp only [st, rd, gx, rx, ri, dk, dv, kb, ix, ox, bx]
          refine hK (ns, al ++ [nmA (ord nm) (i, i + 1 + k)], du, to) _ ⟨L ++ [((i, i + 1 + k) : IJ)], hL.one e, nx _ rfl⟩ ?_
          rw [epk]
          simp only [gx, gLp, List.map_append]
          rfl
      · rw [← eak] at e
        simp only [st, rd, gx, rx, ri, dk, dv, kb, ix, ox, bx]
        exact hK (ns, al, du, to) _ ⟨L ++ [((i, i + 1 + k) : IJ)], hL.no e, nx _ rfl⟩ (by simp only [gx])
    · rintro ⟨ns, al, du, to⟩ ⟨L, hL, hx⟩
      exact hK (ns, al, du, to) _ ⟨fun x hx => hlt x (List.mem_cons_of_mem _ hx), L, hL, hx⟩ (by simp only [gx])
  · rintro ⟨ns, al, du, to⟩ ⟨_, L, hL, hx⟩
    replace hx : L ++ [] = idx nm.length := hx
    rw [List.append_nil] at hx
    subst hx
    exact h ns al du to hL
end
end Vl

namespace Vl
open PySem PySem.Spec PyProof.Rows L2
def eKt (k : Kd) : D := .tup [.str k.1, .lst (k.2.map .str)]
def wdD (ks : List Kd) (nm : List Pr) (rs : List (Str × Sig)) (ps : List Pr) : D := .lst [.lst (ks.map eKl), .lst (nm.map eP), .lst (rs.map eRl), .lst (ps.map eP)]
instance good_eK : Good eK := ⟨fun a b => by
  obtain ⟨a1, a2⟩ := a
  obtain ⟨b1, b2⟩ := b
  simp only [eK, D.eqv, Ds.eqv, Bool.and_true, eqv_map D.str]
  by_cases h : a1 = b1 <;> by_cases h2 : a2 = b2 <;> simp [h, h2], fun a n hn => by
  obtain ⟨m, rfl⟩ : ∃ m, n = m + 1 + 1 := ⟨n - 2, by omega⟩
  have : ∀ (l : List Str) (m : Nat), Ds.dt m (l.map .str) = true := fun l m => by
    induction l with
    | nil => rfl
    | cons x l ih => simp only [List.map_cons, Ds.dt, D.dt, ih, Bool.and_self]
  simp [eK, D.dt, Ds.dt, this]⟩
theorem dx : (∀ (A B : TF) (R : ExD) (Γ : Gm) (Φ : Cl → Gm → Prop), tAddO A B R Γ Φ = A R Γ fun a Γ1 => B R Γ1 fun b Γ2 => match a, b with
      | .lst xs, .lst ys => xs.length + ys.length ≤ sizeLine ∧ Φ (.lst (xs ++ ys)) Γ2
      | _, _ => False) ∧
    (∀ (T : TF) (R : ExD) (Γ : Gm) (Φ : Cl → Gm → Prop), tDictP T R Γ Φ = T R Γ fun d Γ1 => ∃ (ds : List D) (kvs : List (L2.Key × D)), d = .lst ds ∧ Paired PrD ds kvs ∧ (kvs.map (·.1)).Nodup ∧ Φ (.dct kvs) Γ1) := ⟨fun _ _ _ _ _ => rfl, fun _ _ _ _ => rfl⟩
/-- what the law has drawn -/
structure TC (ks : List Kd) (nm : List Pr) (rs : List (Str × Sig)) (ps al du to : List Pr) (S : IJ → Bool) : Prop where
  g : WG ks nm rs ps
  ea : al = told (ord nm) (ak nm)
  ed : du = told (ord nm) S
  kS : KS nm S
  sub : ∀ p ∈ idx nm.length, S p = true → ak nm p = true
  tw : ∀ q, q ∈ twice to ↔ q ∈ twice du
  tl : to.length ≤ 40
theorem told_len {nm : List Pr} {S : IJ → Bool} (n5 : nm.length ≤ 5) : (told (ord nm) S).length ≤ 10 := by
  have lo : (ord nm).length = nm.length := List.length_map _
  rw [told, List.length_map, lo]
  exact Nat.le_trans (List.length_filter_le _ _) (idx_ok n5).2.2
theorem WG.nw {ks : List Kd} {nm : List Pr} {rs : List (Str × Sig)} {ps : List Pr} (g : WG ks nm rs ps) : ∀ p ∈ nm, isWS p.1 = true := fun p hp => (names_words _ (g.nn p hp)).1
/-- making the scene of the law -/
theorem scW {ks : List Kd} {nm : List Pr} {rs : List (Str × Sig)} {ps : List Pr} (g : WG ks nm rs ps) {S : IJ → Bool} (kS : KS nm S) {b : Bk} (hb : b.ks = ks) {ap : List Pr} (h : ∀ q, q ∈ twice ap ↔ q ∈ twice (told (ord nm) S)) : scOk b.ks (nm.map nU) ap = true ∧ apS (ord nm) ap = told (ord nm) S :=
  ⟨sc_good g.n1 g.n5 g.nw g.nd (by rw [hb]; exact g.nk) (fact_tw g.nd kS h), apS_told g.nd h⟩
section
variable {ms : List Int} {Φ : RD → Option Cl → Prop} {R : Rr}
theorem scW_ok {ks : List Kd} {nm : List Pr} {rs : List (Str × Sig)} {ps : List Pr} (g : WG ks nm rs ps) {S : IJ → Bool} (kS : KS nm S) {b : Bk} (hb : b.ks = ks) {ap : List Pr} (h : ∀ q, q ∈ twice ap ↔ q ∈ twice (told (ord nm) S)) (la : ap.length ≤ 100) {e2 e3 : D} (h2 : Sq e2 (nm.map eP)) (h3 : Sq e3 (ap.map eP))
    (good : Φ (.im .non) (some (.ins "Scene" (scFs ⟨b, nm, told (ord nm) S⟩)))) : S_SceneX_initX [.ow (.ins "Scene" []), .im (bkD b), .im e2, .im e3] Φ R := by
  obtain ⟨h4, h5⟩ := scW g kS hb h
  have n5 := g.n5
  have k3 := g.g.k3
  exact scT_ok (ns := nm) (ap := ap) (fn := eP) (fa := eP) h2 h3 (fun _ _ => .inl rfl) (fun _ _ => .inl rfl) g.nw (by omega) la (by rw [hb]; omega) (fun _ => by rw [h5]; exact good) fun e => by rw [h4] at e; cases e
abbrev gT (ms ns : List Int) (ks : List Kd) (nm : List Pr) (rs : List (Str × Sig)) (ps al du to : List Pr) (e8 : Int) (e9 : D) (s13 s14 s15 s17 s19 s20 : SD) (as : List Addr) (ws : List Cl) : Gm :=
  ⟨[.im (.ro (ms.map .int)), .ow (Cn ns), .im (wdD ks nm rs ps), .im (.lst (nm.map eP)), .im (.lst (al.map eP)), .im (.lst (du.map eP)), .im (.lst (to.map eP)), .un, .im (.int e8), .im e9, .im (.lst (rs.map eR)), .im (bkD ⟨ks, rs⟩), .im (scD ⟨⟨ks, rs⟩, nm, du⟩), s13, s14, s15, .un, s17, .un, s19, s20, .un], as, ws⟩
theorem eq_p (xs : List Pr) : (D.tup (xs.map eP)).eqv (.tup (xs.map eP)) = true := by rw [(eqt eP).1]; simp
theorem eq_ds (xs : List Pr) : Ds.eqv (xs.map eP) (xs.map eP) = true := by
  have := eq_p xs
  simpa only [D.eqv] using this
theorem dt_p2 (xs : List Pr) : D.dt 60 (.tup (xs.map eP)) = true := dt_wt xs
/-- other books -/
theorem t43_ok {ns : List Int} {ks : List Kd} {nm : List Pr} {rs : List (Str × Sig)} {ps al du to : List Pr} {S : IJ → Bool} (c : TC ks nm rs ps al du to S) {e8 : Int} {e9 : D} {s13 : SD} {as : List Addr} {ws : List Cl} (h : Φ (.im (.bl true)) none) :
    T_law_43 (RR R) (DD Φ) (gT ms ns ks nm rs ps al du to e8 e9 s13 .un .un .un .un .un as ws) := by
  have g := c.g
  have t := g.g.t
  have k3 := t.k3
  have n5 := g.n5
  have r4 := t.r4
  have d10 : du.length ≤ 10 := by rw [c.ed]; exact told_len n5
  have tl := c.tl
  have t0 : BkT ks [] := ⟨t.k1, t.k3, t.kn, t.kd, t.kf, Nat.zero_le _, (fun _ h => by cases h), .nil, (fun _ h => by cases h)⟩
  simp only [e_T_law_43, e_C_law_43, st, rd, gx, rx, ri, dk, dv, kb, ix, ox, bx, wdD, at4]
  refine ⟨rfl, lc_map (f := eKl) eKt ks (small (by omega)) (fun k hk K hK => ?_) ?_⟩
  · simp only [st, rd, gx, rx, ri, dk, dv, kb, ix, ox, bx, eKl, at2, eKt] at hK ⊢
    exact ⟨Nat.le_of_ble_eq_true rfl, hK _ (by simp only [gx, wdD])⟩
  simp only [st, rd, gx, rx, ri, dk, dv, kb, ix, ox, bx]
  refine ⟨rfl, bkG_ok (fk := eKt) (fr := eR) t0 (.inr rfl) (.inl rfl) (fun k _ => ⟨_, .inr rfl, .inl rfl⟩) (fun r _ => .inl rfl) ⟨rfl, ?_⟩⟩
  simp only [e_T_law_44, st, rd, gx, rx, ri, dk, dv, kb, ix, ox, bx, scD, fsc, mBook, true_and]
  refine ⟨_, rfl, rfl, with_book_ok (s := ⟨⟨ks, rs⟩, nm, du⟩) (b := ⟨ks, []⟩) g.nw (by show nm.length ≤ 20; omega) (by show du.length ≤ 50; omega) (by show ks.length ≤ 20; omega) (fun _ => ?_) fun e => ?_⟩
  · have ed : apS (ord nm) du = du := by rw [c.ed]; exact apS_told g.nd fun _ => Iff.rfl
    simp only [ed, st, rd, gx, rx, ri, dk, dv, kb, ix, ox, bx, e_T_law_45, dv, scD, mem_hd, fsc, Option.some.injEq, exists_eq_left', true_and, D.dt, dt_ps, Bool.and_self, eq_p, if_true, Bool.not_true, Bool.false_eq_true, if_false, bkD, fbs]
    refine ⟨dt_map eP (by decide) _, dt_map eP (by decide) _, Nat.zero_le _, rfl, ?_⟩
    simp only [st, rd, gx, rx, ri, dk, dv, kb, ix, ox, bx, List.map_nil, D.eqv, Ds.eqv, Bool.not_true, Bool.false_eq_true, if_false, e_T_law_47, dv]
    have e0 : told (ord nm) (fun _ => false) = [] := by simp [told]
    refine ⟨rfl, scW_ok (b := ⟨ks, []⟩) (S := fun _ => false) (ap := []) g (fun _ _ h => by cases h) rfl (fun q => by rw [e0]) (Nat.zero_le _) (.inl rfl) (.inl rfl) ⟨rfl, ?_⟩⟩
    rw [e0]
    simp only [st, rd, gx, rx, ri, dk, dv, kb, ix, ox, bx, dv, mem_hd, fsc, Option.some.injEq, exists_eq_left', true_and, List.map_nil, D.dt, Ds.dt, dt_ps, Bool.and_self, eq_p, D.eqv, Ds.eqv, if_true, Bool.not_true, Bool.false_eq_true, if_false, scD]
    refine ⟨Nat.zero_le _, dt_map eP (by decide) _, ?_⟩
    simp only [st, rd, gx, rx, ri, dk, dv, kb, ix, ox, bx, sx, eq_ds, Bool.not_true, Bool.false_eq_true, if_false, e_T_law_49, dv]
    refine ⟨rfl, rfl, scW_ok (b := ⟨ks, []⟩) (S := S) (ap := to) g c.kS rfl (fun q => by rw [c.tw, c.ed]) (by omega) (.inl rfl) (.inl rfl) ⟨rfl, ?_⟩⟩
    rw [← c.ed]
    simp only [st, rd, gx, rx, ri, dk, dv, kb, ix, ox, bx, dv, mem_hd, fsc, Option.some.injEq, exists_eq_left', true_and, D.dt, Ds.dt, dt_ps, Bool.and_self, eq_p, if_true, Bool.not_true, Bool.false_eq_true, if_false]
    refine ⟨dt_map eP (by decide) _, ?_⟩
    simp only [st, rd, gx, rx, ri, dk, dv, kb, ix, ox, bx, eqv_int, decide_true, bkD, fbs, scD, fsc, mem_hd, Option.some.injEq, exists_eq_left', true_and, dv, List.length_map, D.dt, Bool.and_self, Bool.false_eq_true, if_false]
    exact h
  · have := (scW g c.kS (b := ⟨ks, []⟩) rfl (ap := du) (by rw [c.ed]; exact fun _ => Iff.rfl)).1
    rw [this] at e
    cases e
/-- one fact more -/
theorem t36_ok {ns : List Int} {ks : List Kd} {nm : List Pr} {rs : List (Str × Sig)} {ps al du to : List Pr} {S : IJ → Bool} (c : TC ks nm rs ps al du to S) {e8 : Int} {e9 : D} {s13 : SD} {as : List Addr} {ws : List Cl} (h : Φ (.im (.bl true)) none) :
    T_law_36 (RR R) (DD Φ) (gT ms ns ks nm rs ps al du to e8 e9 s13 .un .un .un .un .un as ws) := by
  have g := c.g
  have k3 := g.g.t.k3
  have n5 := g.n5
  have lo : (ord nm).length = nm.length := List.length_map _
  have d10 : du.length ≤ 10 := by rw [c.ed]; exact told_len n5
  have a10 : al.length ≤ 10 := by rw [c.ea]; exact told_len n5
  simp only [e_T_law_36, st, rd, gx, rx, ri, dk, dv, kb, ix, ox, bx, dv, List.length_map]
  refine ifK_i (fun e => ?_) fun e => ?_
  · have a0 : 0 < al.length := by have := of_decide_eq_true e; omega
    simp only [st, rd, gx, rx, ri, dk, dv, kb, ix, ox, bx, e_T_law_37, dv, List.length_map]
    refine ⟨rfl, rfl, take_ok (by omega) fun r ns r0 r1 => ?_⟩
    simp only [st, rd, gx, rx, ri, dk, dv, kb, ix, ox, bx]
    refine atI_m (f := eP) r0 r1 fun q hq => ?_
    obtain ⟨p0, hp0, rfl⟩ : ∃ p0 ∈ (idx nm.length).filter (ak nm), nmA (ord nm) p0 = q := by
      have := List.mem_of_getElem? hq
      rw [c.ea, told, lo] at this
      exact List.mem_map.mp this
    obtain ⟨hp0, ap0⟩ := List.mem_filter.mp hp0
    have hp1 : p0 ∈ idx (ord nm).length := by rw [lo]; exact hp0
    generalize eq : nmA (ord nm) p0 = q at *
    have kP := KS_plus c.kS hp0 (ak_knd g.nd p0 hp0 ap0)
    have w1 := scW g kP (b := ⟨ks, rs⟩) rfl (ap := du ++ [(q.2, q.1)]) (by rw [c.ed]; exact tw_plus g.nd hp1 (.inr (by rw [eq])))
    have w2 := scW g kP (b := ⟨ks, rs⟩) rfl (ap := told (ord nm) (plus S p0) ++ [q]) (fun z => by
      have m : q ∈ told (ord nm) (plus S p0) := by rw [← eq]; exact (mem_told1 g.nd hp1).mpr (by simp [plus])
      refine tw_mem (fun z => ?_) z
      rw [List.mem_append, List.mem_singleton]
      exact ⟨fun h => h.elim id fun e => e ▸ m, .inl⟩)
    have w3 := told_plus g.nd hp1 ap0 (S := S) (A := ak nm) (by rw [lo]; exact c.sub)
    rw [← c.ea, ← c.ed, eq] at w3
    have l10 : (told (ord nm) (plus S p0)).length ≤ 10 := told_len n5
    generalize eN : told (ord nm) (plus S p0) = nw at *
    simp only [st, rd, gx, rx, ri, dk, dv, kb, ix, ox, bx, e_T_law_38, eP, at2, scD, fsc, mApart, true_and]
    refine ⟨_, rfl, ?_⟩
    repeat ((with_reducible apply And.intro); focus (first | (refine small ?_; (try simp only [List.length_append, List.length_map, List.length_cons, List.length_nil, List.length_take, List.length_drop, List.length_range]); omega) | (refine smallLt ?_; (try simp only [List.length_append, List.length_map, List.length_cons, List.length_nil, List.length_take, List.length_drop, List.length_range]); omega) | rfl | (exact Nat.le_of_ble_eq_true rfl)))
    refine with_apart_ok (s := ⟨⟨ks, rs⟩, nm, du⟩) g.nw (by show nm.length ≤ 20; omega) (by show du.length ≤ 50; omega) (by show ks.length ≤ 20; omega) (fun _ => ?_) fun e => ?_
    · simp only [w1.2, st, rd, gx, rx, ri, dk, dv, kb, ix, ox, bx, e_T_law_39, e_C_law_39, dv, scD, mem_hd, fsc, Option.some.injEq, exists_eq_left', true_and, D.dt, dt_ps, Bool.and_self]
      refine ⟨rfl, lc_ok (f := eP) (fun z => decide (z ∈ du) || decide (z = q)) eP al [] (small (by simp; omega)) (fun z hz K hK => ?_) ?_⟩
      · have ee : ((du.map eP).any fun w => w.eqv (eP z)) = decide (z ∈ du) := (any_map eP z du).trans (decide_eq_decide.mpr Iff.rfl)
        simp only [st, rd, gx, rx, ri, dk, dv, kb, ix, ox, bx, dv, dt_p, dt_ps, Bool.and_self, true_and, Bool.false_eq_true, if_false, ee]
        refine orK_v (decide (z = q)) (fun _ Ψ hh => ?_) ?_
        · have e3 : D.eqv (eP z) (.tup [.str q.1, .str q.2]) = decide (z = q) := (good_eP.eq z q).trans (decide_eq_decide.mpr Iff.rfl)
          simp only [st, rd, gx, rx, ri, dk, dv, kb, ix, ox, bx, dv, dt_p, D.dt, Ds.dt, Bool.and_self, true_and, Bool.false_eq_true, if_false, e3]
          exact hh
        · cases cc : (decide (z ∈ du) || decide (z = q)) with
          | true =>
            simp only [cc, st, rd, gx, rx, ri, dk, dv, kb, ix, ox, bx, if_true] at hK ⊢
            exact hK _ (by simp only [gx])
          | false =>
            simp only [cc, st, rd, gx, rx, ri, dk, dv, kb, ix, ox, bx, if_false, Bool.false_eq_true] at hK ⊢
            exact hK _ (by simp only [gx])
      rw [List.nil_append, w3]
      simp only [st, rd, gx, rx, ri, dk, dv, kb, ix, ox, bx, dv, D.dt, dt_ps, Bool.and_self, eq_p, if_true, Bool.not_true, Bool.false_eq_true, if_false, mem_hd, fsc, Option.some.injEq, exists_eq_left', true_and]
      refine ⟨dt_map eP (by decide) _, dt_map eP (by decide) _, ?_⟩
      simp only [at2, mApart, Option.some.injEq, exists_eq_left']
      refine ⟨rfl, with_apart_ok (s := ⟨⟨ks, rs⟩, nm, nw⟩) g.nw (by show nm.length ≤ 20; omega) (by show nw.length ≤ 50; omega) (by show ks.length ≤ 20; omega) (fun _ => ?_) fun e => ?_⟩
      · simp only [w2.2, st, rd, gx, rx, ri, dk, dv, kb, ix, ox, bx, dv, scD, mem_hd, fsc, Option.some.injEq, exists_eq_left', true_and, D.dt, dt_ps, Bool.and_self, eq_p, Bool.not_true, Bool.false_eq_true, if_false, e_Z_law_36]
        refine ⟨dt_map eP (by decide) _, ?_⟩
        exact t43_ok c h
      · have := w2.1
        rw [this] at e
        cases e
    · have := w1.1
      rw [this] at e
      cases e
  · simp only [st, rd, gx, rx, ri, dk, dv, kb, ix, ox, bx, e_Z_law_36]
    exact t43_ok c h
/-- what is asked of each name -/
theorem kv_nodup {ks : List Kd} (nd : (ks.map (·.1)).Nodup) : ((ks.map fun k => ((Sum.inr k.1 : L2.Key), D.lst (k.2.map .str))).map (·.1)).Nodup := by
  have e : (ks.map fun k => ((Sum.inr k.1 : L2.Key), D.lst (k.2.map .str))).map (·.1) = (ks.map (·.1)).map Sum.inr := by rw [List.map_map, List.map_map]; rfl
  rw [e]
  exact List.Pairwise.map Sum.inr (fun a b h e => h (Sum.inr.inj e)) nd
theorem kv_pairs : ∀ ks : List Kd, Paired PrD (ks.map eKl) (ks.map fun k => ((Sum.inr k.1 : L2.Key), D.lst (k.2.map .str)))
  | [] => .nil
  | k :: ks => .cons (.lst (Sum.inr k.1) _) (kv_pairs ks)
theorem kv_val {ks : List Kd} {x : Str} {kd : Kd} (h : ks.find? (fun q => decide (q.1 = x)) = some kd) : valD (ks.map fun k => ((Sum.inr k.1 : L2.Key), D.lst (k.2.map .str))) (Sum.inr x) = some (.lst (kd.2.map .str)) := by
  unfold valD
  rw [List.find?_map]
  have : ((fun kv : L2.Key × D => decide (kv.1 = Sum.inr x)) ∘ fun k : Kd => ((Sum.inr k.1 : L2.Key), D.lst (k.2.map .str))) = fun q : Kd => decide (q.1 = x) := by
    funext q
    exact decide_eq_decide.mpr ⟨fun e => Sum.inr.inj e, fun e => congrArg Sum.inr e⟩
  rw [this, h]
  rfl
theorem kd_find {ks : List Kd} {x : Str} (h : x ∈ ks.map (·.1)) : ∃ kd, ks.find? (fun q => decide (q.1 = x)) = some kd := by
  cases e : ks.find? fun q => decide (q.1 = x) with
  | some kd => exact ⟨kd, rfl⟩
  | none =>
    obtain ⟨k, hk, e2⟩ := List.mem_map.mp h
    have := List.find?_eq_none.mp e k hk
    simp [e2] at this
theorem rank_at {nm : List Pr} (nd : (ord nm).Nodup) {i : Nat} {p : Pr} (h : nm[i]? = some p) : ∃ q, nm.zipIdx.find? (fun q => decide (q.1.1 = p.1)) = some q ∧ q.2 = i := by
  cases e : nm.zipIdx.find? fun q => decide (q.1.1 = p.1) with
  | some q =>
    refine ⟨q, rfl, ?_⟩
    have h1 : q.1.1 = p.1 := of_decide_eq_true (List.find?_some e :)
    have h2 := List.mem_zipIdx (List.mem_of_find?_eq_some e)
    obtain ⟨_, h4, h3⟩ := h2
    obtain ⟨hi, e3⟩ := List.getElem?_eq_some_iff.mp h
    have h5 : q.2 < nm.length := by omega
    have h6 : nm[q.2] = q.1 := by rw [h3]; rfl
    have e4 : (ord nm)[q.2]'(by rw [ord, List.length_map]; exact h5) = (ord nm)[i]'(by rw [ord, List.length_map]; exact hi) := by
      unfold ord
      rw [List.getElem_map, List.getElem_map, h6, e3]
      exact h1
    exact (List.getElem_inj nd).mp e4
  | none =>
    have : (p, i) ∈ nm.zipIdx := by
      rw [List.mk_mem_zipIdx_iff_getElem?]
      exact h
    have := List.find?_eq_none.mp e _ this
    simp at this
theorem isb (i : Int) (k : D → Prop) : dIsi "bool" (.int i) k = k (.bl false) := rfl
theorem t28_ok {ns : List Int} {ks : List Kd} {nm : List Pr} {rs : List (Str × Sig)} {ps al du to : List Pr} {S : IJ → Bool} (c : TC ks nm rs ps al du to S) {e8 : Int} {e9 : D} {as : List Addr} {ws : List Cl} (h : Φ (.im (.bl true)) none) :
    T_law_28 (RR R) (DD Φ) (gT ms ns ks nm rs ps al du to e8 e9 .un .un .un .un .un .un as ws) := by
  have g := c.g
  have k3 := g.g.t.k3
  have n5 := g.n5
  simp only [e_T_law_28, e_F_law_28, st, rd, gx, rx, ri, dk, dv, kb, ix, ox, bx, dv, List.length_map, rangeDs_map, Int.toNat_natCast]
  refine ⟨by omega, by omega, ?_⟩
  refine for_find (f := fun (i : Nat) => D.int (0 + (i : Int))) (fun _ => false) (fun _ => False) (List.range nm.length) (fun i hi K bk _ k2 => ?_) ?_
  · have hi := List.mem_range.mp hi
    have ei : nm[i]? = some nm[i] := List.getElem?_eq_getElem hi
    have ai : ∀ (P : D → Prop), (∃ d, L2.atI (nm.map eP) (i : Int) = some d ∧ P d) = P (eP nm[i]) := fun P => ex_some (by rw [atI_nat (by rw [List.length_map]; omega), List.getElem?_map, ei]; rfl) P
    have hm : nm[i] ∈ nm := List.getElem_mem hi
    generalize nm[i] = p at *
    have kn : kndOf nm p.1 = some p.2 := by
      have := kndOf_at g.nd ei
      rwa [show (ord nm).getD i "" = p.1 from by rw [List.getD_eq_getElem?_getD, ord, List.getElem?_map, ei]; rfl] at this
    obtain ⟨kd, hkd⟩ := kd_find (g.nk p hm)
    obtain ⟨rq, hrq, hri⟩ := rank_at g.nd ei
    simp only [st, rd, gx, rx, ri, dk, dv, kb, ix, ox, bx, e_T_law_29, Int.zero_add, ai, eP, tg, List.length_cons, List.length_nil, true_and, e_T_law_30, scD, fsc, mKind, Option.some.injEq, exists_eq_left']
    refine kind_ok (ns := nm) (fsc ⟨⟨ks, rs⟩, nm, du⟩).2.1 (fun k hk => ?_) fun e => by rw [kn] at e; cases e
    rw [kn] at hk
    cases hk
    simp only [st, rd, gx, rx, ri, dk, dv, kb, ix, ox, bx, dv, D.dt, Bool.and_self, true_and, if_true, eqv_strs, decide_true, Bool.not_true, Bool.false_eq_true, if_false, scD, fsc, mSF, Option.some.injEq, exists_eq_left']
    refine ⟨rfl, sfields_ok (s := ⟨⟨ks, rs⟩, nm, du⟩) (fun k hk => ?_) fun e => ?_⟩
    · replace hk : kndOf nm p.1 = some k := hk
      rw [kn] at hk
      cases hk
      refine ⟨kd, hkd, ?_⟩
      simp only [dx, st, rd, gx, rx, ri, dk, dv, kb, ix, ox, bx, wdD, at4]
      refine ⟨_, _, rfl, kv_pairs ks, kv_nodup g.g.t.kd, ?_⟩
      show ∃ q v, D.str p.2 = kD q ∧ valD _ q = some v ∧ _
      refine ⟨Sum.inr p.2, _, rfl, kv_val hkd, ?_⟩
      have q1 : (D.tup (kd.2.map .str)).eqv (.tup (kd.2.map .str)) = true := by rw [(eqt D.str).1]; simp
      simp only [st, rd, gx, rx, ri, dk, dv, kb, ix, ox, bx, dv, D.dt, Bool.and_self, q1, true_and, if_true, Bool.not_true, Bool.false_eq_true, if_false, fsc, mRank, Option.some.injEq, exists_eq_left']
      refine ⟨dt_map D.str (by decide) _, rfl, rank_ok (s := ⟨⟨ks, rs⟩, nm, du⟩) (fun q hq => ?_) fun e => ?_⟩
      · replace hq : nm.zipIdx.find? (fun q => decide (q.1.1 = p.1)) = some q := hq
        rw [hrq] at hq
        cases hq
        rw [hri]
        simp only [st, rd, gx, rx, ri, dk, dv, kb, ix, ox, bx, isb, dv, D.dt, Bool.and_self, true_and, if_true, if_false, Bool.false_eq_true, fsc, mRank, Option.some.injEq, exists_eq_left']
        refine ⟨rfl, rank_ok (s := ⟨⟨ks, rs⟩, nm, du⟩) (fun q hq => ?_) fun e => ?_⟩
        · replace hq : nm.zipIdx.find? (fun q => decide (q.1.1 = p.1)) = some q := hq
          rw [hrq] at hq
          cases hq
          rw [hri]
          simp only [st, rd, gx, rx, ri, dk, dv, kb, ix, ox, bx, dv, D.dt, Bool.and_self, true_and, if_true, if_false, Bool.false_eq_true, eqv_int, decide_true, Bool.not_true]
          exact k2 rfl _ (by simp only [gx]; rfl)
        · replace e : nm.zipIdx.find? (fun q => decide (q.1.1 = p.1)) = none := e
          rw [hrq] at e
          cases e
      · replace e : nm.zipIdx.find? (fun q => decide (q.1.1 = p.1)) = none := e
        rw [hrq] at e
        cases e
    · replace e : kndOf nm p.1 = none := e
      rw [kn] at e
      cases e
  · rw [List.find?_eq_none.mpr (by simp)]
    have zz : ("zz" : Str) ∉ ord (Sc.mk ⟨ks, rs⟩ nm du).ns := fun q => by
      obtain ⟨p, hp, e⟩ := List.mem_map.mp (show ("zz" : Str) ∈ nm.map (·.1) from q)
      exact (names_words p.1 (g.nn p hp)).2.1 e
    simp only [e_T_law_34, st, rd, gx, rx, ri, dk, dv, kb, ix, ox, bx]
    refine ⟨rfl, refused_ok zz (.inl rfl) ?_⟩
    simp only [st, rd, gx, rx, ri, dk, dv, kb, ix, ox, bx, Bool.not_true, if_false, Bool.false_eq_true]
    refine ⟨rfl, refused_ok zz (.inr (.inl rfl)) ?_⟩
    simp only [st, rd, gx, rx, ri, dk, dv, kb, ix, ox, bx, Bool.not_true, if_false, Bool.false_eq_true]
    refine ⟨rfl, refused_ok zz (.inr (.inr rfl)) ?_⟩
    simp only [st, rd, gx, rx, ri, dk, dv, kb, ix, ox, bx, Bool.not_true, if_false, Bool.false_eq_true]
    exact t36_ok c h
theorem t24_ok {ns : List Int} {ks : List Kd} {nm : List Pr} {rs : List (Str × Sig)} {ps al du to : List Pr} {S : IJ → Bool} (c : TC ks nm rs ps al du to S) {e8 : Int} {e9 : D} {as : List Addr} {ws : List Cl} (h : Φ (.im (.bl true)) none) :
    T_law_24 (RR R) (DD Φ) (gT ms ns ks nm rs ps al du to e8 e9 .un .un .un .un .un .un as ws) := by
  have g := c.g
  have k3 := g.g.t.k3
  have n5 := g.n5
  have hw : (bkFs ⟨ks, rs⟩).lookup ("written" : Str) = none := rfl
  simp only [e_T_law_24, e_C_law_24, st, rd, gx, rx, ri, dk, dv, kb, ix, ox, bx, scD, mem_hd, fsc, Option.some.injEq, exists_eq_left', true_and, dv, D.dt, dt_ps, Bool.and_self, eq_p, if_true, Bool.not_true, Bool.false_eq_true, if_false, mOrder]
  refine ⟨dt_map eP (by decide) _, order_ok (s := ⟨⟨ks, rs⟩, nm, du⟩) n5 ?_⟩
  simp only [st, rd, gx, rx, ri, dk, dv, kb, ix, ox, bx]
  refine ⟨rfl, lc_map (f := eP) (fun p => .str p.1) nm (small (by omega)) (fun p hp K hK => ?_) ?_⟩
  · simp only [st, rd, gx, rx, ri, dk, dv, kb, ix, ox, bx, eP, at2]
    exact hK _ (by simp only [gx])
  have e : (nm.map fun p => D.str p.1) = (ord nm).map .str := by rw [ord, List.map_map]; rfl
  have q1 : (D.tup ((ord nm).map .str)).eqv (.tup ((ord nm).map .str)) = true := by rw [(eqt D.str).1]; simp
  have q2 : D.eqv (.str (wBk ⟨ks, rs⟩)) (.str (wBk ⟨ks, rs⟩)) = true := by rw [eqv_strs]; simp
  simp only [e, st, rd, gx, rx, ri, dk, dv, kb, ix, ox, bx, dv, dt_ts, Bool.and_self, q1, if_true, Bool.not_true, Bool.false_eq_true, if_false, true_and, e_T_law_26, scD, mem_hd, fsc, Option.some.injEq, exists_eq_left', D.dt, eq_p, bkD, hw, mWritten]
  refine ⟨dt_map D.str (by decide) _, dt_map eP (by decide) _, rfl, written_ok (b := ⟨ks, rs⟩) g.g ⟨rfl, written_ok (b := ⟨ks, rs⟩) g.g ?_⟩⟩
  simp only [st, rd, gx, rx, ri, dk, dv, kb, ix, ox, bx, dv, D.dt, Bool.and_self, q2, if_true, Bool.not_true, Bool.false_eq_true, if_false, true_and]
  exact t28_ok c h
end
end Vl

namespace Vl
open PySem PySem.Spec PyProof.Rows L2
theorem atI_last {xs : List Pr} {z : Pr} (h : xs.getLast? = some z) : L2.atI (xs.map eP) (-1) = some (eP z) := by
  have l0 : xs ≠ [] := fun e => by rw [e] at h; cases h
  have l1 : 0 < xs.length := List.length_pos_iff.mpr l0
  have e1 : L2.ixN (xs.map eP).length (-1) = some (xs.length - 1) := by
    unfold L2.ixN
    rw [List.length_map]
    simp
    omega
  unfold L2.atI
  rw [e1]
  show (xs.map eP)[xs.length - 1]? = _
  rw [List.getElem?_map, ← List.getLast?_eq_getElem?, h]
  rfl
theorem cutD_any (xs : List D) (r : Nat) : cutD xs none (some (r : Int)) = xs.take r := by
  by_cases h : r ≤ xs.length
  · exact cutD_to h
  · have e : HT.sIx xs.length xs.length (some (r : Int)) = xs.length := by
      have n0 : ¬ ((r : Int) < 0) := by omega
      unfold HT.sIx
      simp only [n0, if_false]
      simp
      omega
    unfold cutD
    rw [e, show HT.sIx xs.length 0 none = 0 from rfl, List.drop_zero, Nat.sub_zero, List.take_length, List.take_of_length_le (by omega)]
theorem nov_sc {s : Sc} {a : Bool} : (scD s).nov a false = true := by
  have e : ∀ k : Kd, (eK k).nov a false = true := fun k => by
    simp only [eK, D.nov, Ds.nov, Bool.true_and, Bool.and_true]
    exact nov_map D.str (fun _ => by simp [D.nov]) _
  have e2 : ∀ k : Str × Sig, (eR k).nov a false = true := fun k => by
    simp only [eR, D.nov, Ds.nov, Bool.true_and, Bool.and_true]
    exact nov_sgD _
  simp only [scD, scFs, D.nov, Df.nov, Bool.not_false, Bool.true_and, Bool.and_true, Bool.and_eq_true, bkD, bkFs]
  exact ⟨⟨nov_map eK e _, nov_map eR e2 _⟩, nov_map eP (fun _ => nov_eP _) _, nov_map eP (fun _ => nov_eP _) _⟩
section
variable {ms : List Int} {Φ : RD → Option Cl → Prop} {R : Rr}
theorem t7_ok {ns : List Int} {ks : List Kd} {nm : List Pr} {rs : List (Str × Sig)} {ps al du to : List Pr} (g : WG ks nm rs ps) (li : LI nm (idx nm.length) al du to) (h : Φ (.im (.bl true)) none) :
    Z_law_7_3 (RR R) (DD Φ) (gLp ms ns (wdD ks nm rs ps) nm al du to .un) := by
  have t := g.g.t
  have k3 := t.k3
  have r4 := t.r4
  have n5 := g.n5
  have i10 := (idx_ok n5).2.2
  obtain ⟨l1, l2, l3⟩ := li.len
  obtain ⟨ea, S, ed, kS, sub⟩ := li.fin n5 g.nd
  obtain ⟨p0, pt, ep⟩ : ∃ p0 pt, nm = p0 :: pt := by
    cases e : nm with
    | nil => have := g.n1; rw [e] at this; cases this
    | cons a b => exact ⟨a, b, rfl⟩
  have a0 : ∀ P : D → Prop, (∃ d, L2.atI (nm.map eP) 0 = some d ∧ P d) = P (eP p0) := fun P => by
    refine ex_some ?_ P
    have := atI_nat (xs := nm.map eP) (i := 0) (by rw [List.length_map]; exact g.n1)
    rw [ep] at this ⊢
    exact this
  obtain ⟨zl, hz⟩ : ∃ zl, nm.getLast? = some zl := by
    rw [ep]
    exact ⟨_, List.getLast?_eq_some_getLast (by simp)⟩
  have al0 : ∀ P : D → Prop, (∃ d, L2.atI (nm.map eP) (-1) = some d ∧ P d) = P (eP zl) := fun P => ex_some (atI_last hz) P
  simp only [e_Z_law_7_3, e_Z_law_7_2, e_Z_law_7, st, rd, gx, rx, ri, dk, dv, kb, ix, ox, bx, frzAt, e_T_law_16, dv, List.length_map]
  refine ⟨rfl, rfl, take_ok (by omega) fun r ns r0 r1 => ?_⟩
  obtain ⟨k, rfl⟩ := Int.eq_ofNat_of_zero_le r0
  have cl : ∀ (xs : List Pr) (n : Nat), n ≤ xs.length → cutD (xs.map eP) none (some (n : Int)) = (xs.take n).map eP := fun xs n hn => by rw [cutD_to (by rw [List.length_map]; exact hn), List.map_take]
  have cr : ∀ (xs : List Pr) (n : Nat), n ≤ xs.length → cutD (xs.map eP) (some (n : Int)) none = (xs.drop n).map eP := fun xs n hn => by rw [cutD_from (by rw [List.length_map]; exact hn), List.map_drop]
  have hk : k ≤ to.length := by omega
  simp only [st, rd, gx, rx, ri, dk, dv, kb, ix, ox, bx, e_T_law_17, dv, cl to k hk, cr to k hk]
  have tl1 := List.length_take_le k to
  have tl2 : (to.drop k).length ≤ to.length := by rw [List.length_drop]; omega
  have e1 : (to.drop k).map eP ++ (to.take k).map eP = (to.drop k ++ to.take k).map eP := by rw [List.map_append]
  rw [e1]
  repeat ((with_reducible apply And.intro); focus (first | (refine small ?_; (try simp only [List.length_append, List.length_map, List.length_cons, List.length_nil, List.length_take, List.length_drop, List.length_range]); omega) | (refine smallLt ?_; (try simp only [List.length_append, List.length_map, List.length_cons, List.length_nil, List.length_take, List.length_drop, List.length_range]); omega) | rfl | (exact Nat.le_of_ble_eq_true rfl)))
  have tw1 : ∀ q, q ∈ twice (to.drop k ++ to.take k) ↔ q ∈ twice du := fun q => (tw_rot q).trans (li.tw q)
  have tl3 : (to.drop k ++ to.take k).length ≤ 20 := by rw [List.length_append]; omega
  generalize to.drop k ++ to.take k = to at *
  simp only [e_T_law_18, st, rd, gx, rx, ri, dk, dv, kb, ix, ox, bx, wx, dx]
  intro a _
  refine ⟨rfl, rfl, take_ok (by decide) fun r ns q0 q3 => ?_⟩
  obtain ⟨j, rfl⟩ := Int.eq_ofNat_of_zero_le q0
  simp only [st, rd, gx, rx, ri, dk, dv, kb, ix, ox, bx, dv, cutD_any]
  have e2 : (to.map eP).take j = (to.take j).map eP := by rw [List.map_take]
  have e3 : to.map eP ++ (to.take j).map eP = (to ++ to.take j).map eP := by rw [List.map_append]
  have tl4 := List.length_take_le j to
  rw [e2, e3]
  repeat ((with_reducible apply And.intro); focus (first | (refine small ?_; (try simp only [List.length_append, List.length_map, List.length_cons, List.length_nil, List.length_take, List.length_drop, List.length_range]); omega) | (refine smallLt ?_; (try simp only [List.length_append, List.length_map, List.length_cons, List.length_nil, List.length_take, List.length_drop, List.length_range]); omega) | rfl | (exact Nat.le_of_ble_eq_true rfl)))
  intro a2 _
  have tw2 : ∀ q, q ∈ twice (to ++ to.take j) ↔ q ∈ twice (told (ord nm) S) := fun q => by rw [tw_dup, tw1, ed]
  have tl5 : (to ++ to.take j).length ≤ 40 := by rw [List.length_append]; omega
  generalize to ++ to.take j = tp at *
  simp only [e_T_law_19, e_C_law_19, st, rd, gx, rx, ri, dk, dv, kb, ix, ox, bx, wdD, at4]
  refine ⟨Nat.le_of_ble_eq_true rfl, rfl, lc_map (f := eRl) eR rs (small (by omega)) (fun r hr K hK => ?_) ?_⟩
  · simp only [st, rd, gx, rx, ri, dk, dv, kb, ix, ox, bx, eRl, at4]
    repeat ((with_reducible apply And.intro); focus (first | (refine small ?_; (try simp only [List.length_append, List.length_map, List.length_cons, List.length_nil, List.length_take, List.length_drop, List.length_range]); omega) | (refine smallLt ?_; (try simp only [List.length_append, List.length_map, List.length_cons, List.length_nil, List.length_take, List.length_drop, List.length_range]); omega) | rfl | (exact Nat.le_of_ble_eq_true rfl)))
    refine init_ok (g.g.sig hr) (.inr rfl) (.inr rfl) (.inr rfl) ⟨rfl, ?_⟩
    rw [g.g.srt hr]
    simp only [st, rd, gx, rx, ri, dk, dv, kb, ix, ox, bx]
    repeat ((with_reducible apply And.intro); focus (first | (refine small ?_; (try simp only [List.length_append, List.length_map, List.length_cons, List.length_nil, List.length_take, List.length_drop, List.length_range]); omega) | (refine smallLt ?_; (try simp only [List.length_append, List.length_map, List.length_cons, List.length_nil, List.length_take, List.length_drop, List.length_range]); omega) | rfl | (exact Nat.le_of_ble_eq_true rfl)))
    exact hK _ (by simp only [gx, eRl])
  simp only [st, rd, gx, rx, ri, dk, dv, kb, ix, ox, bx, e_T_law_20, e_C_law_20, at4]
  refine ⟨rfl, lc_map (f := eKl) eKt ks (small (by omega)) (fun r hr K hK => ?_) ?_⟩
  · simp only [st, rd, gx, rx, ri, dk, dv, kb, ix, ox, bx, eKl, at2, eKt] at hK ⊢
    exact ⟨Nat.le_of_ble_eq_true rfl, hK _ (by simp only [gx])⟩
  simp only [st, rd, gx, rx, ri, dk, dv, kb, ix, ox, bx]
  refine ⟨rfl, bkG_ok (fk := eKt) (fr := eR) t (.inr rfl) (.inr rfl) (fun k _ => ⟨_, .inr rfl, .inl rfl⟩) (fun r _ => .inl rfl) ⟨rfl, ?_⟩⟩
  simp only [st, rd, gx, rx, ri, dk, dv, kb, ix, ox, bx, e_T_law_21, wx]
  refine ⟨_, (.cons (.un _) (.cons (.un _) (.cons (.un _) (.cons (.un _) (.cons (.un _) (.cons (.un _) (.cons (.un _) (.cons (.un _) (.cons (.un _) (.cons (.im (.lst (.cons (.ptr (n := 0) rfl rfl (.refl _)) (.cons (.ptr (n := 1) rfl rfl (.refl _)) .nil)))) (.cons (.un _) (.cons (.im (.refl _)) (.cons (.un _) (.cons (.un _) (.cons (.un _) (.cons (.un _) (.cons (.un _) (.cons (.un _) (.cons (.un _) (.cons (.un _) (.cons (.un _) (.cons (.un _) .nil)))))))))))))))))))))), ?_⟩
  simp only [st, rd, gx, rx, ri, dk, dv, kb, ix, ox, bx, sx, at2, Cl.d]
  refine ⟨rfl, rfl, scW_ok (b := ⟨ks, rs⟩) (S := S) (ap := tp) g kS rfl tw2 (by omega) (.inr rfl) (.inr rfl) ⟨rfl, ?_, ?_⟩⟩
  · exact nov_sc (s := ⟨⟨ks, rs⟩, nm, told (ord nm) S⟩)
  rw [← ed]
  simp only [st, rd, gx, rx, ri, dk, dv, kb, ix, ox, bx, e_T_law_22, wx, at2]
  refine ⟨0, _, rfl, rfl, ?_⟩
  simp only [st, rd, gx, rx, ri, dk, dv, kb, ix, ox, bx, a0, eP, at2]
  repeat ((with_reducible apply And.intro); focus (first | (refine small ?_; (try simp only [List.length_append, List.length_map, List.length_cons, List.length_nil, List.length_take, List.length_drop, List.length_range]); omega) | (refine smallLt ?_; (try simp only [List.length_append, List.length_map, List.length_cons, List.length_nil, List.length_take, List.length_drop, List.length_range]); omega) | rfl | (exact Nat.le_of_ble_eq_true rfl)))
  refine ⟨_, rfl, smallLt (by simp; omega), ?_⟩
  simp only [st, rd, gx, rx, ri, dk, dv, kb, ix, ox, bx, e_T_law_23, wx, at2]
  refine ⟨1, _, rfl, rfl, ?_⟩
  simp only [st, rd, gx, rx, ri, dk, dv, kb, ix, ox, bx, a0, al0, eP, at2, dv]
  repeat ((with_reducible apply And.intro); focus (first | (refine small ?_; (try simp only [List.length_append, List.length_map, List.length_cons, List.length_nil, List.length_take, List.length_drop, List.length_range]); omega) | (refine smallLt ?_; (try simp only [List.length_append, List.length_map, List.length_cons, List.length_nil, List.length_take, List.length_drop, List.length_range]); omega) | rfl | (exact Nat.le_of_ble_eq_true rfl)))
  refine ⟨_, rfl, smallLt (by simp; omega), by decide, by decide, ?_⟩
  exact t24_ok (to := to) ⟨g, ea, ed, kS, sub, tw1, by omega⟩ h
theorem law_ok (h : Φ (.im (.bl true)) none) : S_law [.im (.ro (ms.map .int))] Φ R := by
  refine s_body (Γ := ⟨[.im _, .un, .un, .un, .un, .un, .un, .un, .un, .un, .un, .un, .un, .un, .un, .un, .un, .un, .un, .un, .un, .un], [], []⟩) rfl rfl rfl rfl ?_
  simp only [e_T_law, st, rd, gx, rx, ri, dk, dv, kb, ix, ox, bx]
  refine ⟨rfl, draws_ok fun ns => ?_⟩
  simp only [e_T_law_2, st, rd, gx, rx, ri, dk, dv, kb, ix, ox, bx]
  refine ⟨rfl, rfl, world_ok fun ks nm rs ps ns g => ?_⟩
  simp only [st, rd, gx, rx, ri, dk, dv, kb, ix, ox, bx, e_T_law_3, at4, e_T_law_4, e_T_law_5, e_T_law_6]
  repeat ((with_reducible apply And.intro); focus (first | (refine small ?_; (try simp only [List.length_append, List.length_map, List.length_cons, List.length_nil, List.length_take, List.length_drop, List.length_range]); omega) | (refine smallLt ?_; (try simp only [List.length_append, List.length_map, List.length_cons, List.length_nil, List.length_take, List.length_drop, List.length_range]); omega) | rfl | (exact Nat.le_of_ble_eq_true rfl)))
  exact loop_ok (wd := wdD ks nm rs ps) g.n5 fun ns al du to li => t7_ok g li h
end
end Vl

namespace Vl
open PySem PySem.Spec PyProof.Rows L2

/-! ### the row -/
def top (i : Nat) : Stmt := PySem.Challenge.pw_heldreads_k09_scene_parts.main.body.getD i (.Pass ⟨0, 0, 0, 0⟩)
def inClass (s : Stmt) (j : Nat) : Stmt := match s with
  | .ClassDef _ _ _ body _ _ _ _ _ _ _ => body.getD j (.Pass ⟨0, 0, 0, 0⟩)
  | _ => .Pass ⟨0, 0, 0, 0⟩
abbrev s_law_draws : Stmt := top 26
abbrev s_law_take : Stmt := top 27
abbrev s_law_book : Stmt := top 28
abbrev s_law_world : Stmt := top 29
abbrev s_Scene_kind_of : Stmt := inClass (top 16) 3
abbrev s_Book_fields_of : Stmt := inClass (top 24) 6
abbrev s_Scene_fields_of : Stmt := inClass (top 16) 4
abbrev s_Scene_rank : Stmt := inClass (top 16) 5
abbrev s_law_refused : Stmt := top 30
abbrev s_is_word : Stmt := top 12
abbrev s_are_words : Stmt := top 13
abbrev s_is_sort : Stmt := top 18
abbrev s_SignatureX_initX : Stmt := inClass (top 19) 1
abbrev s_are_distinct_words : Stmt := top 14
abbrev s_Book_sorts : Stmt := inClass (top 24) 5
abbrev s_Book_has_room_for : Stmt := inClass (top 24) 4
abbrev s_BookX_initX : Stmt := inClass (top 24) 3
abbrev s_SceneX_initX : Stmt := inClass (top 16) 1
abbrev s_Scene_order : Stmt := inClass (top 16) 2
abbrev s_written_routine : Stmt := top 23
abbrev s_Book_written : Stmt := inClass (top 24) 9
abbrev s_Scene_with_apart : Stmt := inClass (top 16) 7
abbrev s_Scene_with_book : Stmt := inClass (top 16) 6
abbrev s_law : Stmt := top 31
abbrev s_SignatureX_iterX : Stmt := inClass (top 19) 9
structure Facts (K : PySem.W.Frag) (mg : Str → Option Value) : Prop where
  z_len : mg "len" = none
  z_min : mg "min" = none
  z_range : mg "range" = none
  z_int : mg "int" = none
  z_abs : mg "abs" = none
  g_law_take : mg "_law_take" = some (.ref (He.ga K "_law_take"))
  z_sorted : mg "sorted" = none
  g_law_book : mg "_law_book" = some (.ref (He.ga K "_law_book"))
  z_max : mg "max" = none
  z_set : mg "set" = none
  g_BadScene : mg "BadScene" = some (.ref (He.ga K "BadScene"))
  tab_BadScene : ExTab K exL exSub "BadScene" (.ref (He.ga K "BadScene"))
  fld_names : FldOk K ["Scene"] "names"
  ex_BadScene : ExCl K mg "BadScene"
  fld_kinds : FldOk K ["Book"] "kinds"
  g_BadBook : mg "BadBook" = some (.ref (He.ga K "BadBook"))
  ex_BadBook : ExCl K mg "BadBook"
  fld_book : FldOk K ["Scene"] "book"
  z_enumerate : mg "enumerate" = none
  exc : ∀ c ∈ exL, ExcC K (He.ga K c)
  kit_HeldError : ∀ c ∈ exL, PySem.W.kitOne K (.ref (He.ga K c)) (.ref (He.ga K "HeldError")) = some (exSub c "HeldError")
  z_isinstance : mg "isinstance" = none
  g_HeldError : mg "HeldError" = some (.ref (He.ga K "HeldError"))
  kitT_ValueError : ∀ c ∈ exL, PySem.W.kitOne K (.ref (He.ga K c)) (.type "ValueError") = some true
  z_ValueError : mg "ValueError" = none
  kit_BadBook : ∀ c ∈ exL, PySem.W.kitOne K (.ref (He.ga K c)) (.ref (He.ga K "BadBook")) = some (exSub c "BadBook")
  g_law_draws : mg "_law_draws" = some (.ref (He.ga K "_law_draws"))
  g_law_world : mg "_law_world" = some (.ref (He.ga K "_law_world"))
  z_list : mg "list" = none
  z_str : mg "str" = none
  c_MOST_SIGNS : ∃ t, mg "MOST_SIGNS" = some (.int 8 t)
  c_LETTERS : ∃ t, mg "LETTERS" = some (.str "abcdefghijklmnopqrstuvwxyz" t)
  c_SIGNS : ∃ t, mg "SIGNS" = some (.str "abcdefghijklmnopqrstuvwxyz0123456789" t)
  g_is_word : mg "is_word" = some (.ref (He.ga K "is_word"))
  z_tuple : mg "tuple" = none
  g_are_words : mg "are_words" = some (.ref (He.ga K "are_words"))
  cc_Signature_MOST_TAKES : ∃ mc u, ClX.CRead K (He.ga K "Signature") mc ∧ ClX.CVal K (He.ga K "Signature") mc "MOST_TAKES" (.int 3) u
  g_Signature : mg "Signature" = some (.ref (He.ga K "Signature"))
  g_BadSignature : mg "BadSignature" = some (.ref (He.ga K "BadSignature"))
  ex_BadSignature : ExCl K mg "BadSignature"
  g_is_sort : mg "is_sort" = some (.ref (He.ga K "is_sort"))
  fld_takes : FldOk K ["Signature"] "takes"
  fld_shares : FldOk K ["Signature"] "shares"
  fld_writes : FldOk K ["Signature"] "writes"
  fld_routines : FldOk K ["Book"] "routines"
  cc_Book_MOST_KINDS : ∃ mc u, ClX.CRead K (He.ga K "Book") mc ∧ ClX.CVal K (He.ga K "Book") mc "MOST_KINDS" (.int 3) u
  g_Book : mg "Book" = some (.ref (He.ga K "Book"))
  g_are_distinct_words : mg "are_distinct_words" = some (.ref (He.ga K "are_distinct_words"))
  cc_Book_MOST_FIELDS : ∃ mc u, ClX.CRead K (He.ga K "Book") mc ∧ ClX.CVal K (He.ga K "Book") mc "MOST_FIELDS" (.int 3) u
  cc_Book_MOST_ROUTINES : ∃ mc u, ClX.CRead K (He.ga K "Book") mc ∧ ClX.CVal K (He.ga K "Book") mc "MOST_ROUTINES" (.int 4) u
  z_iter : mg "iter" = none
  me_SignatureX_iterX : Cls K (He.ga K "Signature") ∧ Meth K (He.ga K "Signature") "__iter__" (He.ma K (He.ga K "Signature") "__iter__")
  cc_Scene_MOST_NAMES : ∃ mc u, ClX.CRead K (He.ga K "Scene") mc ∧ ClX.CVal K (He.ga K "Scene") mc "MOST_NAMES" (.int 5) u
  g_Scene : mg "Scene" = some (.ref (He.ga K "Scene"))
  fld_apart : FldOk K ["Scene"] "apart"
  g_written_routine : mg "written_routine" = some (.ref (He.ga K "written_routine"))
  z_dict : mg "dict" = none
  z_bool : mg "bool" = none
  g_law_refused : mg "_law_refused" = some (.ref (He.ga K "_law_refused"))
  me_Scene_kind_of : Cls K (He.ga K "Scene") ∧ Meth K (He.ga K "Scene") "kind_of" (He.ma K (He.ga K "Scene") "kind_of")
  me_Book_fields_of : Cls K (He.ga K "Book") ∧ Meth K (He.ga K "Book") "fields_of" (He.ma K (He.ga K "Book") "fields_of")
  me_Scene_fields_of : Cls K (He.ga K "Scene") ∧ Meth K (He.ga K "Scene") "fields_of" (He.ma K (He.ga K "Scene") "fields_of")
  me_Scene_rank : Cls K (He.ga K "Scene") ∧ Meth K (He.ga K "Scene") "rank" (He.ma K (He.ga K "Scene") "rank")
  mk_Signature : Mk K (He.ga K "Signature") (He.ma K (He.ga K "Signature") "__init__")
  pr_Book_sorts : Cls K (He.ga K "Book") ∧ PropOf K (He.ga K "Book") "sorts" (He.ma K (He.ga K "Book") "sorts") (recA "property" "Book" "sorts" K)
  me_Book_has_room_for : Cls K (He.ga K "Book") ∧ Meth K (He.ga K "Book") "has_room_for" (He.ma K (He.ga K "Book") "has_room_for")
  mk_Book : Mk K (He.ga K "Book") (He.ma K (He.ga K "Book") "__init__")
  mk_Scene : Mk K (He.ga K "Scene") (He.ma K (He.ga K "Scene") "__init__")
  pr_Scene_order : Cls K (He.ga K "Scene") ∧ PropOf K (He.ga K "Scene") "order" (He.ma K (He.ga K "Scene") "order") (recA "property" "Scene" "order" K)
  me_Book_written : Cls K (He.ga K "Book") ∧ Meth K (He.ga K "Book") "written" (He.ma K (He.ga K "Book") "written")
  me_Scene_with_apart : Cls K (He.ga K "Scene") ∧ Meth K (He.ga K "Scene") "with_apart" (He.ma K (He.ga K "Scene") "with_apart")
  me_Scene_with_book : Cls K (He.ga K "Scene") ∧ Meth K (He.ga K "Scene") "with_book" (He.ma K (He.ga K "Scene") "with_book")
  etk_SceneX_initX_apart : etB (kwdAt ("Scene", some "__init__") "apart") K = true
  et_BookX_initX_0 : etB (He.dflAt ("Book", some "__init__") 0) K = true
  f_law_draws : DefAt K "_law_draws" "_law_draws" s_law_draws (He.ga K "_law_draws")
  f_law_take : DefAt K "_law_take" "_law_take" s_law_take (He.ga K "_law_take")
  f_law_book : DefAt K "_law_book" "_law_book" s_law_book (He.ga K "_law_book")
  f_law_world : DefAt K "_law_world" "_law_world" s_law_world (He.ga K "_law_world")
  f_Scene_kind_of : DefAt K "kind_of" "Scene.kind_of" s_Scene_kind_of (He.ma K (He.ga K "Scene") "kind_of")
  f_Book_fields_of : DefAt K "fields_of" "Book.fields_of" s_Book_fields_of (He.ma K (He.ga K "Book") "fields_of")
  f_Scene_fields_of : DefAt K "fields_of" "Scene.fields_of" s_Scene_fields_of (He.ma K (He.ga K "Scene") "fields_of")
  f_Scene_rank : DefAt K "rank" "Scene.rank" s_Scene_rank (He.ma K (He.ga K "Scene") "rank")
  f_law_refused : DefAt K "_law_refused" "_law_refused" s_law_refused (He.ga K "_law_refused")
  f_is_word : DefAt K "is_word" "is_word" s_is_word (He.ga K "is_word")
  f_are_words : DefAt K "are_words" "are_words" s_are_words (He.ga K "are_words")
  f_is_sort : DefAt K "is_sort" "is_sort" s_is_sort (He.ga K "is_sort")
  f_SignatureX_initX : DefAt K "__init__" "Signature.__init__" s_SignatureX_initX (He.ma K (He.ga K "Signature") "__init__")
  f_are_distinct_words : DefAt K "are_distinct_words" "are_distinct_words" s_are_distinct_words (He.ga K "are_distinct_words")
  f_Book_sorts : DefAt K "sorts" "Book.sorts" s_Book_sorts (recA "property" "Book" "sorts" K)
  f_Book_has_room_for : DefAt K "has_room_for" "Book.has_room_for" s_Book_has_room_for (He.ma K (He.ga K "Book") "has_room_for")
  f_BookX_initX : DefAtD K "__init__" "Book.__init__" s_BookX_initX [V.ref (He.dflAt ("Book", some "__init__") 0 K)] (He.ma K (He.ga K "Book") "__init__")
  f_SceneX_initX : DefAtK K "__init__" "Scene.__init__" s_SceneX_initX [("apart", V.ref (kwdAt ("Scene", some "__init__") "apart" K))] (He.ma K (He.ga K "Scene") "__init__")
  f_Scene_order : DefAt K "order" "Scene.order" s_Scene_order (recA "property" "Scene" "order" K)
  f_written_routine : DefAt K "written_routine" "written_routine" s_written_routine (He.ga K "written_routine")
  f_Book_written : DefAt K "written" "Book.written" s_Book_written (He.ma K (He.ga K "Book") "written")
  f_Scene_with_apart : DefAt K "with_apart" "Scene.with_apart" s_Scene_with_apart (He.ma K (He.ga K "Scene") "with_apart")
  f_Scene_with_book : DefAt K "with_book" "Scene.with_book" s_Scene_with_book (He.ma K (He.ga K "Scene") "with_book")
  f_SignatureX_iterX : DefAt K "__iter__" "Signature.__iter__" s_SignatureX_iterX (He.ma K (He.ga K "Signature") "__iter__")
section
variable {P : Program} {w : World} {K : PySem.W.Frag} {mg : Str → Option Value} {base : Heap}
theorem it_writes (T : Facts K mg) {j : Nat} (hj : 1 ≤ j) : ItOf P w K mg j ["Signature"] "writes" := by
  intro c hc
  have i_SignatureX_iterX := methIter (P := P) (w := w) (j := j) T.f_SignatureX_iterX (⟨rfl, rfl, rfl, by decide +kernel, rfl, by decide +kernel, by decide +kernel⟩ : FnScope ["self"] ["self"] (defScope s_SignatureX_iterX)) T.me_SignatureX_iterX.2 hj (fun _ _ _ _ _ _ us hl => match us, hl with | [_], _ => rfl)
    fun base f cdv A outer s H E => pss_one (ps_ret (pe_callB call_iterT (by rfl) T.z_iter boot_iter (pa_cons (pe_fld (pe_var (i := 0) rfl (.inl rfl)) rfl) pa_nil)))
  simp only [List.mem_cons, List.not_mem_nil, or_false] at hc
  subst hc
  exact ⟨T.me_SignatureX_iterX.1, (T.fld_writes "Signature" (by decide)).2, i_SignatureX_iterX⟩
theorem sc_law_draws : FnScope ["_law_script", "_law_draws_here", "_law_place", "_law_cell", "_law_turn"] ["_law_script"] (defScope s_law_draws) := ⟨rfl, rfl, rfl, by decide +kernel, rfl, by decide +kernel, by decide +kernel⟩
theorem ok_law_draws (T : Facts K mg) : Callee P w K mg base 1 (He.ga K "_law_draws") ["_law_script"] S_law_draws := by
  have sc := sc_law_draws
  refine Callee.of none T.f_law_draws sc (by decide) (fun _ _ _ _ _ _ us hl => match us, hl with | [_], _ => rfl) fun _ cdv A outer s H E hr => ?_
  exact (pfss_cons (pfs_setO 1 (nbT (by decide)) sc.nd (po_lst pfa_nil))
    (pfss_cons (pfs_for [2, 3, 4] (by decide) (passes_of rfl) rfl (pfi_range1 T.z_range (pf_min2 rfl T.z_min (pfa_cons (pf_len T.z_len (pfa_cons (pf_var 0) pfa_nil)) (pfa_cons pf_int pfa_nil)))) (pfg_name 2 (nbT (by decide)) sc.nd)
      (pfss_cons (pfs_set 3 (nbT (by decide)) sc.nd (pf_abs T.z_abs (pfa_cons (pf_callInt T.z_int (pfa_cons (pf_ix (pf_var 0) (pf_var 2)) pfa_nil)) pfa_nil)))
    (pfss_cons (pfs_if (pft_lt (pf_var 3) (pf_pow pf_int pf_int))
      (pfss_cons (pfs_set 3 (nbT (by decide)) sc.nd (pf_mod (pf_callInt T.z_int (pfa_cons (pf_mulA (pf_add (pf_mulA pf_int (pf_var 3)) (pf_callInt T.z_int (pfa_cons (pf_lt (pf_ix (pf_var 0) (pf_var 2)) pf_int) pfa_nil))) (pf_add pf_int (pf_mulA pf_int (pf_var 2)))) pfa_nil)) pf_int))
    (pfss_one (pfs_set 3 (nbT (by decide)) sc.nd (pf_mod (pf_callInt T.z_int (pfa_cons (pf_mulA (pf_var 3) (pf_add (pf_var 3) pf_int)) pfa_nil)) pf_int))))
      pfss_nil)
    (pfss_one (pfs_for [4] (by decide) (passes_of rfl) rfl (pfi_range1 T.z_range pf_int) (pfg_name 4 (nbT (by decide)) sc.nd)
      (pfss_one (pfs_if (pft_w (pfw_or (pft_gt (pf_var 3) pf_int) (pfw_or1 (pft_eq hr (pf_var 4) pf_int))))
      (pfss_cons (pfs_expr (pf_append 1 (pf_mod (pf_callInt T.z_int (pfa_cons (pf_var 3) pfa_nil)) pf_int)))
    (pfss_one (pfs_set 3 (nbT (by decide)) sc.nd (pf_fdiv (pf_var 3) pf_int))))
      pfss_nil)))))))
    (pfss_one (pfs_retV 1 (nbT (by decide))))))
theorem sc_law_take : FnScope ["_law_draws_here", "_law_many"] ["_law_draws_here", "_law_many"] (defScope s_law_take) := ⟨rfl, rfl, rfl, by decide +kernel, rfl, by decide +kernel, by decide +kernel⟩
theorem ok_law_take (T : Facts K mg) : Callee P w K mg base 1 (He.ga K "_law_take") ["_law_draws_here", "_law_many"] S_law_take := by
  have sc := sc_law_take
  refine Callee.of (some 0) T.f_law_take sc (by decide) (fun _ _ _ _ _ _ us hl => match us, hl with | [_, _], _ => rfl) fun _ cdv A outer s H E hr => ?_
  exact (pfss_cons (pfs_if (pft_eq hr (pf_lenO 0 T.z_len) pf_int)
      (pfss_one (pfs_ret pf_int))
      pfss_nil)
    (pfss_one (pfs_ret (pf_mod (pf_callInt T.z_int (pfa_cons (pf_popAt 0 pf_int) pfa_nil)) (pf_var 1)))))
theorem sc_law_book : FnScope ["_law_draws_here", "_law_words", "_law_fields", "_law_first", "_law_kinds", "_law_sorts", "_law_k", "_law_routines", "_law_start", "_law_own", "_law_takes", "_law_shares", "_law_bits", "_law_writes", "_law_j", "_law_kind", "_law_field"] ["_law_draws_here"] (defScope s_law_book) := ⟨rfl, rfl, rfl, by decide +kernel, rfl, by decide +kernel, by decide +kernel⟩
theorem ok_law_book (T : Facts K mg) : Callee P w K mg base 2 (He.ga K "_law_book") ["_law_draws_here"] S_law_book := by
  have sc := sc_law_book
  have C_law_take := ok_law_take (P := P) (w := w) (base := base) T
  refine Callee.of (some 0) T.f_law_book sc (by decide) (fun _ _ _ _ _ _ us hl => match us, hl with | [_], _ => rfl) fun _ cdv A outer s H E hr => ?_
  exact (pfss_cons (pfs_set 1 (nbT (by decide)) sc.nd (pf_fz (po_lst (pfa_cons pf_str (pfa_cons pf_str (pfa_cons pf_str (pfa_cons pf_str (pfa_cons pf_str pfa_nil))))))))
    (pfss_cons (pfs_set 2 (nbT (by decide)) sc.nd (pf_fz (po_lst (pfa_cons pf_str (pfa_cons pf_str (pfa_cons pf_str (pfa_cons pf_str (pfa_cons pf_str pfa_nil))))))))
    (pfss_cons (pfs_set 3 (nbT (by decide)) sc.nd (pf_callBC 0 C_law_take tkS_ok hr (by decide) T.g_law_take (pfb_sl 0 (pfb_im pf_int pfb_nil))))
    (pfss_cons (pfs_setO 4 (nbT (by decide)) sc.nd (po_lst pfa_nil))
    (pfss_cons (pfs_set 5 (nbT (by decide)) sc.nd (pf_fz (po_lst pfa_nil)))
    (pfss_cons (pfs_for [6, 8, 9] (by decide) (passes_of rfl) rfl (pfi_range1 T.z_range (pf_ix (pf_fz (po_lst (pfa_cons pf_int (pfa_cons pf_int (pfa_cons pf_int (pfa_cons pf_int pfa_nil)))))) (pf_callBC 0 C_law_take tkS_ok hr (by decide) T.g_law_take (pfb_sl 0 (pfb_im pf_int pfb_nil))))) (pfg_name 6 (nbT (by decide)) sc.nd)
      (pfss_cons (pfs_set 8 (nbT (by decide)) sc.nd (pf_callBC 0 C_law_take tkS_ok hr (by decide) T.g_law_take (pfb_sl 0 (pfb_im pf_int pfb_nil))))
    (pfss_cons (pfs_setLcF 9 [("_law_j", 14)] (nbT (by decide)) rfl sc.nd tkBs_S (by decide) (pfi_range1 T.z_range (pf_add pf_int (pf_callBC 0 C_law_take tkS_ok hr (by decide) T.g_law_take (pfb_sl 0 (pfb_im pf_int pfb_nil))))) (blkOk_by (by kernel_rfl)) (fun _ _ _ _ _ => (pgv_name 14 (by decide) (nbB (bs := some 0) (by decide)) sc.nd)) (fun _ _ _ _ _ => pfts_nil) (fun _ _ _ _ _ => (pf_ix (pf_var 2) (pf_mod (pf_callInt T.z_int (pfa_cons (pf_add (pf_var 8) (pf_mulA pf_int (pf_var 14))) pfa_nil)) pf_int))))
    (pfss_cons (pfs_expr (pf_append 4 (pf_fz (po_lst (pfa_cons (pf_ix (pf_var 1) (pf_mod (pf_callInt T.z_int (pfa_cons (pf_add (pf_var 3) (pf_mulA pf_int (pf_var 6))) pfa_nil)) pf_int)) (pfa_cons (pf_var 9) pfa_nil))))))
    (pfss_one (pfs_set 5 (nbT (by decide)) sc.nd (pf_fz (po_sortL hr T.z_sorted (pf_add (pf_var 5) (pf_fz (po_lc [("_law_field", 16)]  rfl sc.nd tkBs_S (by decide) (pfi_any (pf_var 9)) (blkOk_by (by kernel_rfl)) (fun _ _ _ _ _ => (pgv_name 16 (by decide) (nbB (bs := some 0) (by decide)) sc.nd)) (fun _ _ _ _ _ => pfts_nil) (fun _ _ _ _ _ => (pf_tup (pfa_cons (pf_ix (pf_ixO 4 (pf_var 6)) pf_int) (pfa_cons (pf_var 16) pfa_nil)))))))))))))))
    (pfss_frz 4 (nbT (by decide)) (pfss_cons (pfs_setO 7 (nbT (by decide)) sc.nd (po_lst pfa_nil))
    (pfss_cons (pfs_for [6, 10, 11, 12, 13] (by decide) (passes_of rfl) rfl (pfi_range1 T.z_range (pf_ix (pf_fz (po_lst (pfa_cons pf_int (pfa_cons pf_int (pfa_cons pf_int (pfa_cons pf_int (pfa_cons pf_int pfa_nil))))))) (pf_callBC 0 C_law_take tkS_ok hr (by decide) T.g_law_take (pfb_sl 0 (pfb_im pf_int pfb_nil))))) (pfg_name 6 (nbT (by decide)) sc.nd)
      (pfss_cons (pfs_setLcF 10 [("_law_j", 14)] (nbT (by decide)) rfl sc.nd tkBs_S (by decide) (pfi_range1 T.z_range (pf_callBC 0 C_law_take tkS_ok hr (by decide) T.g_law_take (pfb_sl 0 (pfb_im pf_int pfb_nil)))) (blkOk_by (by kernel_rfl)) (fun _ _ _ _ _ => (pgv_name 14 (by decide) (nbB (bs := some 0) (by decide)) sc.nd)) (fun _ _ _ _ _ => pfts_nil) (fun _ _ _ _ _ => (pf_ix (pf_ix (pf_var 4) (pf_callBC 0 C_law_take tkB_ok hr (by decide) T.g_law_take (pfb_sl 0 (pfb_im (pf_len T.z_len (pfa_cons (pf_var 4) pfa_nil)) pfb_nil)))) pf_int)))
    (pfss_cons (pfs_setLcF 11 [("_law_kind", 15)] (nbT (by decide)) rfl sc.nd tkBs_S (by decide) (pfi_any (pf_var 10)) (blkOk_by (by kernel_rfl)) (fun _ _ _ _ _ => (pgv_name 15 (by decide) (nbB (bs := some 0) (by decide)) sc.nd)) (fun _ _ _ _ _ => pfts_nil) (fun _ _ _ _ _ => (pf_eq hr (pf_callBC 0 C_law_take tkB_ok hr (by decide) T.g_law_take (pfb_sl 0 (pfb_im pf_int pfb_nil))) pf_int)))
    (pfss_cons (pfs_set 12 (nbT (by decide)) sc.nd (pf_callBC 0 C_law_take tkS_ok hr (by decide) T.g_law_take (pfb_sl 0 (pfb_im pf_int pfb_nil))))
    (pfss_cons (pfs_setLcF 13 [("_law_j", 14)] (nbT (by decide)) rfl sc.nd tkBs_S (by decide) (pfi_range1 T.z_range (pf_len T.z_len (pfa_cons (pf_var 5) pfa_nil))) (blkOk_by (by kernel_rfl)) (fun _ _ _ _ _ => (pgv_name 14 (by decide) (nbB (bs := some 0) (by decide)) sc.nd)) (fun _ _ _ _ _ => (pfts_one (pft_eq hr (pf_mod (pf_callInt T.z_int (pfa_cons (pf_shr (pf_var 12) (pf_var 14)) pfa_nil)) pf_int) pf_int))) (fun _ _ _ _ _ => (pf_ix (pf_var 5) (pf_var 14))))
    (pfss_one (pfs_expr (pf_append 7 (pf_fz (po_lst (pfa_cons (pf_ix (pf_fz (po_lst (pfa_cons pf_str (pfa_cons pf_str (pfa_cons pf_str (pfa_cons pf_str (pfa_cons pf_str pfa_nil))))))) (pf_mod (pf_callInt T.z_int (pfa_cons (pf_add (pf_var 3) (pf_mulA pf_int (pf_var 6))) pfa_nil)) pf_int)) (pfa_cons (pf_var 10) (pfa_cons (pf_var 11) (pfa_cons (pf_var 13) pfa_nil))))))))))))))
    (pfss_frz 7 (nbT (by decide)) (pfss_one (pfs_retO (po_lst (pfa_cons (pf_var 4) (pfa_cons (pf_var 7) pfa_nil)))))))))))))))
theorem sc_law_world : FnScope ["_law_draws_here", "_law_words", "_law_first", "_law_step", "_law_names", "_law_k", "_law_marks", "_law_pairs", "_law_kinds", "_law_routines", "_law_one", "_law_other"] ["_law_draws_here"] (defScope s_law_world) := ⟨rfl, rfl, rfl, by decide +kernel, rfl, by decide +kernel, by decide +kernel⟩
theorem ok_law_world (T : Facts K mg) : Callee P w K mg base 3 (He.ga K "_law_world") ["_law_draws_here"] S_law_world := by
  have sc := sc_law_world
  have C_law_book := ok_law_book (P := P) (w := w) (base := base) T
  have C_law_take := ok_law_take (P := P) (w := w) (base := base) T
  refine Callee.of (some 0) T.f_law_world sc (by decide) (fun _ _ _ _ _ _ us hl => match us, hl with | [_], _ => rfl) fun _ cdv A outer s H E hr => ?_
  exact (pfss_cons (pfs_asg (pf_callBC 0 C_law_book tkS_ok hr (by decide) T.g_law_book (pfb_sl 0 pfb_nil)) (pfg_tup rfl (pfgs_cons (pfg_name 8 (nbT (by decide)) sc.nd) (pfgs_cons (pfg_name 9 (nbT (by decide)) sc.nd) pfgs_nil))))
    (pfss_cons (pfs_set 1 (nbT (by decide)) sc.nd (pf_fz (po_lst (pfa_cons pf_str (pfa_cons pf_str (pfa_cons pf_str (pfa_cons pf_str (pfa_cons pf_str (pfa_cons pf_str (pfa_cons pf_str pfa_nil))))))))))
    (pfss_cons (pfs_set 2 (nbT (by decide)) sc.nd (pf_callBC 0 C_law_take tkS_ok hr (by decide) T.g_law_take (pfb_sl 0 (pfb_im pf_int pfb_nil))))
    (pfss_cons (pfs_set 3 (nbT (by decide)) sc.nd (pf_add pf_int (pf_callBC 0 C_law_take tkS_ok hr (by decide) T.g_law_take (pfb_sl 0 (pfb_im pf_int pfb_nil)))))
    (pfss_cons (pfs_setO 4 (nbT (by decide)) sc.nd (po_lst pfa_nil))
    (pfss_cons (pfs_for [5] (by decide) (passes_of rfl) rfl (pfi_range1 T.z_range (pf_ix (pf_fz (po_lst (pfa_cons pf_int (pfa_cons pf_int (pfa_cons pf_int (pfa_cons pf_int (pfa_cons pf_int pfa_nil))))))) (pf_callBC 0 C_law_take tkS_ok hr (by decide) T.g_law_take (pfb_sl 0 (pfb_im pf_int pfb_nil))))) (pfg_name 5 (nbT (by decide)) sc.nd)
      (pfss_one (pfs_expr (pf_append 4 (pf_tup (pfa_cons (pf_ix (pf_var 1) (pf_mod (pf_callInt T.z_int (pfa_cons (pf_add (pf_var 2) (pf_mulA (pf_var 3) (pf_var 5))) pfa_nil)) pf_int)) (pfa_cons (pf_ix (pf_ix (pf_var 8) (pf_callBC 0 C_law_take tkS_ok hr (by decide) T.g_law_take (pfb_sl 0 (pfb_im (pf_len T.z_len (pfa_cons (pf_var 8) pfa_nil)) pfb_nil)))) pf_int) pfa_nil)))))))
    (pfss_frz 4 (nbT (by decide)) (pfss_cons (pfs_setO 6 (nbT (by decide)) sc.nd (po_lst pfa_nil))
    (pfss_cons (pfs_for [5, 10, 11] (by decide) (passes_of rfl) rfl (pfi_range1 T.z_range (pf_callBC 0 C_law_take tkS_ok hr (by decide) T.g_law_take (pfb_sl 0 (pfb_im pf_int pfb_nil)))) (pfg_name 5 (nbT (by decide)) sc.nd)
      (pfss_cons (pfs_set 10 (nbT (by decide)) sc.nd (pf_callBC 0 C_law_take tkS_ok hr (by decide) T.g_law_take (pfb_sl 0 (pfb_im (pf_len T.z_len (pfa_cons (pf_var 4) pfa_nil)) pfb_nil))))
    (pfss_cons (pfs_set 11 (nbT (by decide)) sc.nd (pf_callBC 0 C_law_take tkS_ok hr (by decide) T.g_law_take (pfb_sl 0 (pfb_im (pf_len T.z_len (pfa_cons (pf_var 4) pfa_nil)) pfb_nil))))
    (pfss_one (pfs_if (pft_w (pfw_and (pft_ne hr (pf_var 10) (pf_var 11)) (pfw_and1 (pft_eq hr (pf_ix (pf_ix (pf_var 4) (pf_var 10)) pf_int) (pf_ix (pf_ix (pf_var 4) (pf_var 11)) pf_int)))))
      (pfss_one (pfs_expr (pf_append 6 (pf_tup (pfa_cons (pf_min2 rfl T.z_min (pfa_cons (pf_var 10) (pfa_cons (pf_var 11) pfa_nil))) (pfa_cons (pf_max2 rfl T.z_max (pfa_cons (pf_var 10) (pfa_cons (pf_var 11) pfa_nil))) pfa_nil))))))
      pfss_nil)))))
    (pfss_frz 6 (nbT (by decide)) (pfss_cons (pfs_setLcF 7 [("_law_one", 10), ("_law_other", 11)] (nbT (by decide)) rfl sc.nd tkBs_S (by decide) (pfi_any (pf_fz (po_sortSetL hr rfl T.z_sorted T.z_set (pf_var 6)))) (blkOk_by (by kernel_rfl)) (fun _ _ _ _ _ => (pgv_tup rfl (pgvs_cons (pgv_name 10 (by decide) (nbB (bs := some 0) (by decide)) sc.nd) (pgvs_cons (pgv_name 11 (by decide) (nbB (bs := some 0) (by decide)) sc.nd) pgvs_nil)))) (fun _ _ _ _ _ => pfts_nil) (fun _ _ _ _ _ => (pf_tup (pfa_cons (pf_ix (pf_ix (pf_var 4) (pf_var 10)) pf_int) (pfa_cons (pf_ix (pf_ix (pf_var 4) (pf_var 11)) pf_int) pfa_nil)))))
    (pfss_one (pfs_retO (po_lst (pfa_cons (pf_var 8) (pfa_cons (pf_var 4) (pfa_cons (pf_var 9) (pfa_cons (pf_var 7) pfa_nil))))))))))))))))))
theorem sc_Scene_kind_of : FnScope ["self", "name", "one", "kind"] ["self", "name"] (defScope s_Scene_kind_of) := ⟨rfl, rfl, rfl, by decide +kernel, rfl, by decide +kernel, by decide +kernel⟩
theorem ok_Scene_kind_of (T : Facts K mg) : Callee P w K mg base 1 (He.ma K (He.ga K "Scene") "kind_of") ["self", "name"] S_Scene_kind_of := by
  have sc := sc_Scene_kind_of
  refine Callee.of none T.f_Scene_kind_of sc (by decide) (fun _ _ _ _ _ _ us hl => match us, hl with | [_, _], _ => rfl) fun _ cdv A outer s H E hr => ?_
  exact (pfss_cons (pfs_for [2, 3] (by decide) (passes_of rfl) rfl (pfi_any (pf_fld T.fld_names (pf_var 0))) (pfg_tup rfl (pfgs_cons (pfg_name 2 (nbT (by decide)) sc.nd) (pfgs_cons (pfg_name 3 (nbT (by decide)) sc.nd) pfgs_nil)))
      (pfss_one (pfs_if (pft_eq hr (pf_var 2) (pf_var 1))
      (pfss_one (pfs_ret (pf_var 3)))
      pfss_nil)))
    (pfss_one (pfs_raise rfl tkS_ok T.ex_BadScene)))
theorem mv_kind_of (T : Facts K mg) {j : Nat} (hj : 1 ≤ j) : ∀ c s, M_kind_of c = some s → MethV P w K mg base j c "kind_of" 2 s := by
  intro c s h
  unfold M_kind_of at h
  split at h
  · rename_i e; subst e; cases h
    obtain ⟨fd, F, hb⟩ := (ok_Scene_kind_of (P := P) (w := w) (base := base) T).ex
    exact ⟨T.me_Scene_kind_of.1, _, _, fd, _, Nat.le_trans (by decide) hj, T.me_Scene_kind_of.2, F, hb⟩
  · cases h
theorem sc_Book_fields_of : FnScope ["self", "kind", "name", "fields"] ["self", "kind"] (defScope s_Book_fields_of) := ⟨rfl, rfl, rfl, by decide +kernel, rfl, by decide +kernel, by decide +kernel⟩
theorem ok_Book_fields_of (T : Facts K mg) : Callee P w K mg base 1 (He.ma K (He.ga K "Book") "fields_of") ["self", "kind"] S_Book_fields_of := by
  have sc := sc_Book_fields_of
  refine Callee.of none T.f_Book_fields_of sc (by decide) (fun _ _ _ _ _ _ us hl => match us, hl with | [_, _], _ => rfl) fun _ cdv A outer s H E hr => ?_
  exact (pfss_cons (pfs_for [2, 3] (by decide) (passes_of rfl) rfl (pfi_any (pf_fld T.fld_kinds (pf_var 0))) (pfg_tup rfl (pfgs_cons (pfg_name 2 (nbT (by decide)) sc.nd) (pfgs_cons (pfg_name 3 (nbT (by decide)) sc.nd) pfgs_nil)))
      (pfss_one (pfs_if (pft_eq hr (pf_var 2) (pf_var 1))
      (pfss_one (pfs_ret (pf_var 3)))
      pfss_nil)))
    (pfss_one (pfs_raise rfl tkS_ok T.ex_BadBook)))
theorem mv_fields_ofXBook (T : Facts K mg) {j : Nat} (hj : 1 ≤ j) : ∀ c s, M_fields_ofXBook c = some s → MethV P w K mg base j c "fields_of" 2 s := by
  intro c s h
  unfold M_fields_ofXBook at h
  split at h
  · rename_i e; subst e; cases h
    obtain ⟨fd, F, hb⟩ := (ok_Book_fields_of (P := P) (w := w) (base := base) T).ex
    exact ⟨T.me_Book_fields_of.1, _, _, fd, _, Nat.le_trans (by decide) hj, T.me_Book_fields_of.2, F, hb⟩
  · cases h
theorem sc_Scene_fields_of : FnScope ["self", "name"] ["self", "name"] (defScope s_Scene_fields_of) := ⟨rfl, rfl, rfl, by decide +kernel, rfl, by decide +kernel, by decide +kernel⟩
theorem ok_Scene_fields_of (T : Facts K mg) : Callee P w K mg base 2 (He.ma K (He.ga K "Scene") "fields_of") ["self", "name"] S_Scene_fields_of := by
  have sc := sc_Scene_fields_of
  refine Callee.of none T.f_Scene_fields_of sc (by decide) (fun _ _ _ _ _ _ us hl => match us, hl with | [_, _], _ => rfl) fun _ cdv A outer s H E hr => ?_
  exact (pfss_one (pfs_ret (pf_meth (n := 2) (mv_fields_ofXBook T (by decide)) tkS_ok hr (pf_fld T.fld_book (pf_var 0)) (pfa_cons (pf_meth (n := 2) (mv_kind_of T (by decide)) tkS_ok hr (pf_var 0) (pfa_cons (pf_var 1) pfa_nil)) pfa_nil))))
theorem mv_fields_of (T : Facts K mg) {j : Nat} (hj : 2 ≤ j) : ∀ c s, M_fields_of c = some s → MethV P w K mg base j c "fields_of" 2 s := by
  intro c s h
  unfold M_fields_of at h
  split at h
  · rename_i e; subst e; cases h
    obtain ⟨fd, F, hb⟩ := (ok_Scene_fields_of (P := P) (w := w) (base := base) T).ex
    exact ⟨T.me_Scene_fields_of.1, _, _, fd, _, Nat.le_trans (by decide) hj, T.me_Scene_fields_of.2, F, hb⟩
  split at h
  · rename_i e; subst e; cases h
    obtain ⟨fd, F, hb⟩ := (ok_Book_fields_of (P := P) (w := w) (base := base) T).ex
    exact ⟨T.me_Book_fields_of.1, _, _, fd, _, Nat.le_trans (by decide) hj, T.me_Book_fields_of.2, F, hb⟩
  · cases h
theorem sc_Scene_rank : FnScope ["self", "name", "k", "one", "kind"] ["self", "name"] (defScope s_Scene_rank) := ⟨rfl, rfl, rfl, by decide +kernel, rfl, by decide +kernel, by decide +kernel⟩
theorem ok_Scene_rank (T : Facts K mg) : Callee P w K mg base 1 (He.ma K (He.ga K "Scene") "rank") ["self", "name"] S_Scene_rank := by
  have sc := sc_Scene_rank
  refine Callee.of none T.f_Scene_rank sc (by decide) (fun _ _ _ _ _ _ us hl => match us, hl with | [_, _], _ => rfl) fun _ cdv A outer s H E hr => ?_
  exact (pfss_cons (pfs_for [2, 3, 4] (by decide) (passes_of rfl) rfl (pfi_enum T.z_enumerate (pf_fld T.fld_names (pf_var 0))) (pfg_tup rfl (pfgs_cons (pfg_name 2 (nbT (by decide)) sc.nd) (pfgs_cons (pfg_tup rfl (pfgs_cons (pfg_name 3 (nbT (by decide)) sc.nd) (pfgs_cons (pfg_name 4 (nbT (by decide)) sc.nd) pfgs_nil))) pfgs_nil)))
      (pfss_one (pfs_if (pft_eq hr (pf_var 3) (pf_var 1))
      (pfss_one (pfs_ret (pf_var 2)))
      pfss_nil)))
    (pfss_one (pfs_raise rfl tkS_ok T.ex_BadScene)))
theorem mv_rank (T : Facts K mg) {j : Nat} (hj : 1 ≤ j) : ∀ c s, M_rank c = some s → MethV P w K mg base j c "rank" 2 s := by
  intro c s h
  unfold M_rank at h
  split at h
  · rename_i e; subst e; cases h
    obtain ⟨fd, F, hb⟩ := (ok_Scene_rank (P := P) (w := w) (base := base) T).ex
    exact ⟨T.me_Scene_rank.1, _, _, fd, _, Nat.le_trans (by decide) hj, T.me_Scene_rank.2, F, hb⟩
  · cases h
theorem sc_law_refused : FnScope ["_law_scene", "_law_choice", "_law_refused_here", "e"] ["_law_scene", "_law_choice"] (defScope s_law_refused) := ⟨rfl, rfl, rfl, by decide +kernel, rfl, by decide +kernel, by decide +kernel⟩
theorem ok_law_refused (T : Facts K mg) : Callee P w K mg base 3 (He.ga K "_law_refused") ["_law_scene", "_law_choice"] S_law_refused := by
  have sc := sc_law_refused
  refine Callee.of none T.f_law_refused sc (by decide) (fun _ _ _ _ _ _ us hl => match us, hl with | [_, _], _ => rfl) fun _ cdv A outer s H E hr => ?_
  exact (pfss_cons (pfs_set 2 (nbT (by decide)) sc.nd pf_int)
    (pfss_cons (pfs_tryAs 3 (bs := none) (Ta := H_law_refused_2) (by decide) sc.nd ⟨rfl, by decide, .inl T.g_BadScene⟩ T.tab_BadScene (fun pn xe hp => (pfss_cons (T := tIfSD (tBinT (dEq false) (tVarD 1) (tCD (.int 0))) (tDropD (tMethD 2 "kind_of" M_kind_of (tVarD 0) (tConsD (tCD (.str "zz")) (tNilD)))) (tNextD)) (U := T_law_refused_5) (pfs_if (pft_eq hr (pf_var 1) pf_int)
      (pfss_one (pfs_expr (pf_meth (n := 2) (mv_kind_of T (by decide)) tkS_ok hr (pf_var 0) (pfa_cons pf_str pfa_nil))))
      pfss_nil)
    (pfss_cons (T := tIfSD (tBinT (dEq false) (tVarD 1) (tCD (.int 1))) (tDropD (tMethD 2 "fields_of" M_fields_of (tVarD 0) (tConsD (tCD (.str "zz")) (tNilD)))) (tNextD)) (U := tIfSD (tBinT (dEq false) (tVarD 1) (tCD (.int 2))) (tDropD (tMethD 2 "rank" M_rank (tVarD 0) (tConsD (tCD (.str "zz")) (tNilD)))) (tNextD)) (pfs_if (pft_eq hr (pf_var 1) pf_int)
      (pfss_one (pfs_expr (pf_meth (n := 2) (mv_fields_of T (by decide)) tkS_ok hr (pf_var 0) (pfa_cons pf_str pfa_nil))))
      pfss_nil)
    (pfss_one (pfs_if (pft_eq hr (pf_var 1) pf_int)
      (pfss_one (pfs_expr (pf_meth (n := 2) (mv_rank T (by decide)) tkS_ok hr (pf_var 0) (pfa_cons pf_str pfa_nil))))
      pfss_nil))))) (fun a oe c pn hc hz hd => (pfss_one (pfs_set 2 (nbB (bs := none) (by decide)) sc.nd (pf_sub (pf_add (pf_callInt T.z_int (pfa_cons (pf_isE 3 (T.exc c hc) hz hd T.z_isinstance T.g_HeldError (T.kit_HeldError c hc)) pfa_nil)) (pf_callInt T.z_int (pfa_cons (pf_isEB 3 (T := "ValueError") (T.exc c hc) hz hd T.z_isinstance T.z_ValueError (T.kitT_ValueError c hc)) pfa_nil))) (pf_callInt T.z_int (pfa_cons (pf_isE 3 (T.exc c hc) hz hd T.z_isinstance T.g_BadBook (T.kit_BadBook c hc)) pfa_nil)))))))
    (pfss_dull (bs := none) [3] (by decide) (pfss_one (pfs_ret (pf_eq hr (pf_var 2) pf_int))))))
theorem sc_is_word : FnScope ["value", "sign"] ["value"] (defScope s_is_word) := ⟨rfl, rfl, rfl, by decide +kernel, rfl, by decide +kernel, by decide +kernel⟩
theorem ok_is_word (T : Facts K mg) : Callee P w K mg base 1 (He.ga K "is_word") ["value"] S_is_word := by
  have sc := sc_is_word
  refine Callee.of none T.f_is_word sc (by decide) (fun _ _ _ _ _ _ us hl => match us, hl with | [_], _ => rfl) fun _ cdv A outer s H E hr => ?_
  exact (pfss_cons (pfs_if (pft_not (pft_tru (pf_isi (C := "str") T.z_isinstance T.z_str (pf_var 0))))
      (pfss_one (pfs_ret pf_bl))
      pfss_nil)
    (pfss_cons (pfs_if (pft_w (pfw_or (pft_lt (pf_len T.z_len (pfa_cons (pf_var 0) pfa_nil)) pf_int) (pfw_or1 (pft_gt (pf_len T.z_len (pfa_cons (pf_var 0) pfa_nil)) (pf_gint T.c_MOST_SIGNS)))))
      (pfss_one (pfs_ret pf_bl))
      pfss_nil)
    (pfss_cons (pfs_if (pft_notIn hr (pf_ix (pf_var 0) pf_int) (pf_gstr T.c_LETTERS))
      (pfss_one (pfs_ret pf_bl))
      pfss_nil)
    (pfss_cons (pfs_for [1] (by decide) (passes_of rfl) rfl (pfi_any (pf_var 0)) (pfg_name 1 (nbT (by decide)) sc.nd)
      (pfss_one (pfs_if (pft_notIn hr (pf_var 1) (pf_gstr T.c_SIGNS))
      (pfss_one (pfs_ret pf_bl))
      pfss_nil)))
    (pfss_one (pfs_ret pf_bl))))))
theorem sc_are_words : FnScope ["values", "value"] ["values"] (defScope s_are_words) := ⟨rfl, rfl, rfl, by decide +kernel, rfl, by decide +kernel, by decide +kernel⟩
theorem ok_are_words (T : Facts K mg) : Callee P w K mg base 2 (He.ga K "are_words") ["values"] S_are_words := by
  have sc := sc_are_words
  have C_is_word := ok_is_word (P := P) (w := w) (base := base) T
  refine Callee.of none T.f_are_words sc (by decide) (fun _ _ _ _ _ _ us hl => match us, hl with | [_], _ => rfl) fun _ cdv A outer s H E hr => ?_
  exact (pfss_cons (pfs_for [1] (by decide) (passes_of rfl) rfl (pfi_any (pf_var 0)) (pfg_name 1 (nbT (by decide)) sc.nd)
      (pfss_one (pfs_if (pft_not (pft_tru (pf_callC C_is_word tkS_ok hr (by decide) T.g_is_word (pfa_cons (pf_var 1) pfa_nil))))
      (pfss_one (pfs_ret pf_bl))
      pfss_nil)))
    (pfss_one (pfs_ret pf_bl)))
theorem sc_is_sort : FnScope ["value"] ["value"] (defScope s_is_sort) := ⟨rfl, rfl, rfl, by decide +kernel, rfl, by decide +kernel, by decide +kernel⟩
theorem ok_is_sort (T : Facts K mg) : Callee P w K mg base 3 (He.ga K "is_sort") ["value"] S_is_sort := by
  have sc := sc_is_sort
  have C_are_words := ok_are_words (P := P) (w := w) (base := base) T
  refine Callee.of none T.f_is_sort sc (by decide) (fun _ _ _ _ _ _ us hl => match us, hl with | [_], _ => rfl) fun _ cdv A outer s H E hr => ?_
  exact (pfss_one (pfs_ret (pf_and (pf_isi (C := "tuple") T.z_isinstance T.z_tuple (pf_var 0)) (pf_and (pf_eq hr (pf_len T.z_len (pfa_cons (pf_var 0) pfa_nil)) pf_int) (pf_one (pf_callC C_are_words tkS_ok hr (by decide) T.g_are_words (pfa_cons (pf_var 0) pfa_nil)))))))
theorem sc_SignatureX_initX : FnScope ["self", "takes", "shares", "writes", "shared", "sort"] ["self", "takes", "shares", "writes"] (defScope s_SignatureX_initX) := ⟨rfl, rfl, rfl, by decide +kernel, rfl, by decide +kernel, by decide +kernel⟩
theorem ok_SignatureX_initX (T : Facts K mg) : Callee P w K mg base 4 (He.ma K (He.ga K "Signature") "__init__") ["self", "takes", "shares", "writes"] S_SignatureX_initX := by
  have sc := sc_SignatureX_initX
  have C_are_words := ok_are_words (P := P) (w := w) (base := base) T
  have C_is_sort := ok_is_sort (P := P) (w := w) (base := base) T
  refine Callee.of (some 0) T.f_SignatureX_initX sc (by decide) (fun _ _ _ _ _ _ us hl => match us, hl with | [_, _, _, _], _ => rfl) fun _ cdv A outer s H E hr => ?_
  exact (pfss_cons (pfs_if (pft_w (pfw_or (pft_gt (pf_len T.z_len (pfa_cons (pf_var 1) pfa_nil)) (pf_cconst ⟨T.cc_Signature_MOST_TAKES, T.g_Signature⟩)) (pfw_or1 (pft_not (pft_tru (pf_callC C_are_words tkS_ok hr (by decide) T.g_are_words (pfa_cons (pf_var 1) pfa_nil)))))))
      (pfss_one (pfs_raise rfl tkS_ok T.ex_BadSignature))
      pfss_nil)
    (pfss_cons (pfs_if (pft_ne hr (pf_len T.z_len (pfa_cons (pf_var 2) pfa_nil)) (pf_len T.z_len (pfa_cons (pf_var 1) pfa_nil)))
      (pfss_one (pfs_raise rfl tkS_ok T.ex_BadSignature))
      pfss_nil)
    (pfss_cons (pfs_for [4] (by decide) (passes_of rfl) rfl (pfi_any (pf_var 2)) (pfg_name 4 (nbT (by decide)) sc.nd)
      (pfss_one (pfs_if (pft_w (pfw_and (pft_isNot (pf_var 4) pf_bl) (pfw_and1 (pft_isNot (pf_var 4) pf_bl))))
      (pfss_one (pfs_raise rfl tkS_ok T.ex_BadSignature))
      pfss_nil)))
    (pfss_cons (pfs_for [5] (by decide) (passes_of rfl) rfl (pfi_any (pf_var 3)) (pfg_name 5 (nbT (by decide)) sc.nd)
      (pfss_one (pfs_if (pft_not (pft_tru (pf_callC C_is_sort tkS_ok hr (by decide) T.g_is_sort (pfa_cons (pf_var 5) pfa_nil))))
      (pfss_one (pfs_raise rfl tkS_ok T.ex_BadSignature))
      pfss_nil)))
    (pfss_cons (pfs_setFld 0 T.fld_takes (pf_tupleOf T.z_tuple (pfa_cons (pf_var 1) pfa_nil)))
    (pfss_cons (pfs_setFld 0 T.fld_shares (pf_tupleOf T.z_tuple (pfa_cons (pf_var 2) pfa_nil)))
    (pfss_one (pfs_setFld 0 T.fld_writes (pf_tupleOf T.z_tuple (pfa_cons (pf_fz (po_sortSet 5 hr rfl sc.nd T.z_sorted (pfi_any (pf_var 3)) (blkOk_by (by kernel_rfl)) (fun _ _ _ _ _ => pg_name sc.nd rfl (by first | exact Or.inl rfl | exact Or.inr rfl) (by first | exact .inl rfl | exact .inr rfl)) (fun _ _ _ _ _ => pv 5))) pfa_nil))))))))))
theorem mk_Signature (T : Facts K mg) : Maker P w K mg base 4 "Signature" ["self", "takes", "shares", "writes"] S_SignatureX_initX := by
  obtain ⟨fd, F, hb⟩ := (ok_SignatureX_initX (P := P) (w := w) (base := base) T).ex
  exact ⟨⟨_, fd, F, hb, T.mk_Signature⟩, T.g_Signature⟩
theorem sc_are_distinct_words : FnScope ["values", "value"] ["values"] (defScope s_are_distinct_words) := ⟨rfl, rfl, rfl, by decide +kernel, rfl, by decide +kernel, by decide +kernel⟩
theorem ok_are_distinct_words (T : Facts K mg) : Callee P w K mg base 3 (He.ga K "are_distinct_words") ["values"] S_are_distinct_words := by
  have sc := sc_are_distinct_words
  have C_are_words := ok_are_words (P := P) (w := w) (base := base) T
  refine Callee.of none T.f_are_distinct_words sc (by decide) (fun _ _ _ _ _ _ us hl => match us, hl with | [_], _ => rfl) fun _ cdv A outer s H E hr => ?_
  exact (pfss_cons (pfs_if (pft_not (pft_tru (pf_callC C_are_words tkS_ok hr (by decide) T.g_are_words (pfa_cons (pf_var 0) pfa_nil))))
      (pfss_one (pfs_ret pf_bl))
      pfss_nil)
    (pfss_one (pfs_ret (pf_eq hr (pf_lenSet 1 rfl sc.nd T.z_len (pfi_any (pf_var 0)) (blkOk_by (by kernel_rfl)) (fun _ _ _ _ _ => pg_name sc.nd rfl (by first | exact Or.inl rfl | exact Or.inr rfl) (by first | exact .inl rfl | exact .inr rfl)) (fun _ _ _ _ _ => pv 1)) (pf_len T.z_len (pfa_cons (pf_var 0) pfa_nil))))))
theorem sc_Book_sorts : FnScope ["self", "field", "kind", "fields"] ["self"] (defScope s_Book_sorts) := ⟨rfl, rfl, rfl, by decide +kernel, rfl, by decide +kernel, by decide +kernel⟩
theorem ok_Book_sorts (T : Facts K mg) : Callee P w K mg base 1 (recA "property" "Book" "sorts" K) ["self"] S_Book_sorts := by
  have sc := sc_Book_sorts
  refine Callee.of none T.f_Book_sorts sc (by decide) (fun _ _ _ _ _ _ us hl => match us, hl with | [_], _ => rfl) fun _ cdv A outer s H E hr => ?_
  exact (pfss_one (pfs_ret (pf_tupleOf T.z_tuple (pfa_cons (pf_fz (po_lc2 [("kind", 2), ("fields", 3), ("field", 1)] [1] (by decide)  rfl sc.nd tkBs_S (by decide) (pfi_any (pf_fld T.fld_kinds (pf_var 0))) (blkOk_by (by kernel_rfl)) (fun _ _ _ _ _ => (pgv_tup rfl (pgvs_cons (pgv_name 2 (by decide) (nbB (bs := none) (by decide)) sc.nd) (pgvs_cons (pgv_name 3 (by decide) (nbB (bs := none) (by decide)) sc.nd) pgvs_nil)))) (fun _ _ _ _ _ => pfts_nil) (fun _ _ _ _ _ => (pfi_any (pf_var 3))) (fun _ _ _ _ _ => (pgv_name 1 (by decide) (nbB (bs := none) (by decide)) sc.nd)) (fun _ _ _ _ _ => pfts_nil) (fun _ _ _ _ _ => (pf_tup (pfa_cons (pf_var 2) (pfa_cons (pf_var 1) pfa_nil)))))) pfa_nil))))
theorem pm_sorts (T : Facts K mg) {j : Nat} (hj : 2 ≤ j) : ∀ c s, M_sorts c = some s → PropV P w K mg base j c "sorts" s := by
  intro c s h
  unfold M_sorts at h
  split at h
  · rename_i e; subst e; cases h
    obtain ⟨fd, F, hb⟩ := (ok_Book_sorts (P := P) (w := w) (base := base) T).ex
    exact ⟨T.pr_Book_sorts.1, _, _, _, fd, _, T.pr_Book_sorts.2, Nat.le_trans (by decide) hj, F, hb⟩
  · cases h
theorem sc_Book_has_room_for : FnScope ["self", "signature", "names", "kind", "sort", "fields"] ["self", "signature"] (defScope s_Book_has_room_for) := ⟨rfl, rfl, rfl, by decide +kernel, rfl, by decide +kernel, by decide +kernel⟩
theorem ok_Book_has_room_for (T : Facts K mg) : Callee P w K mg base 3 (He.ma K (He.ga K "Book") "has_room_for") ["self", "signature"] S_Book_has_room_for := by
  have sc := sc_Book_has_room_for
  refine Callee.of none T.f_Book_has_room_for sc (by decide) (fun _ _ _ _ _ _ us hl => match us, hl with | [_, _], _ => rfl) fun _ cdv A outer s H E hr => ?_
  exact (pfss_cons (pfs_setLcF 2 [("kind", 3), ("fields", 5)] (nbT (by decide)) rfl sc.nd tkBs_S (by decide) (pfi_any (pf_fld T.fld_kinds (pf_var 0))) (blkOk_by (by kernel_rfl)) (fun _ _ _ _ _ => (pgv_tup rfl (pgvs_cons (pgv_name 3 (by decide) (nbB (bs := none) (by decide)) sc.nd) (pgvs_cons (pgv_name 5 (by decide) (nbB (bs := none) (by decide)) sc.nd) pgvs_nil)))) (fun _ _ _ _ _ => pfts_nil) (fun _ _ _ _ _ => (pf_var 3)))
    (pfss_cons (pfs_for [3] (by decide) (passes_of rfl) rfl (pfi_any (pf_fld T.fld_takes (pf_var 1))) (pfg_name 3 (nbT (by decide)) sc.nd)
      (pfss_one (pfs_if (pft_notIn hr (pf_var 3) (pf_var 2))
      (pfss_one (pfs_ret pf_bl))
      pfss_nil)))
    (pfss_cons (pfs_for [4] (by decide) (passes_of rfl) rfl (pfi_own (it_writes T (by decide)) hr (pf_var 1)) (pfg_name 4 (nbT (by decide)) sc.nd)
      (pfss_one (pfs_if (pft_notIn hr (pf_var 4) (pf_prop (pm_sorts T (by decide)) hr (pf_var 0)))
      (pfss_one (pfs_ret pf_bl))
      pfss_nil)))
    (pfss_one (pfs_ret pf_bl)))))
theorem mv_has_room_for (T : Facts K mg) {j : Nat} (hj : 3 ≤ j) : ∀ c s, M_has_room_for c = some s → MethV P w K mg base j c "has_room_for" 2 s := by
  intro c s h
  unfold M_has_room_for at h
  split at h
  · rename_i e; subst e; cases h
    obtain ⟨fd, F, hb⟩ := (ok_Book_has_room_for (P := P) (w := w) (base := base) T).ex
    exact ⟨T.me_Book_has_room_for.1, _, _, fd, _, Nat.le_trans (by decide) hj, T.me_Book_has_room_for.2, F, hb⟩
  · cases h
theorem sc_BookX_initX : FnScope ["self", "kinds", "routines", "kind", "fields", "name", "signature"] ["self", "kinds", "routines"] (defScope s_BookX_initX) := ⟨rfl, rfl, rfl, by decide +kernel, rfl, by decide +kernel, by decide +kernel⟩
theorem ok_BookX_initX (T : Facts K mg) : CalleeD P w K mg base 4 (He.ma K (He.ga K "Book") "__init__") ["self", "kinds", "routines"] S_BookX_initX [V.ref (He.dflAt ("Book", some "__init__") 0 K)] := by
  have sc := sc_BookX_initX
  have C_are_distinct_words := ok_are_distinct_words (P := P) (w := w) (base := base) T
  refine CalleeD.of 2 (some 0) T.f_BookX_initX sc (by decide) (by simp) rfl (fun _ _ _ _ _ _ _ us its hl hi => match us, its, hl, hi with | [_, _, _], [_], _, _ => ⟨_, rfl, rfl⟩) (fun _ _ _ _ _ _ _ us its hl hi => match us, its, hl, hi with | [_, _], [_], _, _ => ⟨_, rfl, rfl⟩) fun _ cdv A outer s H E hr => ?_
  exact (pfss_cons (pfs_setFld 0 T.fld_kinds (pf_tupleOf T.z_tuple (pfa_cons (pf_fz (po_lc [("kind", 3), ("fields", 4)]  rfl sc.nd tkBs_S (by decide) (pfi_any (pf_var 1)) (blkOk_by (by kernel_rfl)) (fun _ _ _ _ _ => (pgv_tup rfl (pgvs_cons (pgv_name 3 (by decide) (nbB (bs := some 0) (by decide)) sc.nd) (pgvs_cons (pgv_name 4 (by decide) (nbB (bs := some 0) (by decide)) sc.nd) pgvs_nil)))) (fun _ _ _ _ _ => pfts_nil) (fun _ _ _ _ _ => (pf_tup (pfa_cons (pf_var 3) (pfa_cons (pf_tupleOf T.z_tuple (pfa_cons (pf_var 4) pfa_nil)) pfa_nil)))))) pfa_nil)))
    (pfss_cons (pfs_setFld 0 T.fld_routines (pf_tupleOf T.z_tuple (pfa_cons (pf_fz (po_lc [("name", 5), ("signature", 6)]  rfl sc.nd tkBs_S (by decide) (pfi_any (pf_var 2)) (blkOk_by (by kernel_rfl)) (fun _ _ _ _ _ => (pgv_tup rfl (pgvs_cons (pgv_name 5 (by decide) (nbB (bs := some 0) (by decide)) sc.nd) (pgvs_cons (pgv_name 6 (by decide) (nbB (bs := some 0) (by decide)) sc.nd) pgvs_nil)))) (fun _ _ _ _ _ => pfts_nil) (fun _ _ _ _ _ => (pf_tup (pfa_cons (pf_var 5) (pfa_cons (pf_var 6) pfa_nil)))))) pfa_nil)))
    (pfss_cons (pfs_if (pft_w (pfw_or (pft_lt (pf_len T.z_len (pfa_cons (pf_fldO 0 T.fld_kinds) pfa_nil)) pf_int) (pfw_or1 (pft_gt (pf_len T.z_len (pfa_cons (pf_fldO 0 T.fld_kinds) pfa_nil)) (pf_cconst ⟨T.cc_Book_MOST_KINDS, T.g_Book⟩)))))
      (pfss_one (pfs_raise rfl tkS_ok T.ex_BadBook))
      pfss_nil)
    (pfss_cons (pfs_if (pft_not (pft_tru (pf_callC C_are_distinct_words tkS_ok hr (by decide) T.g_are_distinct_words (pfa_cons (pf_fz (po_lc [("kind", 3), ("fields", 4)]  rfl sc.nd tkBs_S (by decide) (pfi_any (pf_fldO 0 T.fld_kinds)) (blkOk_by (by kernel_rfl)) (fun _ _ _ _ _ => (pgv_tup rfl (pgvs_cons (pgv_name 3 (by decide) (nbB (bs := some 0) (by decide)) sc.nd) (pgvs_cons (pgv_name 4 (by decide) (nbB (bs := some 0) (by decide)) sc.nd) pgvs_nil)))) (fun _ _ _ _ _ => pfts_nil) (fun _ _ _ _ _ => (pf_var 3)))) pfa_nil))))
      (pfss_one (pfs_raise rfl tkS_ok T.ex_BadBook))
      pfss_nil)
    (pfss_cons (pfs_for [3, 4] (by decide) (passes_of rfl) rfl (pfi_any (pf_fldO 0 T.fld_kinds)) (pfg_tup rfl (pfgs_cons (pfg_name 3 (nbT (by decide)) sc.nd) (pfgs_cons (pfg_name 4 (nbT (by decide)) sc.nd) pfgs_nil)))
      (pfss_one (pfs_if (pft_w (pfw_or (pft_lt (pf_len T.z_len (pfa_cons (pf_var 4) pfa_nil)) pf_int) (pfw_or (pft_gt (pf_len T.z_len (pfa_cons (pf_var 4) pfa_nil)) (pf_cconst ⟨T.cc_Book_MOST_FIELDS, T.g_Book⟩)) (pfw_or1 (pft_not (pft_tru (pf_callC C_are_distinct_words tkS_ok hr (by decide) T.g_are_distinct_words (pfa_cons (pf_var 4) pfa_nil))))))))
      (pfss_one (pfs_raise rfl tkS_ok T.ex_BadBook))
      pfss_nil)))
    (pfss_cons (pfs_if (pft_gt (pf_len T.z_len (pfa_cons (pf_fldO 0 T.fld_routines) pfa_nil)) (pf_cconst ⟨T.cc_Book_MOST_ROUTINES, T.g_Book⟩))
      (pfss_one (pfs_raise rfl tkS_ok T.ex_BadBook))
      pfss_nil)
    (pfss_cons (pfs_if (pft_not (pft_tru (pf_callC C_are_distinct_words tkS_ok hr (by decide) T.g_are_distinct_words (pfa_cons (pf_fz (po_lc [("name", 5), ("signature", 6)]  rfl sc.nd tkBs_S (by decide) (pfi_any (pf_fldO 0 T.fld_routines)) (blkOk_by (by kernel_rfl)) (fun _ _ _ _ _ => (pgv_tup rfl (pgvs_cons (pgv_name 5 (by decide) (nbB (bs := some 0) (by decide)) sc.nd) (pgvs_cons (pgv_name 6 (by decide) (nbB (bs := some 0) (by decide)) sc.nd) pgvs_nil)))) (fun _ _ _ _ _ => pfts_nil) (fun _ _ _ _ _ => (pf_var 5)))) pfa_nil))))
      (pfss_one (pfs_raise rfl tkS_ok T.ex_BadBook))
      pfss_nil)
    (pfss_one (pfs_for [5, 6] (by decide) (passes_of rfl) rfl (pfi_any (pf_fldO 0 T.fld_routines)) (pfg_tup rfl (pfgs_cons (pfg_name 5 (nbT (by decide)) sc.nd) (pfgs_cons (pfg_name 6 (nbT (by decide)) sc.nd) pfgs_nil)))
      (pfss_one (pfs_if (pft_not (pft_tru (pf_view (pf_meth (n := 2) (mv_has_room_for T (by decide)) tkB_ok hr (pf_var 0) (pfa_cons (pf_var 6) pfa_nil)))))
      (pfss_one (pfs_raise rfl tkS_ok T.ex_BadBook))
      pfss_nil)))))))))))
theorem mk_Book (T : Facts K mg) : Maker P w K mg base 4 "Book" ["self", "kinds", "routines"] S_BookX_initX := by
  obtain ⟨fd, F, hb, _⟩ := (ok_BookX_initX (P := P) (w := w) (base := base) T).ex
  exact ⟨⟨_, fd, F, hb, T.mk_Book⟩, T.g_Book⟩
theorem mkd_Book (T : Facts K mg) : MakerD P w K mg base 4 "Book" ["self", "kinds", "routines"] [.tup []] S_BookX_initX := by
  obtain ⟨fd, F, _, ds, hv, hb⟩ := (ok_BookX_initX (P := P) (w := w) (base := base) T).ex
  exact ⟨⟨_, fd, ds, _, F, hb, hv, fun G => .cons (etB_ok T.et_BookX_initX_0 G) (.nil), T.mk_Book⟩, T.g_Book⟩
theorem sc_SceneX_initX : FnScope ["self", "book", "names", "apart", "order", "kinds", "told", "pairs", "name", "kind", "first", "second", "y", "fields", "k", "x"] ["self", "book", "names", "apart"] (defScope s_SceneX_initX) := ⟨rfl, rfl, rfl, by decide +kernel, rfl, by decide +kernel, by decide +kernel⟩
theorem ok_SceneX_initX (T : Facts K mg) : CalleeK P w K mg base 4 (He.ma K (He.ga K "Scene") "__init__") ["self", "book", "names", "apart"] S_SceneX_initX 3 ["apart"] [V.ref (kwdAt ("Scene", some "__init__") "apart" K)] := by
  have sc := sc_SceneX_initX
  have C_are_distinct_words := ok_are_distinct_words (P := P) (w := w) (base := base) T
  refine CalleeK.of 3 (some 0) T.f_SceneX_initX sc (by decide) (by simp) rfl (fun _ _ _ _ _ _ us ws l1 l2 => match us, ws, l1, l2 with | [_, _, _], [_], _, _ => rfl) (fun _ _ _ _ _ _ us ws l1 l2 => match us, ws, l1, l2 with | [_, _, _], [_], _, _ => ⟨_, _, _, _, _, _, rfl, rfl, rfl⟩) fun _ cdv A outer s H E hr => ?_
  exact (pfss_cons (pfs_setFld 0 T.fld_book (pf_var 1))
    (pfss_cons (pfs_setFld 0 T.fld_names (pf_tupleOf T.z_tuple (pfa_cons (pf_fz (po_lc [("name", 8), ("kind", 9)]  rfl sc.nd tkBs_S (by decide) (pfi_any (pf_var 2)) (blkOk_by (by kernel_rfl)) (fun _ _ _ _ _ => (pgv_tup rfl (pgvs_cons (pgv_name 8 (by decide) (nbB (bs := some 0) (by decide)) sc.nd) (pgvs_cons (pgv_name 9 (by decide) (nbB (bs := some 0) (by decide)) sc.nd) pgvs_nil)))) (fun _ _ _ _ _ => pfts_nil) (fun _ _ _ _ _ => (pf_tup (pfa_cons (pf_var 8) (pfa_cons (pf_var 9) pfa_nil)))))) pfa_nil)))
    (pfss_cons (pfs_if (pft_w (pfw_or (pft_lt (pf_len T.z_len (pfa_cons (pf_fldO 0 T.fld_names) pfa_nil)) pf_int) (pfw_or1 (pft_gt (pf_len T.z_len (pfa_cons (pf_fldO 0 T.fld_names) pfa_nil)) (pf_cconst ⟨T.cc_Scene_MOST_NAMES, T.g_Scene⟩)))))
      (pfss_one (pfs_raise rfl tkS_ok T.ex_BadScene))
      pfss_nil)
    (pfss_cons (pfs_set 4 (nbT (by decide)) sc.nd (pf_fz (po_lc [("name", 8), ("kind", 9)]  rfl sc.nd tkBs_S (by decide) (pfi_any (pf_fldO 0 T.fld_names)) (blkOk_by (by kernel_rfl)) (fun _ _ _ _ _ => (pgv_tup rfl (pgvs_cons (pgv_name 8 (by decide) (nbB (bs := some 0) (by decide)) sc.nd) (pgvs_cons (pgv_name 9 (by decide) (nbB (bs := some 0) (by decide)) sc.nd) pgvs_nil)))) (fun _ _ _ _ _ => pfts_nil) (fun _ _ _ _ _ => (pf_var 8)))))
    (pfss_cons (pfs_if (pft_not (pft_tru (pf_callC C_are_distinct_words tkS_ok hr (by decide) T.g_are_distinct_words (pfa_cons (pf_var 4) pfa_nil))))
      (pfss_one (pfs_raise rfl tkS_ok T.ex_BadScene))
      pfss_nil)
    (pfss_cons (pfs_setLcF 5 [("kind", 9), ("fields", 13)] (nbT (by decide)) rfl sc.nd tkBs_S (by decide) (pfi_any (pf_fld T.fld_kinds (pf_var 1))) (blkOk_by (by kernel_rfl)) (fun _ _ _ _ _ => (pgv_tup rfl (pgvs_cons (pgv_name 9 (by decide) (nbB (bs := some 0) (by decide)) sc.nd) (pgvs_cons (pgv_name 13 (by decide) (nbB (bs := some 0) (by decide)) sc.nd) pgvs_nil)))) (fun _ _ _ _ _ => pfts_nil) (fun _ _ _ _ _ => (pf_var 9)))
    (pfss_cons (pfs_for [8, 9] (by decide) (passes_of rfl) rfl (pfi_any (pf_fldO 0 T.fld_names)) (pfg_tup rfl (pfgs_cons (pfg_name 8 (nbT (by decide)) sc.nd) (pfgs_cons (pfg_name 9 (nbT (by decide)) sc.nd) pfgs_nil)))
      (pfss_one (pfs_if (pft_notIn hr (pf_var 9) (pf_var 5))
      (pfss_one (pfs_raise rfl tkS_ok T.ex_BadScene))
      pfss_nil)))
    (pfss_cons (pfs_setO 6 (nbT (by decide)) sc.nd (po_lst pfa_nil))
    (pfss_cons (pfs_for [10, 11] (by decide) (passes_of rfl) rfl (pfi_any (pf_var 3)) (pfg_tup rfl (pfgs_cons (pfg_name 10 (nbT (by decide)) sc.nd) (pfgs_cons (pfg_name 11 (nbT (by decide)) sc.nd) pfgs_nil)))
      (pfss_cons (pfs_if (pft_w (pfw_or (pft_notIn hr (pf_var 10) (pf_var 4)) (pfw_or (pft_notIn hr (pf_var 11) (pf_var 4)) (pfw_or1 (pft_eq hr (pf_var 10) (pf_var 11))))))
      (pfss_one (pfs_raise rfl tkS_ok T.ex_BadScene))
      pfss_nil)
    (pfss_cons (pfs_if (pft_ne hr (pf_view (pf_meth (n := 2) (mv_kind_of T (by decide)) tkB_ok hr (pf_var 0) (pfa_cons (pf_var 10) pfa_nil))) (pf_view (pf_meth (n := 2) (mv_kind_of T (by decide)) tkB_ok hr (pf_var 0) (pfa_cons (pf_var 11) pfa_nil))))
      (pfss_one (pfs_raise rfl tkS_ok T.ex_BadScene))
      pfss_nil)
    (pfss_cons (pfs_expr (pf_append 6 (pf_tup (pfa_cons (pf_var 10) (pfa_cons (pf_var 11) pfa_nil)))))
    (pfss_one (pfs_expr (pf_append 6 (pf_tup (pfa_cons (pf_var 11) (pfa_cons (pf_var 10) pfa_nil))))))))))
    (pfss_frz 6 (nbT (by decide)) (pfss_cons (pfs_setLc2F 7 [("k", 14), ("x", 15), ("y", 12)] [12] (by decide) (nbT (by decide)) rfl sc.nd tkBs_S (by decide) (pfi_enum T.z_enumerate (pf_var 4)) (blkOk_by (by kernel_rfl)) (fun _ _ _ _ _ => (pgv_tup rfl (pgvs_cons (pgv_name 14 (by decide) (nbB (bs := some 0) (by decide)) sc.nd) (pgvs_cons (pgv_name 15 (by decide) (nbB (bs := some 0) (by decide)) sc.nd) pgvs_nil)))) (fun _ _ _ _ _ => pfts_nil) (fun _ _ _ _ _ => (pfi_any (pf_slice (pf_var 4) (pfp_some (pf_add (pf_var 14) pf_int)) pfp_none))) (fun _ _ _ _ _ => (pgv_name 12 (by decide) (nbB (bs := some 0) (by decide)) sc.nd)) (fun _ _ _ _ _ => (pfts_one (pft_in hr (pf_tup (pfa_cons (pf_var 15) (pfa_cons (pf_var 12) pfa_nil))) (pf_var 6)))) (fun _ _ _ _ _ => (pf_tup (pfa_cons (pf_var 15) (pfa_cons (pf_var 12) pfa_nil)))))
    (pfss_one (pfs_setFld 0 T.fld_apart (pf_tupleOf T.z_tuple (pfa_cons (pf_var 7) pfa_nil)))))))))))))))
theorem mkk_Scene (T : Facts K mg) : MakerK P w K mg base 4 "Scene" ["self", "book", "names", "apart"] 2 ["apart"] S_SceneX_initX := by
  obtain ⟨fd, F, ⟨g, hb⟩, _⟩ := (ok_SceneX_initX (P := P) (w := w) (base := base) T).ex
  exact ⟨⟨_, fd, g, F, hb, T.mk_Scene⟩, T.g_Scene, rfl⟩
theorem mkd_Scene (T : Facts K mg) : MakerD P w K mg base 4 "Scene" ["self", "book", "names", "apart"] [.tup []] S_SceneX_initX := by
  obtain ⟨fd, F, _, ds, hv, hb⟩ := (ok_SceneX_initX (P := P) (w := w) (base := base) T).ex
  exact ⟨⟨_, fd, ds, _, F, hb, hv, fun G => .cons (etB_ok T.etk_SceneX_initX_apart G) (.nil), T.mk_Scene⟩, T.g_Scene⟩
theorem sc_Scene_order : FnScope ["self", "name", "kind"] ["self"] (defScope s_Scene_order) := ⟨rfl, rfl, rfl, by decide +kernel, rfl, by decide +kernel, by decide +kernel⟩
theorem ok_Scene_order (T : Facts K mg) : Callee P w K mg base 1 (recA "property" "Scene" "order" K) ["self"] S_Scene_order := by
  have sc := sc_Scene_order
  refine Callee.of none T.f_Scene_order sc (by decide) (fun _ _ _ _ _ _ us hl => match us, hl with | [_], _ => rfl) fun _ cdv A outer s H E hr => ?_
  exact (pfss_one (pfs_ret (pf_tupleOf T.z_tuple (pfa_cons (pf_fz (po_lc [("name", 1), ("kind", 2)]  rfl sc.nd tkBs_S (by decide) (pfi_any (pf_fld T.fld_names (pf_var 0))) (blkOk_by (by kernel_rfl)) (fun _ _ _ _ _ => (pgv_tup rfl (pgvs_cons (pgv_name 1 (by decide) (nbB (bs := none) (by decide)) sc.nd) (pgvs_cons (pgv_name 2 (by decide) (nbB (bs := none) (by decide)) sc.nd) pgvs_nil)))) (fun _ _ _ _ _ => pfts_nil) (fun _ _ _ _ _ => (pf_var 1)))) pfa_nil))))
theorem pm_order (T : Facts K mg) {j : Nat} (hj : 2 ≤ j) : ∀ c s, M_order c = some s → PropV P w K mg base j c "order" s := by
  intro c s h
  unfold M_order at h
  split at h
  · rename_i e; subst e; cases h
    obtain ⟨fd, F, hb⟩ := (ok_Scene_order (P := P) (w := w) (base := base) T).ex
    exact ⟨T.pr_Scene_order.1, _, _, _, fd, _, T.pr_Scene_order.2, Nat.le_trans (by decide) hj, F, hb⟩
  · cases h
theorem sc_written_routine : FnScope ["name", "signature", "places", "place", "line", "kind", "field"] ["name", "signature"] (defScope s_written_routine) := ⟨rfl, rfl, rfl, by decide +kernel, rfl, by decide +kernel, by decide +kernel⟩
theorem ok_written_routine (T : Facts K mg) : Callee P w K mg base 2 (He.ga K "written_routine") ["name", "signature"] S_written_routine := by
  have sc := sc_written_routine
  refine Callee.of none T.f_written_routine sc (by decide) (fun _ _ _ _ _ _ us hl => match us, hl with | [_, _], _ => rfl) fun _ cdv A outer s H E hr => ?_
  exact (pfss_cons (pfs_setO 2 (nbT (by decide)) sc.nd (po_lst pfa_nil))
    (pfss_cons (pfs_for [3] (by decide) (passes_of rfl) rfl (pfi_range1 T.z_range (pf_len T.z_len (pfa_cons (pf_fld T.fld_takes (pf_var 1)) pfa_nil))) (pfg_name 3 (nbT (by decide)) sc.nd)
      (pfss_one (pfs_expr (pf_append 2 (pf_add (pf_ix (pf_fld T.fld_takes (pf_var 1)) (pf_var 3)) (pf_ifExp (pft_tru (pf_ix (pf_fld T.fld_shares (pf_var 1)) (pf_var 3))) pf_str pf_str))))))
    (pfss_frz 2 (nbT (by decide)) (pfss_cons (pfs_set 4 (nbT (by decide)) sc.nd (pf_add (pf_add (pf_add (pf_add pf_str (pf_var 0)) pf_str) (pf_join pf_str (pf_var 2))) pf_str))
    (pfss_cons (pfs_for [5, 6] (by decide) (passes_of rfl) rfl (pfi_own (it_writes T (by decide)) hr (pf_var 1)) (pfg_tup rfl (pfgs_cons (pfg_name 5 (nbT (by decide)) sc.nd) (pfgs_cons (pfg_name 6 (nbT (by decide)) sc.nd) pfgs_nil)))
      (pfss_one (pfs_set 4 (nbT (by decide)) sc.nd (pf_add (pf_add (pf_add (pf_add (pf_var 4) pf_str) (pf_var 5)) pf_str) (pf_var 6)))))
    (pfss_one (pfs_ret (pf_var 4))))))))
theorem sc_Book_written : FnScope ["self", "lines", "kind", "fields", "name", "signature"] ["self"] (defScope s_Book_written) := ⟨rfl, rfl, rfl, by decide +kernel, rfl, by decide +kernel, by decide +kernel⟩
theorem ok_Book_written (T : Facts K mg) : Callee P w K mg base 3 (He.ma K (He.ga K "Book") "written") ["self"] S_Book_written := by
  have sc := sc_Book_written
  have C_written_routine := ok_written_routine (P := P) (w := w) (base := base) T
  refine Callee.of none T.f_Book_written sc (by decide) (fun _ _ _ _ _ _ us hl => match us, hl with | [_], _ => rfl) fun _ cdv A outer s H E hr => ?_
  exact (pfss_cons (pfs_setLc 1 [("kind", 2), ("fields", 3)] (nbT (by decide)) rfl sc.nd tkBs_S (by decide) (pfi_any (pf_fld T.fld_kinds (pf_var 0))) (blkOk_by (by kernel_rfl)) (fun _ _ _ _ _ => (pgv_tup rfl (pgvs_cons (pgv_name 2 (by decide) (nbB (bs := none) (by decide)) sc.nd) (pgvs_cons (pgv_name 3 (by decide) (nbB (bs := none) (by decide)) sc.nd) pgvs_nil)))) (fun _ _ _ _ _ => pfts_nil) (fun _ _ _ _ _ => (pf_add (pf_add (pf_add pf_str (pf_var 2)) pf_str) (pf_join pf_str (pf_var 3)))))
    (pfss_cons (pfs_augL 1 sc.nd (pf_fz (po_lc [("name", 4), ("signature", 5)]  rfl sc.nd tkBs_S (by decide) (pfi_any (pf_fld T.fld_routines (pf_var 0))) (blkOk_by (by kernel_rfl)) (fun _ _ _ _ _ => (pgv_tup rfl (pgvs_cons (pgv_name 4 (by decide) (nbB (bs := none) (by decide)) sc.nd) (pgvs_cons (pgv_name 5 (by decide) (nbB (bs := none) (by decide)) sc.nd) pgvs_nil)))) (fun _ _ _ _ _ => pfts_nil) (fun _ _ _ _ _ => (pf_callC C_written_routine tkB_ok hr (by decide) T.g_written_routine (pfa_cons (pf_var 4) (pfa_cons (pf_var 5) pfa_nil)))))))
    (pfss_frz 1 (nbT (by decide)) (pfss_one (pfs_ret (pf_join pf_str (pf_var 1)))))))
theorem mv_written (T : Facts K mg) {j : Nat} (hj : 3 ≤ j) : ∀ c s, M_written c = some s → MethV P w K mg base j c "written" 1 s := by
  intro c s h
  unfold M_written at h
  split at h
  · rename_i e; subst e; cases h
    obtain ⟨fd, F, hb⟩ := (ok_Book_written (P := P) (w := w) (base := base) T).ex
    exact ⟨T.me_Book_written.1, _, _, fd, _, Nat.le_trans (by decide) hj, T.me_Book_written.2, F, hb⟩
  · cases h
theorem sc_Scene_with_apart : FnScope ["self", "first", "second"] ["self", "first", "second"] (defScope s_Scene_with_apart) := ⟨rfl, rfl, rfl, by decide +kernel, rfl, by decide +kernel, by decide +kernel⟩
theorem ok_Scene_with_apart (T : Facts K mg) : Callee P w K mg base 6 (He.ma K (He.ga K "Scene") "with_apart") ["self", "first", "second"] S_Scene_with_apart := by
  have sc := sc_Scene_with_apart
  refine Callee.of none T.f_Scene_with_apart sc (by decide) (fun _ _ _ _ _ _ us hl => match us, hl with | [_, _, _], _ => rfl) fun _ cdv A outer s H E hr => ?_
  exact (pfss_one (pfs_ret (pf_fz (po_makeK (mkk_Scene T) tkS_ok hr (by decide) (pfa_cons (pf_fld T.fld_book (pf_var 0)) (pfa_cons (pf_fld T.fld_names (pf_var 0)) pfa_nil)) (pfk_cons (pf_add (pf_fld T.fld_apart (pf_var 0)) (pf_tup (pfa_cons (pf_tup (pfa_cons (pf_var 1) (pfa_cons (pf_var 2) pfa_nil))) pfa_nil))) pfk_nil)))))
theorem mv_with_apart (T : Facts K mg) {j : Nat} (hj : 6 ≤ j) : ∀ c s, M_with_apart c = some s → MethV P w K mg base j c "with_apart" 3 s := by
  intro c s h
  unfold M_with_apart at h
  split at h
  · rename_i e; subst e; cases h
    obtain ⟨fd, F, hb⟩ := (ok_Scene_with_apart (P := P) (w := w) (base := base) T).ex
    exact ⟨T.me_Scene_with_apart.1, _, _, fd, _, Nat.le_trans (by decide) hj, T.me_Scene_with_apart.2, F, hb⟩
  · cases h
theorem sc_Scene_with_book : FnScope ["self", "book"] ["self", "book"] (defScope s_Scene_with_book) := ⟨rfl, rfl, rfl, by decide +kernel, rfl, by decide +kernel, by decide +kernel⟩
theorem ok_Scene_with_book (T : Facts K mg) : Callee P w K mg base 6 (He.ma K (He.ga K "Scene") "with_book") ["self", "book"] S_Scene_with_book := by
  have sc := sc_Scene_with_book
  refine Callee.of none T.f_Scene_with_book sc (by decide) (fun _ _ _ _ _ _ us hl => match us, hl with | [_, _], _ => rfl) fun _ cdv A outer s H E hr => ?_
  exact (pfss_one (pfs_ret (pf_fz (po_makeK (mkk_Scene T) tkS_ok hr (by decide) (pfa_cons (pf_var 1) (pfa_cons (pf_fld T.fld_names (pf_var 0)) pfa_nil)) (pfk_cons (pf_fld T.fld_apart (pf_var 0)) pfk_nil)))))
theorem mv_with_book (T : Facts K mg) {j : Nat} (hj : 6 ≤ j) : ∀ c s, M_with_book c = some s → MethV P w K mg base j c "with_book" 2 s := by
  intro c s h
  unfold M_with_book at h
  split at h
  · rename_i e; subst e; cases h
    obtain ⟨fd, F, hb⟩ := (ok_Scene_with_book (P := P) (w := w) (base := base) T).ex
    exact ⟨T.me_Scene_with_book.1, _, _, fd, _, Nat.le_trans (by decide) hj, T.me_Scene_with_book.2, F, hb⟩
  · cases h
theorem sc_law : FnScope ["_law_script", "_law_draws_here", "_law_world_here", "_law_names", "_law_alike", "_law_due", "_law_told", "_law_i", "_law_turn", "_law_passed", "_law_routines", "_law_book_here", "_law_scene", "_law_k", "_law_other", "_law_made", "_law_j", "_law_pair", "_law_one", "_law_name", "_law_kind", "_law_choice"] ["_law_script"] (defScope s_law) := ⟨rfl, rfl, rfl, by decide +kernel, rfl, by decide +kernel, by decide +kernel⟩
theorem ok_law (T : Facts K mg) {fd : FuncData} (F : FunD K "law" "law" (defArgs s_law) (defBody s_law) (defScope s_law) [] [] (He.ga K "law") fd) : FnV P w K mg base 7 (He.ga K "law") fd ["_law_script"] S_law := by
  have sc := sc_law
  have C_law_draws := ok_law_draws (P := P) (w := w) (base := base) T
  have C_law_world := ok_law_world (P := P) (w := w) (base := base) T
  have C_law_take := ok_law_take (P := P) (w := w) (base := base) T
  have C_law_refused := ok_law_refused (P := P) (w := w) (base := base) T
  refine FnV.of none F sc (by decide) fun _ cdv A outer s H E hr => ?_
  exact (pfss_cons (pfs_setO 1 (nbT (by decide)) sc.nd (po_callC C_law_draws tkS_ok hr (by decide) T.g_law_draws (pfa_cons (pf_var 0) pfa_nil)))
    (pfss_cons (pfs_set 2 (nbT (by decide)) sc.nd (pf_callBC 1 C_law_world tkS_ok hr (by decide) T.g_law_world (pfb_sl 1 pfb_nil)))
    (pfss_cons (pfs_set 3 (nbT (by decide)) sc.nd (pf_ix (pf_var 2) pf_int))
    (pfss_cons (pfs_setO 4 (nbT (by decide)) sc.nd (po_lst pfa_nil))
    (pfss_cons (pfs_setO 5 (nbT (by decide)) sc.nd (po_lst pfa_nil))
    (pfss_cons (pfs_setO 6 (nbT (by decide)) sc.nd (po_lst pfa_nil))
    (pfss_cons (pfs_for [7, 16, 17, 21] (by decide) (passes_of rfl) rfl (pfi_range1 T.z_range (pf_len T.z_len (pfa_cons (pf_var 3) pfa_nil))) (pfg_name 7 (nbT (by decide)) sc.nd)
      (pfss_one (pfs_for [16, 17, 21] (by decide) (passes_of rfl) rfl (pfi_range2 T.z_range (pf_add (pf_var 7) pf_int) (pf_len T.z_len (pfa_cons (pf_var 3) pfa_nil))) (pfg_name 16 (nbT (by decide)) sc.nd)
      (pfss_one (pfs_if (pft_eq hr (pf_ix (pf_ix (pf_var 3) (pf_var 7)) pf_int) (pf_ix (pf_ix (pf_var 3) (pf_var 16)) pf_int))
      (pfss_cons (pfs_set 17 (nbT (by decide)) sc.nd (pf_tup (pfa_cons (pf_ix (pf_ix (pf_var 3) (pf_var 7)) pf_int) (pfa_cons (pf_ix (pf_ix (pf_var 3) (pf_var 16)) pf_int) pfa_nil))))
    (pfss_cons (pfs_expr (pf_append 4 (pf_var 17)))
    (pfss_cons (pfs_set 21 (nbT (by decide)) sc.nd (pf_callBC 1 C_law_take tkS_ok hr (by decide) T.g_law_take (pfb_sl 1 (pfb_im pf_int pfb_nil))))
    (pfss_one (pfs_if (pft_gt (pf_var 21) pf_int)
      (pfss_cons (pfs_expr (pf_append 5 (pf_var 17)))
    (pfss_one (pfs_expr (pf_append 6 (pf_ix (pf_fz (po_lst (pfa_cons (pf_var 17) (pfa_cons (pf_tup (pfa_cons (pf_ix (pf_var 17) pf_int) (pfa_cons (pf_ix (pf_var 17) pf_int) pfa_nil))) pfa_nil)))) (pf_sub (pf_var 21) pf_int))))))
      pfss_nil)))))
      pfss_nil)))))
    (pfss_frz 6 (nbT (by decide)) (pfss_frz 5 (nbT (by decide)) (pfss_frz 4 (nbT (by decide)) (pfss_cons (pfs_set 8 (nbT (by decide)) sc.nd (pf_callBC 1 C_law_take tkS_ok hr (by decide) T.g_law_take (pfb_sl 1 (pfb_im (pf_add (pf_len T.z_len (pfa_cons (pf_var 6) pfa_nil)) pf_int) pfb_nil))))
    (pfss_cons (pfs_set 6 (nbT (by decide)) sc.nd (pf_add (pf_slice (pf_var 6) (pfp_some (pf_var 8)) pfp_none) (pf_slice (pf_var 6) pfp_none (pfp_some (pf_var 8)))))
    (pfss_cons (pfs_set 9 (nbT (by decide)) sc.nd (pf_fz (po_lst (pfa_cons (pf_wld (po_list T.z_list (pf_var 3))) (pfa_cons (pf_wld (po_addL (pf_var 6) (pf_slice (pf_var 6) pfp_none (pfp_some (pf_callBC 1 C_law_take tkS_ok hr (by decide) T.g_law_take (pfb_sl 1 (pfb_im pf_int pfb_nil))))))) pfa_nil)))))
    (pfss_cons (pfs_setLcF 10 [("_law_one", 18)] (nbT (by decide)) rfl sc.nd tkBs_S (by decide) (pfi_any (pf_ix (pf_var 2) pf_int)) (blkOk_by (by kernel_rfl)) (fun _ _ _ _ _ => (pgv_name 18 (by decide) (nbB (bs := none) (by decide)) sc.nd)) (fun _ _ _ _ _ => pfts_nil) (fun _ _ _ _ _ => (pf_tup (pfa_cons (pf_ix (pf_var 18) pf_int) (pfa_cons (pf_fz (po_make (mk_Signature T) tkB_ok hr (by decide) (pfa_cons (pf_ix (pf_var 18) pf_int) (pfa_cons (pf_ix (pf_var 18) pf_int) (pfa_cons (pf_ix (pf_var 18) pf_int) pfa_nil))))) pfa_nil)))))
    (pfss_cons (pfs_set 11 (nbT (by decide)) sc.nd (pf_fz (po_make (mk_Book T) tkS_ok hr (by decide) (pfa_cons (pf_fz (po_lc [("_law_one", 18)]  rfl sc.nd tkBs_S (by decide) (pfi_any (pf_ix (pf_var 2) pf_int)) (blkOk_by (by kernel_rfl)) (fun _ _ _ _ _ => (pgv_name 18 (by decide) (nbB (bs := none) (by decide)) sc.nd)) (fun _ _ _ _ _ => pfts_nil) (fun _ _ _ _ _ => (pf_tup (pfa_cons (pf_ix (pf_var 18) pf_int) (pfa_cons (pf_ix (pf_var 18) pf_int) pfa_nil)))))) (pfa_cons (pf_var 10) pfa_nil)))))
    (pfss_cons (pfs_set 12 (nbT (by decide)) sc.nd (pf_view (pf_fz (po_makeK (mkk_Scene T) tkB_ok hr (by decide) (pfa_cons (pf_var 11) (pfa_cons (pf_ix (pf_var 9) pf_int) pfa_nil)) (pfk_cons (pf_ix (pf_var 9) pf_int) pfk_nil)))))
    (pfss_cons (pfs_expr (pf_wapp (pf_ix (pf_var 9) pf_int) (pf_tup (pfa_cons pf_str (pfa_cons (pf_ix (pf_ix (pf_var 3) pf_int) pf_int) pfa_nil)))))
    (pfss_cons (pfs_expr (pf_wins (pf_ix (pf_var 9) pf_int) pf_int (pf_tup (pfa_cons (pf_ix (pf_ix (pf_var 3) pf_int) pf_int) (pfa_cons (pf_ix (pf_ix (pf_var 3) (pf_neg pf_int)) pf_int) pfa_nil)))))
    (pfss_cons (pfs_if (pft_w (pfw_or (pft_ne hr (pf_fld T.fld_names (pf_var 12)) (pf_tupleOf T.z_tuple (pfa_cons (pf_var 3) pfa_nil))) (pfw_or1 (pft_ne hr (pf_prop (pm_order T (by decide)) hr (pf_var 12)) (pf_tupleOf T.z_tuple (pfa_cons (pf_fz (po_lc [("_law_one", 18)]  rfl sc.nd tkBs_S (by decide) (pfi_any (pf_var 3)) (blkOk_by (by kernel_rfl)) (fun _ _ _ _ _ => (pgv_name 18 (by decide) (nbB (bs := none) (by decide)) sc.nd)) (fun _ _ _ _ _ => pfts_nil) (fun _ _ _ _ _ => (pf_ix (pf_var 18) pf_int)))) pfa_nil))))))
      (pfss_one (pfs_ret pf_bl))
      pfss_nil)
    (pfss_cons (pfs_if (pft_w (pfw_or (pft_ne hr (pf_fld T.fld_apart (pf_var 12)) (pf_tupleOf T.z_tuple (pfa_cons (pf_var 5) pfa_nil))) (pfw_or1 (pft_ne hr (pf_meth0 (n := 1) (mv_written T (by decide)) tkS_ok hr (pf_fld T.fld_book (pf_var 12))) (pf_meth0 (n := 1) (mv_written T (by decide)) tkS_ok hr (pf_var 11))))))
      (pfss_one (pfs_ret pf_bl))
      pfss_nil)
    (pfss_cons (pfs_for [13, 19, 20] (by decide) (passes_of rfl) rfl (pfi_range1 T.z_range (pf_len T.z_len (pfa_cons (pf_var 3) pfa_nil))) (pfg_name 13 (nbT (by decide)) sc.nd)
      (pfss_cons (pfs_asg (pf_ix (pf_var 3) (pf_var 13)) (pfg_tup rfl (pfgs_cons (pfg_name 19 (nbT (by decide)) sc.nd) (pfgs_cons (pfg_name 20 (nbT (by decide)) sc.nd) pfgs_nil))))
    (pfss_cons (pfs_if (pft_w (pfw_or (pft_ne hr (pf_meth (n := 2) (mv_kind_of T (by decide)) tkS_ok hr (pf_var 12) (pfa_cons (pf_var 19) pfa_nil)) (pf_var 20)) (pfw_or1 (pft_ne hr (pf_meth (n := 2) (mv_fields_of T (by decide)) tkS_ok hr (pf_var 12) (pfa_cons (pf_var 19) pfa_nil)) (pf_tupleOf T.z_tuple (pfa_cons (pf_ixK hr (pf_fz (po_dictP rfl T.z_dict (pf_ix (pf_var 2) pf_int))) (pf_var 20)) pfa_nil))))))
      (pfss_one (pfs_ret pf_bl))
      pfss_nil)
    (pfss_one (pfs_if (pft_w (pfw_or (pft_tru (pf_isi (C := "bool") T.z_isinstance T.z_bool (pf_meth (n := 2) (mv_rank T (by decide)) tkS_ok hr (pf_var 12) (pfa_cons (pf_var 19) pfa_nil)))) (pfw_or1 (pft_ne hr (pf_meth (n := 2) (mv_rank T (by decide)) tkS_ok hr (pf_var 12) (pfa_cons (pf_var 19) pfa_nil)) (pf_var 13)))))
      (pfss_one (pfs_ret pf_bl))
      pfss_nil)))))
    (pfss_cons (pfs_if (pft_w (pfw_or (pft_not (pft_tru (pf_callC C_law_refused tkS_ok hr (by decide) T.g_law_refused (pfa_cons (pf_var 12) (pfa_cons pf_int pfa_nil))))) (pfw_or (pft_not (pft_tru (pf_callC C_law_refused tkS_ok hr (by decide) T.g_law_refused (pfa_cons (pf_var 12) (pfa_cons pf_int pfa_nil))))) (pfw_or1 (pft_not (pft_tru (pf_callC C_law_refused tkS_ok hr (by decide) T.g_law_refused (pfa_cons (pf_var 12) (pfa_cons pf_int pfa_nil)))))))))
      (pfss_one (pfs_ret pf_bl))
      pfss_nil)
    (pfss_cons (pfs_if (pft_gt (pf_len T.z_len (pfa_cons (pf_var 4) pfa_nil)) pf_int)
      (pfss_cons (pfs_set 17 (nbT (by decide)) sc.nd (pf_ix (pf_var 4) (pf_callBC 1 C_law_take tkS_ok hr (by decide) T.g_law_take (pfb_sl 1 (pfb_im (pf_len T.z_len (pfa_cons (pf_var 4) pfa_nil)) pfb_nil)))))
    (pfss_cons (pfs_set 15 (nbT (by decide)) sc.nd (pf_meth (n := 3) (mv_with_apart T (by decide)) tkS_ok hr (pf_var 12) (pfa_cons (pf_ix (pf_var 17) pf_int) (pfa_cons (pf_ix (pf_var 17) pf_int) pfa_nil))))
    (pfss_cons (pfs_if (pft_w (pfw_or (pft_ne hr (pf_fld T.fld_apart (pf_var 15)) (pf_tupleOf T.z_tuple (pfa_cons (pf_fz (po_lc [("_law_one", 18)]  rfl sc.nd tkBs_S (by decide) (pfi_any (pf_var 4)) (blkOk_by (by kernel_rfl)) (fun _ _ _ _ _ => (pgv_name 18 (by decide) (nbB (bs := none) (by decide)) sc.nd)) (fun _ _ _ _ _ => (pfts_one (pft_w (pfw_or (pft_in hr (pf_var 18) (pf_var 5)) (pfw_or1 (pft_eq hr (pf_var 18) (pf_var 17))))))) (fun _ _ _ _ _ => (pf_var 18)))) pfa_nil))) (pfw_or1 (pft_ne hr (pf_fld T.fld_names (pf_var 15)) (pf_tupleOf T.z_tuple (pfa_cons (pf_var 3) pfa_nil))))))
      (pfss_one (pfs_ret pf_bl))
      pfss_nil)
    (pfss_one (pfs_if (pft_ne hr (pf_fld T.fld_apart (pf_meth (n := 3) (mv_with_apart T (by decide)) tkS_ok hr (pf_var 15) (pfa_cons (pf_ix (pf_var 17) pf_int) (pfa_cons (pf_ix (pf_var 17) pf_int) pfa_nil)))) (pf_fld T.fld_apart (pf_var 15)))
      (pfss_one (pfs_ret pf_bl))
      pfss_nil)))))
      pfss_nil)
    (pfss_dull (bs := none) [15, 17] (by decide) (pfss_cons (pfs_set 14 (nbT (by decide)) sc.nd (pf_fz (po_makeD (mkd_Book T) tkS_ok hr (by decide) (pfa_cons (pf_fz (po_lc [("_law_one", 18)]  rfl sc.nd tkBs_S (by decide) (pfi_any (pf_ix (pf_var 2) pf_int)) (blkOk_by (by kernel_rfl)) (fun _ _ _ _ _ => (pgv_name 18 (by decide) (nbB (bs := none) (by decide)) sc.nd)) (fun _ _ _ _ _ => pfts_nil) (fun _ _ _ _ _ => (pf_tup (pfa_cons (pf_ix (pf_var 18) pf_int) (pfa_cons (pf_ix (pf_var 18) pf_int) pfa_nil)))))) pfa_nil))))
    (pfss_cons (pfs_set 15 (nbT (by decide)) sc.nd (pf_meth (n := 2) (mv_with_book T (by decide)) tkS_ok hr (pf_var 12) (pfa_cons (pf_var 14) pfa_nil)))
    (pfss_cons (pfs_if (pft_w (pfw_or (pft_ne hr (pf_fld T.fld_names (pf_var 15)) (pf_tupleOf T.z_tuple (pfa_cons (pf_var 3) pfa_nil))) (pfw_or (pft_ne hr (pf_fld T.fld_apart (pf_var 15)) (pf_tupleOf T.z_tuple (pfa_cons (pf_var 5) pfa_nil))) (pfw_or1 (pft_ne hr (pf_fld T.fld_routines (pf_fld T.fld_book (pf_var 15))) (pf_tup pfa_nil))))))
      (pfss_one (pfs_ret pf_bl))
      pfss_nil)
    (pfss_cons (pfs_if (pft_w (pfw_or (pft_ne hr (pf_fld T.fld_apart (pf_fz (po_makeD (mkd_Scene T) tkS_ok hr (by decide) (pfa_cons (pf_var 14) (pfa_cons (pf_tupleOf T.z_tuple (pfa_cons (pf_var 3) pfa_nil)) pfa_nil))))) (pf_tup pfa_nil)) (pfw_or1 (pft_ne hr (pf_fld T.fld_apart (pf_var 12)) (pf_tupleOf T.z_tuple (pfa_cons (pf_var 5) pfa_nil))))))
      (pfss_one (pfs_ret pf_bl))
      pfss_nil)
    (pfss_cons (pfs_if (pft_ne hr (pf_fld T.fld_apart (pf_fz (po_makeK (mkk_Scene T) tkS_ok hr (by decide) (pfa_cons (pf_var 14) (pfa_cons (pf_tupleOf T.z_tuple (pfa_cons (pf_var 3) pfa_nil)) pfa_nil)) (pfk_cons (pf_tupleOf T.z_tuple (pfa_cons (pf_var 6) pfa_nil)) pfk_nil)))) (pf_tupleOf T.z_tuple (pfa_cons (pf_var 5) pfa_nil)))
      (pfss_one (pfs_ret pf_bl))
      pfss_nil)
    (pfss_one (pfs_ret (pf_and (pf_eq hr (pf_cconst ⟨T.cc_Scene_MOST_NAMES, T.g_Scene⟩) pf_int) (pf_one (pf_eq hr (pf_len T.z_len (pfa_cons (pf_fld T.fld_routines (pf_fld T.fld_book (pf_var 12))) pfa_nil)) (pf_len T.z_len (pfa_cons (pf_var 10) pfa_nil))))))))))))))))))))))))))))))))))))
end
/-! ### the head -/
def names0 : List PySem.Str := ["_wall", "HeldError", "BadSignature", "Unlike", "BadBook", "BadText", "BadScene", "LETTERS", "SIGNS", "MOST_SIGNS", "is_word", "are_words", "are_distinct_words", "Scene", "is_sort", "Signature", "kind_in", "routine_in", "written_routine", "Book", "_law_draws", "_law_take", "_law_book", "_law_world", "_law_refused"]
def names : List PySem.Str := names0
def d_law_draws : DefX := ⟨gA "_law_draws", "_law_draws", "_law_draws", defArgs s_law_draws, defBody s_law_draws, defScope s_law_draws, [], []⟩
def d_law_take : DefX := ⟨gA "_law_take", "_law_take", "_law_take", defArgs s_law_take, defBody s_law_take, defScope s_law_take, [], []⟩
def d_law_book : DefX := ⟨gA "_law_book", "_law_book", "_law_book", defArgs s_law_book, defBody s_law_book, defScope s_law_book, [], []⟩
def d_law_world : DefX := ⟨gA "_law_world", "_law_world", "_law_world", defArgs s_law_world, defBody s_law_world, defScope s_law_world, [], []⟩
def d_Scene_kind_of : DefX := ⟨mA "Scene" "kind_of", "kind_of", "Scene.kind_of", defArgs s_Scene_kind_of, defBody s_Scene_kind_of, defScope s_Scene_kind_of, [], []⟩
def d_Book_fields_of : DefX := ⟨mA "Book" "fields_of", "fields_of", "Book.fields_of", defArgs s_Book_fields_of, defBody s_Book_fields_of, defScope s_Book_fields_of, [], []⟩
def d_Scene_fields_of : DefX := ⟨mA "Scene" "fields_of", "fields_of", "Scene.fields_of", defArgs s_Scene_fields_of, defBody s_Scene_fields_of, defScope s_Scene_fields_of, [], []⟩
def d_Scene_rank : DefX := ⟨mA "Scene" "rank", "rank", "Scene.rank", defArgs s_Scene_rank, defBody s_Scene_rank, defScope s_Scene_rank, [], []⟩
def d_law_refused : DefX := ⟨gA "_law_refused", "_law_refused", "_law_refused", defArgs s_law_refused, defBody s_law_refused, defScope s_law_refused, [], []⟩
def d_is_word : DefX := ⟨gA "is_word", "is_word", "is_word", defArgs s_is_word, defBody s_is_word, defScope s_is_word, [], []⟩
def d_are_words : DefX := ⟨gA "are_words", "are_words", "are_words", defArgs s_are_words, defBody s_are_words, defScope s_are_words, [], []⟩
def d_is_sort : DefX := ⟨gA "is_sort", "is_sort", "is_sort", defArgs s_is_sort, defBody s_is_sort, defScope s_is_sort, [], []⟩
def d_SignatureX_initX : DefX := ⟨mA "Signature" "__init__", "__init__", "Signature.__init__", defArgs s_SignatureX_initX, defBody s_SignatureX_initX, defScope s_SignatureX_initX, [], []⟩
def d_are_distinct_words : DefX := ⟨gA "are_distinct_words", "are_distinct_words", "are_distinct_words", defArgs s_are_distinct_words, defBody s_are_distinct_words, defScope s_are_distinct_words, [], []⟩
def d_Book_sorts : DefX := ⟨recA "property" "Book" "sorts", "sorts", "Book.sorts", defArgs s_Book_sorts, defBody s_Book_sorts, defScope s_Book_sorts, [], []⟩
def d_Book_has_room_for : DefX := ⟨mA "Book" "has_room_for", "has_room_for", "Book.has_room_for", defArgs s_Book_has_room_for, defBody s_Book_has_room_for, defScope s_Book_has_room_for, [], []⟩
def d_BookX_initX : DefX := ⟨mA "Book" "__init__", "__init__", "Book.__init__", defArgs s_BookX_initX, defBody s_BookX_initX, defScope s_BookX_initX, [.adr (He.dflAt ("Book", some "__init__") 0)], []⟩
def d_SceneX_initX : DefX := ⟨mA "Scene" "__init__", "__init__", "Scene.__init__", defArgs s_SceneX_initX, defBody s_SceneX_initX, defScope s_SceneX_initX, [], [("apart", .adr (kwdAt ("Scene", some "__init__") "apart"))]⟩
def d_Scene_order : DefX := ⟨recA "property" "Scene" "order", "order", "Scene.order", defArgs s_Scene_order, defBody s_Scene_order, defScope s_Scene_order, [], []⟩
def d_written_routine : DefX := ⟨gA "written_routine", "written_routine", "written_routine", defArgs s_written_routine, defBody s_written_routine, defScope s_written_routine, [], []⟩
def d_Book_written : DefX := ⟨mA "Book" "written", "written", "Book.written", defArgs s_Book_written, defBody s_Book_written, defScope s_Book_written, [], []⟩
def d_Scene_with_apart : DefX := ⟨mA "Scene" "with_apart", "with_apart", "Scene.with_apart", defArgs s_Scene_with_apart, defBody s_Scene_with_apart, defScope s_Scene_with_apart, [], []⟩
def d_Scene_with_book : DefX := ⟨mA "Scene" "with_book", "with_book", "Scene.with_book", defArgs s_Scene_with_book, defBody s_Scene_with_book, defScope s_Scene_with_book, [], []⟩
def d_law : DefX := ⟨gA "law", "law", "law", defArgs s_law, defBody s_law, defScope s_law, [], []⟩
def d_SignatureX_iterX : DefX := ⟨mA "Signature" "__iter__", "__iter__", "Signature.__iter__", defArgs s_SignatureX_iterX, defBody s_SignatureX_iterX, defScope s_SignatureX_iterX, [], []⟩
def fn : List DefX := [d_law_draws, d_law_take, d_law_book, d_law_world, d_Scene_kind_of, d_Book_fields_of, d_Scene_fields_of, d_Scene_rank, d_law_refused, d_is_word, d_are_words, d_is_sort, d_SignatureX_initX, d_are_distinct_words, d_Book_sorts, d_Book_has_room_for, d_BookX_initX, d_SceneX_initX, d_Scene_order, d_written_routine, d_Book_written, d_Scene_with_apart, d_Scene_with_book, d_law, d_SignatureX_iterX]
def fb : List (PySem.W.Frag → Bool) := [fB (.free "len"),
  fB (.free "min"),
  fB (.free "range"),
  fB (.free "int"),
  fB (.free "abs"),
  fB (.glo "_law_take"),
  fB (.free "sorted"),
  fB (.glo "_law_book"),
  fB (.free "max"),
  fB (.free "set"),
  fB (.glo "BadScene"),
  exmB exL exSub "BadScene",
  fldB ["Scene"] "names",
  fB (.exc "BadScene"),
  fldB ["Book"] "kinds",
  fB (.glo "BadBook"),
  fB (.exc "BadBook"),
  fldB ["Scene"] "book",
  fB (.free "enumerate"),
  (fun K => exL.all fun c => exB c K),
  kitB exL exSub "HeldError",
  fB (.free "isinstance"),
  fB (.glo "HeldError"),
  kitBT exL "ValueError" (fun _ => true),
  fB (.free "ValueError"),
  kitB exL exSub "BadBook",
  fB (.glo "_law_draws"),
  fB (.glo "_law_world"),
  fB (.free "list"),
  fB (.free "str"),
  fB (.int "MOST_SIGNS" (8)),
  fB (.str "LETTERS" "abcdefghijklmnopqrstuvwxyz"),
  fB (.str "SIGNS" "abcdefghijklmnopqrstuvwxyz0123456789"),
  fB (.glo "is_word"),
  fB (.free "tuple"),
  fB (.glo "are_words"),
  ccB "Signature" "MOST_TAKES" 3,
  fB (.glo "Signature"),
  fB (.glo "BadSignature"),
  fB (.exc "BadSignature"),
  fB (.glo "is_sort"),
  fldB ["Signature"] "takes",
  fldB ["Signature"] "shares",
  fldB ["Signature"] "writes",
  fldB ["Book"] "routines",
  ccB "Book" "MOST_KINDS" 3,
  fB (.glo "Book"),
  fB (.glo "are_distinct_words"),
  ccB "Book" "MOST_FIELDS" 3,
  ccB "Book" "MOST_ROUTINES" 4,
  fB (.free "iter"),
  (fun K => fB (.cls "Signature") K && fB (.meth "Signature" "__iter__") K),
  ccB "Scene" "MOST_NAMES" 5,
  fB (.glo "Scene"),
  fldB ["Scene"] "apart",
  fB (.glo "written_routine"),
  fB (.free "dict"),
  fB (.free "bool"),
  fB (.glo "_law_refused"),
  (fun K => fB (.cls "Scene") K && fB (.meth "Scene" "kind_of") K),
  (fun K => fB (.cls "Book") K && fB (.meth "Book" "fields_of") K),
  (fun K => fB (.cls "Scene") K && fB (.meth "Scene" "fields_of") K),
  (fun K => fB (.cls "Scene") K && fB (.meth "Scene" "rank") K),
  fB (.mkr "Signature"),
  (fun K => fB (.cls "Book") K && prB "Book" "sorts" K),
  (fun K => fB (.cls "Book") K && fB (.meth "Book" "has_room_for") K),
  fB (.mkr "Book"),
  fB (.mkr "Scene"),
  (fun K => fB (.cls "Scene") K && prB "Scene" "order" K),
  (fun K => fB (.cls "Book") K && fB (.meth "Book" "written") K),
  (fun K => fB (.cls "Scene") K && fB (.meth "Scene" "with_apart") K),
  (fun K => fB (.cls "Scene") K && fB (.meth "Scene" "with_book") K),
  (etB (kwdAt ("Scene", some "__init__") "apart")),
  (etB (He.dflAt ("Book", some "__init__") 0)),
  fB (.glo "law")]
abbrev R0 : PySem.W.OpenRow := PySem.W.OpenLaw.row PySem.Challenge.rw_heldreads_k09_scene_parts
abbrev hk : PySem.W.Hook := hookX 5 fb fn
def ob (s : PySem.W.SharedT) : AlX := obsXG 5 fb fn (HandSHeadRun.getT s)
theorem ob_eq (s : PySem.W.SharedT) : ob s = hk.obs s.abs := obsXG_eq (HandSHeadRun.getT_eq s)
theorem run (w : World) : HandSHeadRun.RunEq R0 (PySem.W.view R0.prog [31]) hk ob 10900 names w := by
  intro os
  kernel_rfl
theorem mkF {K : PySem.W.Frag} {h : Heap} {mg : Str → Option Value} (X : K.In h) (G : h.Ns mainGlobals mg) (c : SaysX fb fn K) : Facts K mg := by
  constructor
  · exact He.free_ok X G (c.fact 0 (f := fB (.free "len")) rfl)
  · exact He.free_ok X G (c.fact 1 (f := fB (.free "min")) rfl)
  · exact He.free_ok X G (c.fact 2 (f := fB (.free "range")) rfl)
  · exact He.free_ok X G (c.fact 3 (f := fB (.free "int")) rfl)
  · exact He.free_ok X G (c.fact 4 (f := fB (.free "abs")) rfl)
  · exact He.glo_ok X G (c.fact 5 (f := fB (.glo "_law_take")) rfl)
  · exact He.free_ok X G (c.fact 6 (f := fB (.free "sorted")) rfl)
  · exact He.glo_ok X G (c.fact 7 (f := fB (.glo "_law_book")) rfl)
  · exact He.free_ok X G (c.fact 8 (f := fB (.free "max")) rfl)
  · exact He.free_ok X G (c.fact 9 (f := fB (.free "set")) rfl)
  · exact He.glo_ok X G (c.fact 10 (f := fB (.glo "BadScene")) rfl)
  · exact exmB_ok (c.fact 11 (f := exmB exL exSub "BadScene") rfl)
  · exact fldB_ok (c.fact 12 (f := fldB ["Scene"] "names") rfl)
  · exact exCl_ok (He.glo_ok X G (c.fact 10 (f := fB (.glo "BadScene")) rfl)) (c.fact 13 (f := fB (.exc "BadScene")) rfl)
  · exact fldB_ok (c.fact 14 (f := fldB ["Book"] "kinds") rfl)
  · exact He.glo_ok X G (c.fact 15 (f := fB (.glo "BadBook")) rfl)
  · exact exCl_ok (He.glo_ok X G (c.fact 15 (f := fB (.glo "BadBook")) rfl)) (c.fact 16 (f := fB (.exc "BadBook")) rfl)
  · exact fldB_ok (c.fact 17 (f := fldB ["Scene"] "book") rfl)
  · exact He.free_ok X G (c.fact 18 (f := fB (.free "enumerate")) rfl)
  · exact (fun z hz => exB_ok (List.all_eq_true.mp ((c.fact 19 (f := (fun K => exL.all fun c => exB c K)) rfl)) z hz))
  · exact kitB_ok (c.fact 20 (f := kitB exL exSub "HeldError") rfl)
  · exact He.free_ok X G (c.fact 21 (f := fB (.free "isinstance")) rfl)
  · exact He.glo_ok X G (c.fact 22 (f := fB (.glo "HeldError")) rfl)
  · exact kitBT_ok (c.fact 23 (f := kitBT exL "ValueError" (fun _ => true)) rfl)
  · exact He.free_ok X G (c.fact 24 (f := fB (.free "ValueError")) rfl)
  · exact kitB_ok (c.fact 25 (f := kitB exL exSub "BadBook") rfl)
  · exact He.glo_ok X G (c.fact 26 (f := fB (.glo "_law_draws")) rfl)
  · exact He.glo_ok X G (c.fact 27 (f := fB (.glo "_law_world")) rfl)
  · exact He.free_ok X G (c.fact 28 (f := fB (.free "list")) rfl)
  · exact He.free_ok X G (c.fact 29 (f := fB (.free "str")) rfl)
  · exact He.int_ok X G (c.fact 30 (f := fB (.int "MOST_SIGNS" (8))) rfl)
  · exact He.str_ok X G (c.fact 31 (f := fB (.str "LETTERS" "abcdefghijklmnopqrstuvwxyz")) rfl)
  · exact He.str_ok X G (c.fact 32 (f := fB (.str "SIGNS" "abcdefghijklmnopqrstuvwxyz0123456789")) rfl)
  · exact He.glo_ok X G (c.fact 33 (f := fB (.glo "is_word")) rfl)
  · exact He.free_ok X G (c.fact 34 (f := fB (.free "tuple")) rfl)
  · exact He.glo_ok X G (c.fact 35 (f := fB (.glo "are_words")) rfl)
  · exact ccB_ok (c.fact 36 (f := ccB "Signature" "MOST_TAKES" 3) rfl)
  · exact He.glo_ok X G (c.fact 37 (f := fB (.glo "Signature")) rfl)
  · exact He.glo_ok X G (c.fact 38 (f := fB (.glo "BadSignature")) rfl)
  · exact exCl_ok (He.glo_ok X G (c.fact 38 (f := fB (.glo "BadSignature")) rfl)) (c.fact 39 (f := fB (.exc "BadSignature")) rfl)
  · exact He.glo_ok X G (c.fact 40 (f := fB (.glo "is_sort")) rfl)
  · exact fldB_ok (c.fact 41 (f := fldB ["Signature"] "takes") rfl)
  · exact fldB_ok (c.fact 42 (f := fldB ["Signature"] "shares") rfl)
  · exact fldB_ok (c.fact 43 (f := fldB ["Signature"] "writes") rfl)
  · exact fldB_ok (c.fact 44 (f := fldB ["Book"] "routines") rfl)
  · exact ccB_ok (c.fact 45 (f := ccB "Book" "MOST_KINDS" 3) rfl)
  · exact He.glo_ok X G (c.fact 46 (f := fB (.glo "Book")) rfl)
  · exact He.glo_ok X G (c.fact 47 (f := fB (.glo "are_distinct_words")) rfl)
  · exact ccB_ok (c.fact 48 (f := ccB "Book" "MOST_FIELDS" 3) rfl)
  · exact ccB_ok (c.fact 49 (f := ccB "Book" "MOST_ROUTINES" 4) rfl)
  · exact He.free_ok X G (c.fact 50 (f := fB (.free "iter")) rfl)
  · exact (let z := He.ba (c.fact 51 (f := (fun K => fB (.cls "Signature") K && fB (.meth "Signature" "__iter__") K)) rfl); ⟨He.cls_ok z.1, He.meth_ok z.2⟩)
  · exact ccB_ok (c.fact 52 (f := ccB "Scene" "MOST_NAMES" 5) rfl)
  · exact He.glo_ok X G (c.fact 53 (f := fB (.glo "Scene")) rfl)
  · exact fldB_ok (c.fact 54 (f := fldB ["Scene"] "apart") rfl)
  · exact He.glo_ok X G (c.fact 55 (f := fB (.glo "written_routine")) rfl)
  · exact He.free_ok X G (c.fact 56 (f := fB (.free "dict")) rfl)
  · exact He.free_ok X G (c.fact 57 (f := fB (.free "bool")) rfl)
  · exact He.glo_ok X G (c.fact 58 (f := fB (.glo "_law_refused")) rfl)
  · exact (let z := He.ba (c.fact 59 (f := (fun K => fB (.cls "Scene") K && fB (.meth "Scene" "kind_of") K)) rfl); ⟨He.cls_ok z.1, He.meth_ok z.2⟩)
  · exact (let z := He.ba (c.fact 60 (f := (fun K => fB (.cls "Book") K && fB (.meth "Book" "fields_of") K)) rfl); ⟨He.cls_ok z.1, He.meth_ok z.2⟩)
  · exact (let z := He.ba (c.fact 61 (f := (fun K => fB (.cls "Scene") K && fB (.meth "Scene" "fields_of") K)) rfl); ⟨He.cls_ok z.1, He.meth_ok z.2⟩)
  · exact (let z := He.ba (c.fact 62 (f := (fun K => fB (.cls "Scene") K && fB (.meth "Scene" "rank") K)) rfl); ⟨He.cls_ok z.1, He.meth_ok z.2⟩)
  · exact He.mkr_ok (c.fact 63 (f := fB (.mkr "Signature")) rfl)
  · exact (let z := He.ba (c.fact 64 (f := (fun K => fB (.cls "Book") K && prB "Book" "sorts" K)) rfl); ⟨He.cls_ok z.1, prB_ok z.2⟩)
  · exact (let z := He.ba (c.fact 65 (f := (fun K => fB (.cls "Book") K && fB (.meth "Book" "has_room_for") K)) rfl); ⟨He.cls_ok z.1, He.meth_ok z.2⟩)
  · exact He.mkr_ok (c.fact 66 (f := fB (.mkr "Book")) rfl)
  · exact He.mkr_ok (c.fact 67 (f := fB (.mkr "Scene")) rfl)
  · exact (let z := He.ba (c.fact 68 (f := (fun K => fB (.cls "Scene") K && prB "Scene" "order" K)) rfl); ⟨He.cls_ok z.1, prB_ok z.2⟩)
  · exact (let z := He.ba (c.fact 69 (f := (fun K => fB (.cls "Book") K && fB (.meth "Book" "written") K)) rfl); ⟨He.cls_ok z.1, He.meth_ok z.2⟩)
  · exact (let z := He.ba (c.fact 70 (f := (fun K => fB (.cls "Scene") K && fB (.meth "Scene" "with_apart") K)) rfl); ⟨He.cls_ok z.1, He.meth_ok z.2⟩)
  · exact (let z := He.ba (c.fact 71 (f := (fun K => fB (.cls "Scene") K && fB (.meth "Scene" "with_book") K)) rfl); ⟨He.cls_ok z.1, He.meth_ok z.2⟩)
  · exact (c.fact 72 (f := (etB (kwdAt ("Scene", some "__init__") "apart"))) rfl)
  · exact (c.fact 73 (f := (etB (He.dflAt ("Book", some "__init__") 0))) rfl)
  · exact c.def_ 0 (d := d_law_draws) rfl
  · exact c.def_ 1 (d := d_law_take) rfl
  · exact c.def_ 2 (d := d_law_book) rfl
  · exact c.def_ 3 (d := d_law_world) rfl
  · exact c.def_ 4 (d := d_Scene_kind_of) rfl
  · exact c.def_ 5 (d := d_Book_fields_of) rfl
  · exact c.def_ 6 (d := d_Scene_fields_of) rfl
  · exact c.def_ 7 (d := d_Scene_rank) rfl
  · exact c.def_ 8 (d := d_law_refused) rfl
  · exact c.def_ 9 (d := d_is_word) rfl
  · exact c.def_ 10 (d := d_are_words) rfl
  · exact c.def_ 11 (d := d_is_sort) rfl
  · exact c.def_ 12 (d := d_SignatureX_initX) rfl
  · exact c.def_ 13 (d := d_are_distinct_words) rfl
  · exact c.def_ 14 (d := d_Book_sorts) rfl
  · exact c.def_ 15 (d := d_Book_has_room_for) rfl
  · exact c.def_ 16 (d := d_BookX_initX) rfl
  · exact c.def_ 17 (d := d_SceneX_initX) rfl
  · exact c.def_ 18 (d := d_Scene_order) rfl
  · exact c.def_ 19 (d := d_written_routine) rfl
  · exact c.def_ 20 (d := d_Book_written) rfl
  · exact c.def_ 21 (d := d_Scene_with_apart) rfl
  · exact c.def_ 22 (d := d_Scene_with_book) rfl
  · exact c.def_ 24 (d := d_SignatureX_iterX) rfl
theorem facts {P : Program} {w : World} {K : PySem.W.Frag} {h : Heap} {mg : Str → Option Value} {f : Addr} (X : K.In h) (G : h.Ns mainGlobals mg) (hfa : mg ("law" : Str) = some (.ref f)) (c : SaysX fb fn K) :
    ∃ fd : FuncData, (∀ (s : Shared) (v : Value), BindsTo s fd ⟨[v], []⟩ [("_law_script", v)]) ∧ ∀ base : Heap, K.In base → base.Ns mainGlobals mg → FnOk P w K mg base (L2.CX P w) 7 f fd ["_law_script"] (liftSp K 1 S_law) := by
  obtain ⟨fd, F⟩ := c.def_ 23 (d := d_law) rfl
  have e := hfa.symm.trans (He.glo_ok X G (c.fact 74 (f := fB (.glo "law")) rfl))
  cases e
  have b := FunD.bindsA (ps := ["_law_script"]) F fun _ _ _ _ _ _ us hl => match us, hl with | [_], _ => rfl
  exact ⟨fd, fun s v => b s [v] rfl, fun base _ _ => ok_law (mkF X G c) F⟩
end Vl
open PySem PySem.W PySem.Calls PyProof.Rows
theorem PySem.Challenge.cw_heldreads_k09_scene_parts_holds : PySem.Challenge.rw_heldreads_k09_scene_parts.Holds := by
  w_on; o_law
  refine HandSHeadRun.head_any (r := OpenLaw.row PySem.Challenge.rw_heldreads_k09_scene_parts) (q := view (OpenLaw.row PySem.Challenge.rw_heldreads_k09_scene_parts).prog [31]) (H := Vl.hk) (ob := Vl.ob) (M := 10900) (loose := Vl.names) (d := HandSHeadRun.topDef (OpenLaw.row PySem.Challenge.rw_heldreads_k09_scene_parts).prog 31) (kwd := []) Vl.ob_eq
    (by kernel_rfl) (fun s => by kernel_rfl) Vl.run (by kernel_rfl) (by kernel_rfl) (by kernel_rfl) (by rfl) (by first | assumption | decide +kernel) (by decide +kernel) ⟨rfl, rfl, rfl, rfl, rfl, by decide +kernel⟩ ?hw ?hc
  case hw => w_witness2
  case hc =>
    refine L2.walk_ofE (l := PySem.Challenge.rw_heldreads_k09_scene_parts) (n := 63) (k := 7) (x := "_law_script") (CX := Vl.CXw (PySem.Challenge.rw_heldreads_k09_scene_parts).prog) rfl (by decide) (by kernel_rfl) ⟨rfl, by decide, by decide⟩ ?F Vl.cxw_no
    intro w mg fa h Y G hmg0
    obtain ⟨K, KX, c⟩ := Y
    have hmg : mg ("law" : PySem.Str) = some (.ref fa) := by
      have e : (HandSHeadRun.topDef (OpenLaw.row PySem.Challenge.rw_heldreads_k09_scene_parts).prog 31).name = ("law" : PySem.Str) := by kernel_rfl
      rw [← e]
      exact hmg0
    obtain ⟨fd, hb, hF⟩ := Vl.facts (P := (PySem.Challenge.rw_heldreads_k09_scene_parts).prog) (w := w) KX G hmg c
    exact ⟨K, fd, Vl.liftSp K 1 Vl.S_law, KX, hb, Vl.top_sp (fun ms Φ R hl h => Vl.law_ok h), fun base h1 h2 => Vl.FnOk.w (hF base h1 h2)⟩
