import PyProof.Rows.All
import Wide.All
import OpenK.AllK
import Wide.FinOn
import KE.KStateDown
import HandS.Base
import HandS.Call
import HandS.List
import HandS.Comp
import HandS.Dict
import HandS.Iter
import HandS.Text
import HandS.Deep
import HandS.IsInst
import HandS.Style
import HandS.TupAny
import HandS.Flow
import HandS.Conv
import HandS.Ends
import HandS.Exc
import HandS.ExcOwn
import HandS.TryOnly
import HandS.More
import HandS.Words
import HandS.WordsList
import HandS.WordsExc
import HandS.Defaults
import HandS.Head0
import HandS.Head1
import HandS.Head2
import HandS.HeadEnd
import HandS.HeadHook1
import HandS.HeadHook2
import PySem.Challenge.RW_heldreads_k01_words
set_option Elab.async false
set_option linter.all false
set_option maxRecDepth 100000
set_option maxHeartbeats 4000000
set_option autoImplicit false
namespace Vl
open PySem PySem.Spec PyProof.Rows L2

/-- a value by what it holds -/
inductive D where
  | non | bl (b : Bool) | int (i : Int) | str (x : Str) | tup (xs : List D) | lst (xs : List D)
  | ro (xs : List D)
  | dct (kvs : List (Key × D)) | obj (c : Str) (fs : List (Str × D)) | ptr (v : V)

mutual
/-- v stands for d, by what G holds -/
inductive Rep (K : PySem.W.Frag) (G : Hp) : V → D → Prop
  | non : Rep K G .non .non
  | bl (b : Bool) : Rep K G (.bl b) (.bl b)
  | int (i : Int) : Rep K G (.int i) (.int i)
  | str (x : Str) : Rep K G (.str x) (.str x)
  | ptr (v : V) : Rep K G v (.ptr v)
  | tup {p : Addr} {xs : List V} {ds : List D} (h : SqT K G p xs) (l : xs.length ≤ sizeLine) (r : Reps K G xs ds) : Rep K G (.ref p) (.tup ds)
  | lst {p : Addr} {xs : List V} {ds : List D} (h : G p = some (.lst xs)) (l : xs.length ≤ sizeLine) (r : Reps K G xs ds) : Rep K G (.ref p) (.lst ds)
  | ro {p : Addr} {xs : List V} {ds : List D} (h : SqL K G p xs) (l : xs.length ≤ sizeLine) (r : Reps K G xs ds) : Rep K G (.ref p) (.ro ds)
  | dct {p : Addr} {kvs : List (Key × V)} {ds : List (Key × D)} (h : G p = some (.dK kvs)) (l : kvs.length ≤ sizeLine) (r : RepK K G kvs ds) : Rep K G (.ref p) (.dct ds)
  | obj {p dx : Addr} {c : Str} {fs : List (Str × V)} {ds : List (Str × D)} (h : G p = some (.ins (He.ga K c) dx fs)) (r : RepF K G fs ds) : Rep K G (.ref p) (.obj c ds)
inductive Reps (K : PySem.W.Frag) (G : Hp) : List V → List D → Prop
  | nil : Reps K G [] []
  | cons {v : V} {d : D} {vs : List V} {ds : List D} (h : Rep K G v d) (t : Reps K G vs ds) : Reps K G (v :: vs) (d :: ds)
inductive RepK (K : PySem.W.Frag) (G : Hp) : List (Key × V) → List (Key × D) → Prop
  | nil : RepK K G [] []
  | cons {k : Key} {v : V} {d : D} {vs : List (Key × V)} {ds : List (Key × D)} (h : Rep K G v d) (t : RepK K G vs ds) : RepK K G ((k, v) :: vs) ((k, d) :: ds)
inductive RepF (K : PySem.W.Frag) (G : Hp) : List (Str × V) → List (Str × D) → Prop
  | nil : RepF K G [] []
  | cons {k : Str} {v : V} {d : D} {vs : List (Str × V)} {ds : List (Str × D)} (h : Rep K G v d) (t : RepF K G vs ds) : RepF K G ((k, v) :: vs) ((k, d) :: ds)
end

section
variable {K : PySem.W.Frag} {G G' : Hp}
theorem same_rd (s : Same G G') {a : Addr} {u : HO} (h : Rd G a u) : Rd G' a u := by
  rcases h with h | ⟨o, h⟩
  · exact .inl (s _ _ h)
  · exact .inr ⟨o, s _ _ h⟩
theorem same_t (s : Same G G') {a : Addr} {xs : List V} (h : SqT K G a xs) : SqT K G' a xs := by
  rcases h with h | h
  · exact .inl (same_rd s h)
  · exact .inr h
theorem same_l (s : Same G G') {a : Addr} {xs : List V} (h : SqL K G a xs) : SqL K G' a xs := s.seq h
mutual
theorem Rep.mono (s : Same G G') : ∀ {v : V} {d : D}, Rep K G v d → Rep K G' v d
  | _, _, .non => .non
  | _, _, .bl b => .bl b
  | _, _, .int i => .int i
  | _, _, .str x => .str x
  | _, _, .ptr v => .ptr v
  | _, _, .tup h l r => .tup (same_t s h) l (Reps.mono s r)
  | _, _, .lst h l r => .lst (s _ _ h) l (Reps.mono s r)
  | _, _, .ro h l r => .ro (same_l s h) l (Reps.mono s r)
  | _, _, .dct h l r => .dct (s _ _ h) l (RepK.mono s r)
  | _, _, .obj h r => .obj (s _ _ h) (RepF.mono s r)
theorem Reps.mono (s : Same G G') : ∀ {v : List V} {d : List D}, Reps K G v d → Reps K G' v d
  | _, _, .nil => .nil
  | _, _, .cons h t => .cons (Rep.mono s h) (Reps.mono s t)
theorem RepK.mono (s : Same G G') : ∀ {v : List (Key × V)} {d : List (Key × D)}, RepK K G v d → RepK K G' v d
  | _, _, .nil => .nil
  | _, _, .cons h t => .cons (Rep.mono s h) (RepK.mono s t)
theorem RepF.mono (s : Same G G') : ∀ {v : List (Str × V)} {d : List (Str × D)}, RepF K G v d → RepF K G' v d
  | _, _, .nil => .nil
  | _, _, .cons h t => .cons (Rep.mono s h) (RepF.mono s t)
end
end

/-! ### cells, slots -/
inductive Cl where
  | lst (ds : List D) | dct (kvs : List (Key × D)) | ins (c : Str) (fs : List (Str × D))
def Cl.d : Cl → D
  | .lst ds => .lst ds
  | .dct kvs => .dct kvs
  | .ins c fs => .obj c fs
def ClOk (K : PySem.W.Frag) (G : Hp) (o : HO) : Cl → Prop
  | .lst ds => ∃ xs, o = .lst xs ∧ xs.length ≤ sizeLine ∧ Reps K G xs ds
  | .dct kvs => ∃ xs, o = .dK xs ∧ xs.length ≤ sizeLine ∧ RepK K G xs kvs
  | .ins c fs => ∃ dx xs, o = .ins (He.ga K c) dx xs ∧ RepF K G xs fs
theorem ClOk.mono {K : PySem.W.Frag} {G G' : Hp} {o : HO} (s : Same G G') : ∀ {c : Cl}, ClOk K G o c → ClOk K G' o c
  | .lst _, ⟨xs, e, l, r⟩ => ⟨xs, e, l, r.mono s⟩
  | .dct _, ⟨xs, e, l, r⟩ => ⟨xs, e, l, r.mono s⟩
  | .ins _ _, ⟨dx, xs, e, r⟩ => ⟨dx, xs, e, r.mono s⟩
theorem ClOk.rep {K : PySem.W.Frag} {G : Hp} {o : HO} {p : Addr} (h : G p = some o) : ∀ {c : Cl}, ClOk K G o c → Rep K G (.ref p) c.d
  | .lst _, ⟨xs, e, l, r⟩ => .lst (by rw [h, e]) l r
  | .dct _, ⟨xs, e, l, r⟩ => .dct (by rw [h, e]) l r
  | .ins _ _, ⟨dx, xs, e, r⟩ => .obj (by rw [h, e]) r
inductive SD where
  | un | im (d : D) | ow (c : Cl)
structure Bs where
  G : Hp
  H : Hp
  bo : Option (Nat × Addr)
structure EnvOk (K : PySem.W.Frag) (B : Bs) (G H : Hp) (σ : L2.St) (Γ : List SD) : Prop where
  len : Γ.length = σ.length
  gh : Same G H
  g0 : Same B.G G
  gn : ∀ a o, G a = some o → B.G a = some o ∨ B.H a = none
  fr : ∀ a o, B.H a = some o → (∀ (i : Nat), B.bo ≠ some (i, a)) → H a = some o
  im : ∀ (i : Nat) d, Γ[i]? = some (.im d) → ∃ v, σ[i]? = some (some v) ∧ Rep K G v d
  ow : ∀ (i : Nat) c, Γ[i]? = some (.ow c) → ∃ l o, σ[i]? = some (some (.ref l)) ∧ G l = none ∧ H l = some o ∧ ClOk K G o c ∧ (B.H l = none ∨ B.bo = some (i, l))
  sep : ∀ (i j : Nat) c c' l, Γ[i]? = some (.ow c) → Γ[j]? = some (.ow c') → σ[i]? = some (some (.ref l)) → σ[j]? = some (some (.ref l)) → i = j
  bo : ∀ (i : Nat) l, B.bo = some (i, l) → σ[i]? = some (some (.ref l)) ∧ ∃ c, Γ[i]? = some (.ow c)
/-- behind an expression -/
structure EvP (K : PySem.W.Frag) (B : Bs) (σ : L2.St) (G H : Hp) (Γ : List SD) (G' H' : Hp) (Γ' : List SD) : Prop where
  env : EnvOk K B G' H' σ Γ'
  gg : Same G G'
  gn : ∀ a o, G' a = some o → G a = some o ∨ H a = none
  hh : ∀ a o, H a = some o → (∀ (i : Nat) c, Γ[i]? = some (.ow c) → σ[i]? ≠ some (some (.ref a))) → H' a = some o
  sh : ∀ (i : Nat), (∃ c, Γ[i]? = some (.ow c)) ↔ (∃ c, Γ'[i]? = some (.ow c))
section
variable {K : PySem.W.Frag} {B : Bs} {σ : L2.St} {G H G1 H1 G2 H2 : Hp} {Γ Γ1 Γ2 : List SD}
theorem EvP.refl (e : EnvOk K B G H σ Γ) : EvP K B σ G H Γ G H Γ := ⟨e, Same.refl _, fun _ _ h => .inl h, fun _ _ h _ => h, fun _ => Iff.rfl⟩
theorem EvP.dom (p : EvP K B σ G H Γ G1 H1 Γ1) {a : Addr} {o : HO} (h : H a = some o) : ∃ o', H1 a = some o' := by
  by_cases q : ∃ (i : Nat) (c : Cl), Γ[i]? = some (.ow c) ∧ σ[i]? = some (some (.ref a))
  · obtain ⟨i, c, q1, q2⟩ := q
    obtain ⟨c', q3⟩ := (p.sh i).mp ⟨c, q1⟩
    obtain ⟨l, o', e1, _, e2, _⟩ := p.env.ow i c' q3
    rw [q2] at e1
    cases e1
    exact ⟨o', e2⟩
  · exact ⟨o, p.hh a o h fun i c q1 q2 => q ⟨i, c, q1, q2⟩⟩
theorem EvP.back (p : EvP K B σ G H Γ G1 H1 Γ1) {a : Addr} (h : H1 a = none) : H a = none := by
  cases e : H a with
  | none => rfl
  | some o =>
    obtain ⟨o', e'⟩ := p.dom e
    rw [h] at e'
    cases e'
theorem EvP.trans (p : EvP K B σ G H Γ G1 H1 Γ1) (q : EvP K B σ G1 H1 Γ1 G2 H2 Γ2) : EvP K B σ G H Γ G2 H2 Γ2 :=
  ⟨q.env, p.gg.trans q.gg, fun a o h => by
    rcases q.gn a o h with h | h
    · exact p.gn a o h
    · exact .inr (p.back h), fun a o h n => q.hh a o (p.hh a o h n) fun i c e1 => by
      obtain ⟨c', e2⟩ := (p.sh i).mpr ⟨c, e1⟩
      exact n i c' e2, fun i => (p.sh i).trans (q.sh i)⟩
/-- a new object of our own, frozen at once -/
theorem EnvOk.new (e : EnvOk K B G H σ Γ) {p : Addr} {o : HO} (h : H p = none) : EvP K B σ G H Γ (upd G p o) (upd H p o) Γ := by
  have gp : G p = none := e.gh.free h
  have s1 : Same G (upd G p o) := fun a u q => by rw [upd_ne (ne_of_none q gp)]; exact q
  have bh : B.H p = none := by
    cases q : B.H p with
    | none => rfl
    | some u =>
      by_cases z : ∃ i, B.bo = some (i, p)
      · obtain ⟨i, z⟩ := z
        obtain ⟨z1, c, z2⟩ := e.bo i p z
        obtain ⟨l, o', e1, _, e2, _⟩ := e.ow i c z2
        rw [z1] at e1
        cases e1
        rw [h] at e2
        cases e2
      · have z2 := e.fr p u q fun i w => z ⟨i, w⟩
        rw [h] at z2
        cases z2
  refine ⟨⟨e.len, fun a u q => ?_, e.g0.trans s1, fun a u q => ?_, fun a u q n => ?_, fun i d q => ?_, fun i c q => ?_, e.sep, e.bo⟩, s1, fun a u q => ?_, fun a u q _ => by rw [upd_ne (ne_of_none q h)]; exact q, fun _ => Iff.rfl⟩
  · by_cases z : a = p
    · subst z; rw [upd_same] at q ⊢; exact q
    · rw [upd_ne z] at q ⊢; exact e.gh a u q
  · by_cases z : a = p
    · subst z; exact .inr bh
    · rw [upd_ne z] at q; exact e.gn a u q
  · have z := e.fr a u q n
    rw [upd_ne (ne_of_none z h)]; exact z
  · obtain ⟨v, q1, q2⟩ := e.im i d q
    exact ⟨v, q1, q2.mono s1⟩
  · obtain ⟨l, o', q1, q2, q3, q4, q5⟩ := e.ow i c q
    have ne : l ≠ p := ne_of_none q3 h
    exact ⟨l, o', q1, by rw [upd_ne ne]; exact q2, by rw [upd_ne ne]; exact q3, q4.mono s1, q5⟩
  · by_cases z : a = p
    · subst z; exact .inr h
    · rw [upd_ne z] at q; exact .inl q
/-- a new cell, not frozen -/
theorem EnvOk.cell (e : EnvOk K B G H σ Γ) {p : Addr} {o : HO} (h : H p = none) : EvP K B σ G H Γ G (upd H p o) Γ := by
  refine ⟨⟨e.len, fun a u q => ?_, e.g0, e.gn, fun a u q n => ?_, e.im, fun i c q => ?_, e.sep, e.bo⟩, Same.refl _, fun a u q => .inl q, fun a u q _ => by rw [upd_ne (ne_of_none q h)]; exact q, fun _ => Iff.rfl⟩
  · rw [upd_ne (ne_of_none (e.gh a u q) h)]; exact e.gh a u q
  · have z := e.fr a u q n
    rw [upd_ne (ne_of_none z h)]; exact z
  · obtain ⟨l, o', q1, q2, q3, q4, q5⟩ := e.ow i c q
    have ne : l ≠ p := ne_of_none q3 h
    exact ⟨l, o', q1, q2, by rw [upd_ne ne]; exact q3, q4, q5⟩
/-- a cell that no slot holds, frozen -/
theorem EnvOk.freeze (e : EnvOk K B G H σ Γ) {p : Addr} {o : HO} (h : H p = some o) (g : G p = none) (bh : B.H p = none) (n : ∀ (i : Nat) c, Γ[i]? = some (.ow c) → σ[i]? ≠ some (some (.ref p))) : EnvOk K B (upd G p o) H σ Γ := by
  have s1 : Same G (upd G p o) := fun a u q => by rw [upd_ne (ne_of_none q g)]; exact q
  refine ⟨e.len, fun a u q => ?_, e.g0.trans s1, fun a u q => ?_, e.fr, fun i d q => ?_, fun i c q => ?_, e.sep, e.bo⟩
  · by_cases z : a = p
    · subst z; rw [upd_same] at q; cases q; exact h
    · rw [upd_ne z] at q; exact e.gh a u q
  · by_cases z : a = p
    · subst z; exact .inr bh
    · rw [upd_ne z] at q; exact e.gn a u q
  · obtain ⟨v, q1, q2⟩ := e.im i d q
    exact ⟨v, q1, q2.mono s1⟩
  · obtain ⟨l, o', q1, q2, q3, q4, q5⟩ := e.ow i c q
    have ne : l ≠ p := fun z => n i c q (by rw [q1, z])
    exact ⟨l, o', q1, by rw [upd_ne ne]; exact q2, q3, q4.mono s1, q5⟩
theorem EnvOk.bhNone (e : EnvOk K B G H σ Γ) {p : Addr} (h : H p = none) : B.H p = none := by
  cases q : B.H p with
  | none => rfl
  | some u =>
    by_cases z : ∃ i, B.bo = some (i, p)
    · obtain ⟨i, z⟩ := z
      obtain ⟨z1, c, z2⟩ := e.bo i p z
      obtain ⟨l, o', e1, _, e2, _⟩ := e.ow i c z2
      rw [z1] at e1
      cases e1
      rw [h] at e2
      cases e2
    · have z2 := e.fr p u q fun i w => z ⟨i, w⟩
      rw [h] at z2
      cases z2
theorem EnvOk.noOw (e : EnvOk K B G H σ Γ) {p : Addr} (h : H p = none) : ∀ (i : Nat) c, Γ[i]? = some (.ow c) → σ[i]? ≠ some (some (.ref p)) := fun i c q z => by
  obtain ⟨l, o', q1, _, q3, _⟩ := e.ow i c q
  rw [q1] at z
  cases z
  rw [h] at q3
  cases q3
end
end Vl

namespace Vl
open PySem PySem.Spec PyProof.Rows L2

/-! ### wishes -/
abbrev ExD := Str → Option (List (Str × D)) → List SD → Prop
abbrev TF := ExD → List SD → (D → List SD → Prop) → Prop
abbrev TTD := ExD → List SD → (Bool → List SD → Prop) → Prop
abbrev TAD := ExD → List SD → (List D → List SD → Prop) → Prop
abbrev TOD := ExD → List SD → (Cl → List SD → Prop) → Prop
def nvr : ExD := fun _ _ _ => False
def PlOk (K : PySem.W.Frag) (G H : Hp) : Option Addr → Option (List (Str × D)) → Prop
  | none, none => True
  | some dd, some fs => ∃ xs, H dd = some (.xd xs) ∧ RepF K G xs fs
  | _, _ => False
def ExOk (K : PySem.W.Frag) (B : Bs) (R : ExD) : WX := fun cls d σ H => ∃ c pl G Γ, cls = .ref (He.ga K c) ∧ EnvOk K B G H σ Γ ∧ PlOk K G H d pl ∧ R c pl Γ
abbrev Tk := Bs → ExD → Prop
abbrev TkD (X : Cx) : Tk := fun B R => Takes X (ExOk X.K B R)
abbrev Tk0 : Tk := fun _ R => R = nvr
theorem tk0_ok {X : Cx} {B : Bs} {R : ExD} (h : Tk0 B R) : TkD X B R := fun u s' ⟨_, _, _, _, _, _, _, _, _, _, _, _, _, _, _, _, c, pl, G, Γ, _, _, _, z⟩ => by
  rw [show R = nvr from h] at z
  exact z.elim

/-! ### judgements -/
def lE (K : PySem.W.Frag) (tk : Tk) (T : TF) : TE := fun σ H Q => ∃ (B : Bs) (R : ExD) (Γ : List SD) (G : Hp) (Φ : D → List SD → Prop), tk B R ∧ EnvOk K B G H σ Γ ∧ T R Γ Φ ∧
  ∀ v G' H' Γ' d, EvP K B σ G H Γ G' H' Γ' → Rep K G' v d → Φ d Γ' → Q v H'
def lT (K : PySem.W.Frag) (tk : Tk) (T : TTD) : TT := fun σ H Q => ∃ (B : Bs) (R : ExD) (Γ : List SD) (G : Hp) (Φ : Bool → List SD → Prop), tk B R ∧ EnvOk K B G H σ Γ ∧ T R Γ Φ ∧
  ∀ b G' H' Γ', EvP K B σ G H Γ G' H' Γ' → Φ b Γ' → Q b H'
def lA (K : PySem.W.Frag) (tk : Tk) (T : TAD) : TA := fun σ H Q => ∃ (B : Bs) (R : ExD) (Γ : List SD) (G : Hp) (Φ : List D → List SD → Prop), tk B R ∧ EnvOk K B G H σ Γ ∧ T R Γ Φ ∧
  ∀ vs G' H' Γ' ds, EvP K B σ G H Γ G' H' Γ' → Reps K G' vs ds → Φ ds Γ' → Q vs H'
/-- a fresh cell -/
def FrOk (K : PySem.W.Frag) (H G' H' : Hp) (v : V) (c : Cl) : Prop := ∃ l o, v = .ref l ∧ G' l = none ∧ H' l = some o ∧ ClOk K G' o c ∧ H l = none
def lO (K : PySem.W.Frag) (tk : Tk) (T : TOD) : TE := fun σ H Q => ∃ (B : Bs) (R : ExD) (Γ : List SD) (G : Hp) (Φ : Cl → List SD → Prop), tk B R ∧ EnvOk K B G H σ Γ ∧ T R Γ Φ ∧
  ∀ v G' H' Γ' c, EvP K B σ G H Γ G' H' Γ' → FrOk K H G' H' v c → Φ c Γ' → Q v H'
def PF (X : Cx) (tk : Tk) (e : Expr) (T : TF) : Prop := PE X e (lE X.K tk T)
def PFT (X : Cx) (tk : Tk) (e : Expr) (T : TTD) : Prop := PT X e (lT X.K tk T)
def PFW (X : Cx) (tk : Tk) (e : Expr) (T : TTD) : Prop := PW X e (lT X.K tk T)
def PFA (X : Cx) (tk : Tk) (es : List Expr) (T : TAD) : Prop := PA X es (lA X.K tk T)
def PFO (X : Cx) (tk : Tk) (e : Expr) (T : TOD) : Prop := PE X e (lO X.K tk T)

section
variable {X : Cx}
theorem pe_imp {e : Expr} {t t' : TE} (h : PE X e t) (i : ∀ σ H Q, t' σ H Q → t σ H Q) : PE X e t' := ⟨fun pins s σ H Q I w => h.run pins s σ H Q I (i σ H Q w)⟩
theorem pt_imp {e : Expr} {t t' : TT} (h : PT X e t) (i : ∀ σ H Q, t' σ H Q → t σ H Q) : PT X e t' := ⟨fun pins s σ H Q I w => h.run pins s σ H Q I (i σ H Q w)⟩
theorem pw_imp {e : Expr} {t t' : TT} (h : PW X e t) (i : ∀ σ H Q, t' σ H Q → t σ H Q) : PW X e t' := ⟨fun wh pins s σ H Q I w => h.run wh pins s σ H Q I (i σ H Q w)⟩
theorem pa_imp {e : List Expr} {t t' : TA} (h : PA X e t) (i : ∀ σ H Q, t' σ H Q → t σ H Q) : PA X e t' := ⟨fun pos pins s σ H Q I w => h.run pos pins s σ H Q I (i σ H Q w)⟩
theorem ps_imp {e : Stmt} {t t' : TS} (h : PS X e t) (i : ∀ D σ H, t' D σ H → t D σ H) : PS X e t' := ⟨fun pins s σ H D I w => h.run pins s σ H D I (i D σ H w)⟩
theorem pss_imp {e : List Stmt} {t t' : TS} (h : PSs X e t) (i : ∀ D σ H, t' D σ H → t D σ H) : PSs X e t' := ⟨fun pins s σ H D I w => h.run pins s σ H D I (i D σ H w)⟩
end

/-! ### an extension by frozen objects -/
structure Ext (G H G' H' : Hp) : Prop where
  gg : Same G G'
  hh : Same H H'
  gh : Same G' H'
  gn : ∀ a o, G' a = some o → G a = some o ∨ H a = none
theorem Ext.refl {G H : Hp} (s : Same G H) : Ext G H G H := ⟨Same.refl _, Same.refl _, s, fun _ _ h => .inl h⟩
theorem Ext.new {G H : Hp} (s : Same G H) {p : Addr} {o : HO} (h : H p = none) : Ext G H (upd G p o) (upd H p o) := by
  have gp : G p = none := s.free h
  refine ⟨fun a u q => by rw [upd_ne (ne_of_none q gp)]; exact q, fun a u q => by rw [upd_ne (ne_of_none q h)]; exact q, fun a u q => ?_, fun a u q => ?_⟩
  · by_cases z : a = p
    · subst z; rw [upd_same] at q ⊢; exact q
    · rw [upd_ne z] at q ⊢; exact s a u q
  · by_cases z : a = p
    · subst z; exact .inr h
    · rw [upd_ne z] at q; exact .inl q
theorem Ext.trans {G H G1 H1 G2 H2 : Hp} (p : Ext G H G1 H1) (q : Ext G1 H1 G2 H2) : Ext G H G2 H2 :=
  ⟨p.gg.trans q.gg, p.hh.trans q.hh, q.gh, fun a o h => by
    rcases q.gn a o h with h | h
    · exact p.gn a o h
    · exact .inr (p.hh.free h)⟩
section
variable {K : PySem.W.Frag} {B : Bs} {σ : L2.St} {G H G1 H1 G2 H2 : Hp} {Γ Γ1 Γ2 : List SD}
theorem EnvOk.ext (e : EnvOk K B G H σ Γ) (x : Ext G H G1 H1) : EvP K B σ G H Γ G1 H1 Γ := by
  refine ⟨⟨e.len, x.gh, e.g0.trans x.gg, fun a u q => ?_, fun a u q n => x.hh a u (e.fr a u q n), fun i d q => ?_, fun i c q => ?_, e.sep, e.bo⟩, x.gg, x.gn, fun a u q _ => x.hh a u q, fun _ => Iff.rfl⟩
  · rcases x.gn a u q with q | q
    · exact e.gn a u q
    · exact .inr (e.bhNone q)
  · obtain ⟨v, q1, q2⟩ := e.im i d q
    exact ⟨v, q1, q2.mono x.gg⟩
  · obtain ⟨l, o', q1, q2, q3, q4, q5⟩ := e.ow i c q
    refine ⟨l, o', q1, ?_, x.hh _ _ q3, q4.mono x.gg, q5⟩
    cases z : G1 l with
    | none => rfl
    | some u =>
      rcases x.gn l u z with z | z
      · rw [q2] at z; cases z
      · rw [q3] at z; cases z
end
/-- what a pure operation leaves -/
def Out (K : PySem.W.Frag) (G H : Hp) (k : D → Prop) (Q : VK) : Prop := ∀ v d G' H', Ext G H G' H' → Rep K G' v d → k d → Q v H'

/-! ### names, constants -/
def tVarD (i : Nat) : TF := fun _ Γ Φ => match Γ[i]? with
  | some (.im d) => Φ d Γ
  | _ => False
def tCD (d : D) : TF := fun _ Γ Φ => Φ d Γ
section
variable {X : Cx} {tk : Tk}
theorem pf_var (i : Nat) {x : Str} {pos : Pos} (hN : X.N[i]? = some x := by rfl) (hv : Vis X.env.scope x := by first | exact Or.inl rfl | exact Or.inr (Or.inl rfl) | exact Or.inr (Or.inr rfl)) (hd : (x == ("__debug__" : Str)) = false := by decide)
    (hcd : (x == ("__classdict__" : Str)) = false := by decide) : PF X tk (.Name x pos) (tVarD i) := pe_imp (pe_var hN hv hd hcd) fun σ H Q ⟨B, R, Γ, G, Φ, t, e, h, k⟩ => by
  unfold tVarD at h
  split at h
  · rename_i d q
    obtain ⟨v, q1, q2⟩ := e.im i d q
    exact ⟨v, q1, k v G H Γ d (EvP.refl e) q2 h⟩
  · exact h.elim
theorem pf_c {e : Expr} {v : V} {d : D} (h : PE X e (tC v)) (r : ∀ G, Rep X.K G v d) : PF X tk e (tCD d) := pe_imp h fun σ H Q ⟨B, R, Γ, G, Φ, t, e, h, k⟩ => k v G H Γ d (EvP.refl e) (r G) h
theorem pf_int {i : Int} {j pos} : PF X tk (.Constant (.int i) j pos) (tCD (.int i)) := pf_c pe_int fun _ => .int i
theorem pf_bl {b : Bool} {j pos} : PF X tk (.Constant (.bool b) j pos) (tCD (.bl b)) := pf_c pe_bl fun _ => .bl b
theorem pf_non {j pos} : PF X tk (.Constant .none j pos) (tCD .non) := pf_c pe_non fun _ => .non
theorem pf_str {x : Str} {j pos} : PF X tk (.Constant (.str x) j pos) (tCD (.str x)) := pf_c pe_str fun _ => .str x
theorem pf_gint {x : Str} {i : Int} {pos : Pos} (hm : ∃ t, X.mg x = some (.int i t)) (hg : Gl X x := by rfl) (hd : (x == ("__debug__" : Str)) = false := by decide) : PF X tk (.Name x pos) (tCD (.int i)) := by
  obtain ⟨t, hm⟩ := hm
  exact pf_c (v := V.int i) (pe_glob hg hm ⟨t, rfl⟩ hd) fun _ => .int i
theorem pf_gstr {x z : Str} {pos : Pos} (hm : ∃ t, X.mg x = some (.str z t)) (hg : Gl X x := by rfl) (hd : (x == ("__debug__" : Str)) = false := by decide) : PF X tk (.Name x pos) (tCD (.str z)) := by
  obtain ⟨t, hm⟩ := hm
  exact pf_c (v := V.str z) (pe_glob hg hm ⟨t, rfl⟩ hd) fun _ => .str z
end

/-! ### operators -/
def OpD (K : PySem.W.Frag) (r : R2) (f : D → D → (D → Prop) → Prop) : Prop := ∀ (G H : Hp) (x y : V) (a b : D) (k : D → Prop) (Q : VK), Same G H → Rep K G x a → Rep K G y b → f a b k → Out K G H k Q → r x y H Q
def tBin (f : D → D → (D → Prop) → Prop) (Ta Tb : TF) : TF := fun R Γ Φ => Ta R Γ fun a Γ1 => Tb R Γ1 fun b Γ2 => f a b fun d => Φ d Γ2
section
variable {X : Cx} {tk : Tk} {a b : Expr} {Ta Tb : TF} {pos : Pos}
theorem bin_core {r : R2} {f : D → D → (D → Prop) → Prop} (hf : OpD X.K r f) {σ : L2.St} {H : Hp} {Q : VK} (h : lE X.K tk (tBin f Ta Tb) σ H Q) : tOp r (lE X.K tk Ta) (lE X.K tk Tb) σ H Q := by
  obtain ⟨B, R, Γ, G, Φ, t, e, h, k⟩ := h
  refine ⟨B, R, Γ, G, _, t, e, h, fun v1 G1 H1 Γ1 d1 p1 r1 h1 => ?_⟩
  refine ⟨B, R, Γ1, G1, _, t, p1.env, h1, fun v2 G2 H2 Γ2 d2 p2 r2 h2 => ?_⟩
  exact hf G2 H2 v1 v2 d1 d2 _ Q p2.env.gh (r1.mono p2.gg) r2 h2 fun v d G' H' x rd kd => k v G' H' Γ2 d ((p1.trans p2).trans (p2.env.ext x)) rd kd
theorem pf_op {op : Operator} {r : R2} {f : D → D → (D → Prop) → Prop} (ho : OpR X (binaryOp op) r) (hf : OpD X.K r f) (ha : PF X tk a Ta) (hb : PF X tk b Tb) : PF X tk (.BinOp a op b pos) (tBin f Ta Tb) :=
  pe_imp (pe_op ho ha hb) fun σ H Q h => bin_core hf h
theorem pf_cmp {op : CmpOp} {r : R2} {f : D → D → (D → Prop) → Prop} (ho : OpR X (compareOp op) r) (hf : OpD X.K r f) (ha : PF X tk a Ta) (hb : PF X tk b Tb) (hm : behindInMarks op b = false) : PF X tk (.Compare a [op] [b] pos) (tBin f Ta Tb) :=
  pe_imp (pe_cmpR ho ha hb hm) fun σ H Q h => bin_core hf h
/-- a comparison as a test -/
def tBinT (f : D → D → (D → Prop) → Prop) (Ta Tb : TF) : TTD := fun R Γ Φ => Ta R Γ fun a Γ1 => Tb R Γ1 fun b Γ2 => f a b fun d => match d with
  | .bl c => Φ c Γ2
  | _ => False
theorem pft_cmp {op : CmpOp} {r : R2} {f : D → D → (D → Prop) → Prop} (ho : OpR X (compareOp op) r) (hf : OpD X.K r f) (ha : PF X tk a Ta) (hb : PF X tk b Tb) (hm : behindInMarks op b = false) : PFT X tk (.Compare a [op] [b] pos) (tBinT f Ta Tb) :=
  pt_imp (pt_cmpR ho ha hb hm) fun σ H Q ⟨B, R, Γ, G, Φ, t, e, h, k⟩ => bin_core (Q := fun x H' => ∃ c, x = .bl c ∧ Q c H') hf ⟨B, R, Γ, G, fun d Γ' => (match d with
  | .bl c => Φ c Γ'
  | _ => False), t, e, h, fun v G' H' Γ' d p rd hd => by
    cases rd with
    | bl c => exact ⟨c, rfl, k c G' H' Γ' p hd⟩
    | _ => exact hd.elim⟩

def dI (g : Int → Int → Int) : D → D → (D → Prop) → Prop
  | .int i, .int j, k => k (.int (g i j))
  | _, _, _ => False
def dIC (C : Int → Int → Prop) (g : Int → Int → Int) : D → D → (D → Prop) → Prop
  | .int i, .int j, k => C i j ∧ k (.int (g i j))
  | _, _, _ => False
def dB (g : Int → Int → Bool) : D → D → (D → Prop) → Prop
  | .int i, .int j, k => k (.bl (g i j))
  | _, _, _ => False
theorem opd_I {K : PySem.W.Frag} {g : Int → Int → Int} {C : Int → Int → Prop} : OpD K (rI C fun i j => .int (g i j)) (dIC C g) := by
  intro G H x y a b k Q s ra rb h o
  cases ra with
  | int i => cases rb with
    | int j => exact ⟨i, j, rfl, rfl, h.1, o _ _ _ _ (Ext.refl s) (.int _) h.2⟩
    | _ => exact h.elim
  | _ => exact h.elim
theorem opd_I0 {K : PySem.W.Frag} {g : Int → Int → Int} : OpD K (rI0 fun i j => .int (g i j)) (dI g) := by
  intro G H x y a b k Q s ra rb h o
  cases ra with
  | int i => cases rb with
    | int j => exact ⟨i, j, rfl, rfl, o _ _ _ _ (Ext.refl s) (.int _) h⟩
    | _ => exact h.elim
  | _ => exact h.elim
theorem opd_B0 {K : PySem.W.Frag} {g : Int → Int → Bool} : OpD K (rI0 fun i j => .bl (g i j)) (dB g) := by
  intro G H x y a b k Q s ra rb h o
  cases ra with
  | int i => cases rb with
    | int j => exact ⟨i, j, rfl, rfl, o _ _ _ _ (Ext.refl s) (.bl _) h⟩
    | _ => exact h.elim
  | _ => exact h.elim
end

/-! ### + of everything -/
def dAdd : D → D → (D → Prop) → Prop
  | .int i, .int j, k => k (.int (i + j))
  | .str x, .str y, k => x.length + y.length ≤ sizeLine ∧ k (.str (x ++ y))
  | .tup xs, .tup ys, k => xs.length + ys.length ≤ sizeLine ∧ k (.tup (xs ++ ys))
  | .lst xs, .lst ys, k => xs.length + ys.length ≤ sizeLine ∧ k (.lst (xs ++ ys))
  | _, _, _ => False
theorem Reps.length {K : PySem.W.Frag} {G : Hp} : ∀ {xs : List V} {ds : List D}, Reps K G xs ds → xs.length = ds.length
  | _, _, .nil => rfl
  | _, _, .cons _ t => congrArg (· + 1) t.length
theorem Reps.append {K : PySem.W.Frag} {G : Hp} : ∀ {xs ys : List V} {ds es : List D}, Reps K G xs ds → Reps K G ys es → Reps K G (xs ++ ys) (ds ++ es)
  | _, _, _, _, .nil, s => s
  | _, _, _, _, .cons h t, s => .cons h (t.append s)
theorem Reps.get {K : PySem.W.Frag} {G : Hp} : ∀ {xs : List V} {ds : List D} {i : Nat} {d : D}, Reps K G xs ds → ds[i]? = some d → ∃ v, xs[i]? = some v ∧ Rep K G v d
  | _, _, _, _, .nil, e => by simp at e
  | _, _, 0, d, .cons h t, e => ⟨_, rfl, by simp at e; subst e; exact h⟩
  | _, _, i + 1, d, .cons h t, e => by
    obtain ⟨v, q, r⟩ := t.get (i := i) (d := d) (by simpa using e)
    exact ⟨v, by simpa using q, r⟩
theorem Reps.getV {K : PySem.W.Frag} {G : Hp} : ∀ {xs : List V} {ds : List D} {i : Nat} {v : V}, Reps K G xs ds → xs[i]? = some v → ∃ d, ds[i]? = some d ∧ Rep K G v d
  | _, _, _, _, .nil, e => by simp at e
  | _, _, 0, d, .cons h t, e => ⟨_, rfl, by simp at e; subst e; exact h⟩
  | _, _, i + 1, d, .cons h t, e => by
    obtain ⟨v, q, r⟩ := t.getV (i := i) (v := d) (by simpa using e)
    exact ⟨v, by simpa using q, r⟩
theorem Reps.take {K : PySem.W.Frag} {G : Hp} : ∀ {xs : List V} {ds : List D} (n : Nat), Reps K G xs ds → Reps K G (xs.take n) (ds.take n)
  | _, _, 0, _ => .nil
  | _, _, _ + 1, .nil => .nil
  | _, _, n + 1, .cons h t => .cons h (t.take n)
theorem Reps.drop {K : PySem.W.Frag} {G : Hp} : ∀ {xs : List V} {ds : List D} (n : Nat), Reps K G xs ds → Reps K G (xs.drop n) (ds.drop n)
  | _, _, 0, r => r
  | _, _, _ + 1, .nil => .nil
  | _, _, n + 1, .cons _ t => t.drop n
theorem Reps.set {K : PySem.W.Frag} {G : Hp} {v : V} {d : D} (r : Rep K G v d) : ∀ {xs : List V} {ds : List D} (i : Nat), Reps K G xs ds → Reps K G (xs.set i v) (ds.set i d)
  | _, _, _, .nil => .nil
  | _, _, 0, .cons _ t => .cons r t
  | _, _, i + 1, .cons q t => .cons q (Reps.set r i t)
theorem Reps.eraseIdx {K : PySem.W.Frag} {G : Hp} : ∀ {xs : List V} {ds : List D} (i : Nat), Reps K G xs ds → Reps K G (xs.eraseIdx i) (ds.eraseIdx i)
  | _, _, _, .nil => .nil
  | _, _, 0, .cons _ t => t
  | _, _, i + 1, .cons q t => .cons q (t.eraseIdx i)
theorem Reps.inv {K : PySem.W.Frag} {G : Hp} {xs ys : List V} {ds : List D} (a : Reps K G xs ds) (h : xs = ys) : Reps K G ys ds := h ▸ a
end Vl

namespace Vl
open PySem PySem.Spec PyProof.Rows L2

/-! ### operators' rules -/
section
variable {K : PySem.W.Frag}
theorem opd_or {r r' : R2} {f : D → D → (D → Prop) → Prop} (h : ∀ (G H : Hp) (x y : V) (a b : D) (k : D → Prop) (Q : VK), Same G H → Rep K G x a → Rep K G y b → f a b k → Out K G H k Q → r x y H Q ∨ r' x y H Q) : OpD K (fun x y H Q => r x y H Q ∨ r' x y H Q) f := h
theorem Out.here {G H : Hp} {k : D → Prop} {Q : VK} (o : Out K G H k Q) (s : Same G H) {v : V} {d : D} (r : Rep K G v d) (h : k d) : Q v H := o v d G H (Ext.refl s) r h
theorem Out.new {G H : Hp} {k : D → Prop} {Q : VK} (o : Out K G H k Q) (s : Same G H) {p : Addr} {u : HO} (hp : H p = none) {v : V} {d : D} (r : Rep K (upd G p u) v d) (h : k d) : Q v (upd H p u) := o v d _ _ (Ext.new s hp) r h
theorem Reps.new {G H : Hp} (s : Same G H) {p : Addr} {u : HO} (hp : H p = none) {xs : List V} {ds : List D} (r : Reps K G xs ds) : Reps K (upd G p u) xs ds := r.mono (Ext.new s hp).gg
def rAddAll (K : PySem.W.Frag) : R2 := fun x y H Q => (rI0 (fun i j => .int (i + j)) x y H Q ∨ (∃ i j, x = .str i ∧ y = .str j ∧ i.length + j.length ≤ sizeLine ∧ Q (.str (i ++ j)) H)) ∨ (rCatA K x y H Q ∨ rCat x y H Q)
theorem op_addAll {X : Cx} : OpR X (binaryOp .Add) (rAddAll X.K) := (op_add.or op_add_str).or (op_catA.or op_cat)
theorem opd_add : OpD K (rAddAll K) dAdd := by
  intro G H x y a b k Q s ra rb h o
  cases ra with
  | int i => cases rb with
    | int j => exact .inl (.inl ⟨i, j, rfl, rfl, o.here s (.int _) h⟩)
    | _ => exact h.elim
  | str i => cases rb with
    | str j => exact .inl (.inr ⟨i, j, rfl, rfl, h.1, o.here s (.str _) h.2⟩)
    | _ => exact h.elim
  | @tup p xs ds hp l r => cases rb with
    | @tup q ys es hq l2 r2 =>
      obtain ⟨h1, h2⟩ : ds.length + es.length ≤ sizeLine ∧ k (.tup (ds ++ es)) := h
      have hz : xs.length + ys.length ≤ sizeLine := by rw [r.length, r2.length]; exact h1
      refine .inr (.inl ⟨p, q, xs, ys, rfl, rfl, same_t s hp, same_t s hq, hz, fun z => ?_, fun _ z => ?_, fun _ _ t ht => ?_⟩)
      · subst z
        cases r
        exact o.here s (.tup hq l2 r2) h2
      · subst z
        cases r2
        rw [List.append_nil] at h2
        exact o.here s (.tup hp l r) h2
      · exact o.new s ht (.tup (SqT.of upd_same) (by rw [List.length_append]; exact hz) ((r.append r2).new s ht)) h2
    | _ => exact h.elim
  | @lst p xs ds hp l r => cases rb with
    | @lst q ys es hq l2 r2 =>
      obtain ⟨h1, h2⟩ : ds.length + es.length ≤ sizeLine ∧ k (.lst (ds ++ es)) := h
      have hz : xs.length + ys.length ≤ sizeLine := by rw [r.length, r2.length]; exact h1
      refine .inr (.inr ⟨p, q, xs, ys, rfl, rfl, s _ _ hp, s _ _ hq, hz, fun t ht => ?_⟩)
      exact o.new s ht (.lst upd_same (by rw [List.length_append]; exact hz) ((r.append r2).new s ht)) h2
    | _ => exact h.elim
  | _ => exact h.elim
/-- c in s, one sign -/
def dInS (neg : Bool) : D → D → (D → Prop) → Prop
  | .str i, .str z, k => ∃ c, i = ⟨#[c]⟩ ∧ k (.bl (if neg then !decide (c ∈ z.cps.toList) else decide (c ∈ z.cps.toList)))
  | _, _, _ => False
theorem opd_inS : OpD K (fun x y H Q => ∃ (c : Nat) (z : Str), x = .str ⟨#[c]⟩ ∧ y = .str z ∧ Q (.bl (decide (c ∈ z.cps.toList))) H) (dInS false) := by
  intro G H x y a b k Q s ra rb h o
  cases ra with
  | str i => cases rb with
    | str j =>
      obtain ⟨c, e, h⟩ := h
      subst e
      exact ⟨c, j, rfl, rfl, o.here s (.bl _) h⟩
    | _ => exact h.elim
  | _ => exact h.elim
theorem opd_notInS : OpD K (fun x y H Q => ∃ (c : Nat) (z : Str), x = .str ⟨#[c]⟩ ∧ y = .str z ∧ Q (.bl (!decide (c ∈ z.cps.toList))) H) (dInS true) := by
  intro G H x y a b k Q s ra rb h o
  cases ra with
  | str i => cases rb with
    | str j =>
      obtain ⟨c, e, h⟩ := h
      subst e
      exact ⟨c, j, rfl, rfl, o.here s (.bl _) h⟩
    | _ => exact h.elim
  | _ => exact h.elim
end

/-! ### data of any depth: ==, in -/
mutual
def D.pd : D → Option PyData
  | .non => some .none
  | .bl b => some (.bool b)
  | .int i => some (.int i)
  | .str x => some (.str x)
  | .tup xs => (Ds.pd xs).map .tuple
  | .lst xs => (Ds.pd xs).map .list
  | .ro xs => (Ds.pd xs).map .list
  | .dct _ => none
  | .obj _ _ => none
  | .ptr _ => none
def Ds.pd : List D → Option (List PyData)
  | [] => some []
  | x :: xs => (D.pd x).bind fun a => (Ds.pd xs).map (a :: ·)
end
section
variable {K : PySem.W.Frag} {G H : Hp}
mutual
theorem Rep.dp (s : Same G H) : ∀ {v : V} {d : D} {p : PyData}, Rep K G v d → d.pd = some p → Dp K H v p
  | _, _, p, .non, e => by simp only [D.pd, Option.some.injEq] at e; subst e; exact .non
  | _, _, p, .bl b, e => by simp only [D.pd, Option.some.injEq] at e; subst e; exact .bl b
  | _, _, p, .int i, e => by simp only [D.pd, Option.some.injEq] at e; subst e; exact .int i
  | _, _, p, .str x, e => by simp only [D.pd, Option.some.injEq] at e; subst e; exact .str x
  | _, _, p, .ptr v, e => by simp only [D.pd] at e; cases e
  | _, _, p, .dct _ _ _, e => by simp only [D.pd] at e; cases e
  | _, _, p, .obj _ _, e => by simp only [D.pd] at e; cases e
  | _, _, p, .tup h l r, e => by
    simp only [D.pd] at e
    obtain ⟨ps, e1, e2⟩ := Option.map_eq_some_iff.mp e
    subst e2
    exact .tup (same_t s h) (Reps.dp s r e1)
  | _, _, p, .lst h l r, e => by
    simp only [D.pd] at e
    obtain ⟨ps, e1, e2⟩ := Option.map_eq_some_iff.mp e
    subst e2
    exact .lst (SqL.of (s _ _ h)) (Reps.dp s r e1)
  | _, _, p, .ro h l r, e => by
    simp only [D.pd] at e
    obtain ⟨ps, e1, e2⟩ := Option.map_eq_some_iff.mp e
    subst e2
    exact .lst (same_l s h) (Reps.dp s r e1)
theorem Reps.dp (s : Same G H) : ∀ {v : List V} {d : List D} {p : List PyData}, Reps K G v d → Ds.pd d = some p → DpAll K H v p
  | _, _, p, .nil, e => by simp only [Ds.pd, Option.some.injEq] at e; subst e; exact .nil
  | _, _, p, .cons h t, e => by
    simp only [Ds.pd] at e
    obtain ⟨a, e1, e2⟩ := Option.bind_eq_some_iff.mp e
    obtain ⟨b, e3, e4⟩ := Option.map_eq_some_iff.mp e2
    subst e4
    exact .cons (Rep.dp s h e1) (Reps.dp s t e3)
end
end
/-- a == b, a != b -/
def dEq (neg : Bool) (a b : D) (k : D → Prop) : Prop := ∃ p q, a.pd = some p ∧ b.pd = some q ∧ SeqAt.shaped p = true ∧ SeqAt.shaped q = true ∧ k (.bl (if neg then !PyData.eqv p q else PyData.eqv p q))
section
variable {K : PySem.W.Frag}
theorem opd_eq : OpD K (rEqD K) (dEq false) := fun G H x y a b k Q s ra rb ⟨p, q, h1, h2, h3, h4, h⟩ o => ⟨p, q, ra.dp s h1, rb.dp s h2, h3, h4, o.here s (.bl _) h⟩
theorem opd_ne : OpD K (rNeD K) (dEq true) := fun G H x y a b k Q s ra rb ⟨p, q, h1, h2, h3, h4, h⟩ o => ⟨p, q, ra.dp s h1, rb.dp s h2, h3, h4, o.here s (.bl _) h⟩
end
/-- x in a list, a tuple of data of any depth -/
def rInAll (K : PySem.W.Frag) (neg : Bool) : R2 := fun x y H Q => ∃ d ds, Dp K H x d ∧ (Dp K H y (.list ds) ∨ Dp K H y (.tuple ds)) ∧ SeqAt.shaped d = true ∧ SeqAt.shaped (.list ds) = true ∧ Q (.bl (if neg then !(ds.any fun z => PyData.eqv z d) else ds.any fun z => PyData.eqv z d)) H
theorem shaped_tup {ds : List PyData} (h : SeqAt.shaped (.list ds) = true) : SeqAt.shaped (.tuple ds) = true := by
  unfold SeqAt.shaped at h ⊢
  simpa [PyData.canLay0, PyData.depth] using h
theorem op_inAll {X : Cx} (hu : X.A.units + 65 < cLine) : OpR X (compareOp .In) (rInAll X.K false) := by
  intro pins s σ H x y v u Q I rx ry h
  obtain ⟨d, ds, hd, he, sd, se, q⟩ := h
  rcases he with he | he
  · exact op_inD hu pins s σ H x y v u Q I rx ry ⟨d, ds, hd, he, sd, se, q⟩
  · obtain ⟨as, r1⟩ := Dp.reads I d x v hd rx
    obtain ⟨bs, r2⟩ := Dp.reads I (.tuple ds) y u he ry
    exact SeqAt.in_tuple_reads r2 r1 (SeqAt.canLay_of_shaped se) (SeqAt.canLay_of_shaped sd) (room_in_shaped sd hu) ⟨.bl _, H, I, rfl, q⟩
theorem op_notInAll {X : Cx} (hu : X.A.units + 65 < cLine) : OpR X (compareOp .NotIn) (rInAll X.K true) := by
  intro pins s σ H x y v u Q I rx ry h
  obtain ⟨d, ds, hd, he, sd, se, q⟩ := h
  rcases he with he | he
  · exact op_notInD hu pins s σ H x y v u Q I rx ry ⟨d, ds, hd, he, sd, se, q⟩
  · obtain ⟨as, r1⟩ := Dp.reads I d x v hd rx
    obtain ⟨bs, r2⟩ := Dp.reads I (.tuple ds) y u he ry
    exact SeqAt.notIn_tuple_reads r2 r1 (SeqAt.canLay_of_shaped se) (SeqAt.canLay_of_shaped sd) (room_in_shaped sd hu) ⟨.bl _, H, I, rfl, q⟩
end Vl

namespace Vl
open PySem PySem.Spec PyProof.Rows L2

def dIn (neg : Bool) (a b : D) (k : D → Prop) : Prop := match b with
  | .str z => dInS neg a (.str z) k
  | .tup xs => ∃ p ps, a.pd = some p ∧ Ds.pd xs = some ps ∧ SeqAt.shaped p = true ∧ SeqAt.shaped (.list ps) = true ∧ k (.bl (if neg then !(ps.any fun z => PyData.eqv z p) else ps.any fun z => PyData.eqv z p))
  | .lst xs => ∃ p ps, a.pd = some p ∧ Ds.pd xs = some ps ∧ SeqAt.shaped p = true ∧ SeqAt.shaped (.list ps) = true ∧ k (.bl (if neg then !(ps.any fun z => PyData.eqv z p) else ps.any fun z => PyData.eqv z p))
  | _ => False
section
variable {K : PySem.W.Frag} {X : Cx}
theorem opd_in : OpD K (fun x y H Q => (∃ (c : Nat) (z : Str), x = .str ⟨#[c]⟩ ∧ y = .str z ∧ Q (.bl (decide (c ∈ z.cps.toList))) H) ∨ rInAll K false x y H Q) (dIn false) := by
  intro G H x y a b k Q s ra rb h o
  cases rb with
  | str z => exact .inl (opd_inS G H x _ a _ k Q s ra (.str z) h o)
  | tup hp l r =>
    obtain ⟨p, ps, h1, h2, h3, h4, h⟩ := h
    exact .inr ⟨p, ps, ra.dp s h1, .inr (.tup (same_t s hp) (r.dp s h2)), h3, h4, o.here s (.bl _) h⟩
  | lst hp l r =>
    obtain ⟨p, ps, h1, h2, h3, h4, h⟩ := h
    exact .inr ⟨p, ps, ra.dp s h1, .inl (.lst (SqL.of (s _ _ hp)) (r.dp s h2)), h3, h4, o.here s (.bl _) h⟩
  | _ => exact h.elim
theorem opd_notIn : OpD K (fun x y H Q => (∃ (c : Nat) (z : Str), x = .str ⟨#[c]⟩ ∧ y = .str z ∧ Q (.bl (!decide (c ∈ z.cps.toList))) H) ∨ rInAll K true x y H Q) (dIn true) := by
  intro G H x y a b k Q s ra rb h o
  cases rb with
  | str z => exact .inl (opd_notInS G H x _ a _ k Q s ra (.str z) h o)
  | tup hp l r =>
    obtain ⟨p, ps, h1, h2, h3, h4, h⟩ := h
    exact .inr ⟨p, ps, ra.dp s h1, .inr (.tup (same_t s hp) (r.dp s h2)), h3, h4, o.here s (.bl _) h⟩
  | lst hp l r =>
    obtain ⟨p, ps, h1, h2, h3, h4, h⟩ := h
    exact .inr ⟨p, ps, ra.dp s h1, .inl (.lst (SqL.of (s _ _ hp)) (r.dp s h2)), h3, h4, o.here s (.bl _) h⟩
  | _ => exact h.elim
theorem op_in1 (hu : X.A.units + 65 < cLine) : OpR X (compareOp .In) (fun x y H Q => (∃ (c : Nat) (z : Str), x = .str ⟨#[c]⟩ ∧ y = .str z ∧ Q (.bl (decide (c ∈ z.cps.toList))) H) ∨ rInAll X.K false x y H Q) := op_in_sign.or (op_inAll hu)
theorem op_notIn1 (hu : X.A.units + 65 < cLine) : OpR X (compareOp .NotIn) (fun x y H Q => (∃ (c : Nat) (z : Str), x = .str ⟨#[c]⟩ ∧ y = .str z ∧ Q (.bl (!decide (c ∈ z.cps.toList))) H) ∨ rInAll X.K true x y H Q) := op_notIn_sign.or (op_notInAll hu)
theorem hu65 {A : Around} {k : Nat} (hr : Room k A) : A.units + 65 < cLine := by have := hr.un; omega
theorem hu64 {A : Around} {k : Nat} (hr : Room k A) : A.units + 64 < cLine := by have := hr.un; omega

/-! ### the operators as one uses them -/
variable {tk : Tk} {a b : Expr} {Ta Tb : TF} {pos : Pos} {k : Nat}
theorem pf_add (ha : PF X tk a Ta) (hb : PF X tk b Tb) : PF X tk (.BinOp a .Add b pos) (tBin dAdd Ta Tb) := pf_op op_addAll opd_add ha hb
theorem pf_sub (ha : PF X tk a Ta) (hb : PF X tk b Tb) : PF X tk (.BinOp a .Sub b pos) (tBin (dI fun i j => i - j) Ta Tb) := pf_op op_sub opd_I0 ha hb
theorem pf_mul (ha : PF X tk a Ta) (hb : PF X tk b Tb) : PF X tk (.BinOp a .Mult b pos) (tBin (dIC CMul fun i j => i * j) Ta Tb) := pf_op op_mul opd_I ha hb
theorem pf_mod (ha : PF X tk a Ta) (hb : PF X tk b Tb) : PF X tk (.BinOp a .Mod b pos) (tBin (dIC (fun _ j => 0 < j) fun i j => i % j) Ta Tb) := pf_op op_mod opd_I ha hb
theorem pf_fdiv (ha : PF X tk a Ta) (hb : PF X tk b Tb) : PF X tk (.BinOp a .FloorDiv b pos) (tBin (dIC CDiv fun i j => i / j) Ta Tb) := pf_op op_fdiv opd_I ha hb
theorem pf_pow (ha : PF X tk a Ta) (hb : PF X tk b Tb) : PF X tk (.BinOp a .Pow b pos) (tBin (dIC CPow fun i j => i ^ j.toNat) Ta Tb) := pf_op op_pow opd_I ha hb
theorem pf_shr (ha : PF X tk a Ta) (hb : PF X tk b Tb) : PF X tk (.BinOp a .RShift b pos) (tBin (dIC (fun _ j => 0 ≤ j) fun i j => i / 2 ^ j.toNat) Ta Tb) := pf_op op_shr opd_I ha hb
theorem pf_eq (hr : Room k X.A) (ha : PF X tk a Ta) (hb : PF X tk b Tb) : PF X tk (.Compare a [.Eq] [b] pos) (tBin (dEq false) Ta Tb) := pf_cmp (op_eqD (hu64 hr)) opd_eq ha hb (nomark _)
theorem pf_ne (hr : Room k X.A) (ha : PF X tk a Ta) (hb : PF X tk b Tb) : PF X tk (.Compare a [.NotEq] [b] pos) (tBin (dEq true) Ta Tb) := pf_cmp (op_neD (hu64 hr)) opd_ne ha hb (nomark _)
theorem pf_lt (ha : PF X tk a Ta) (hb : PF X tk b Tb) : PF X tk (.Compare a [.Lt] [b] pos) (tBin (dB fun i j => decide (i < j)) Ta Tb) := pf_cmp op_lt opd_B0 ha hb (nomark _)
theorem pf_le (ha : PF X tk a Ta) (hb : PF X tk b Tb) : PF X tk (.Compare a [.LtE] [b] pos) (tBin (dB fun i j => decide (i ≤ j)) Ta Tb) := pf_cmp op_le opd_B0 ha hb (nomark _)
theorem pf_gt (ha : PF X tk a Ta) (hb : PF X tk b Tb) : PF X tk (.Compare a [.Gt] [b] pos) (tBin (dB fun i j => decide (j < i)) Ta Tb) := pf_cmp op_gt opd_B0 ha hb (nomark _)
theorem pf_ge (ha : PF X tk a Ta) (hb : PF X tk b Tb) : PF X tk (.Compare a [.GtE] [b] pos) (tBin (dB fun i j => decide (j ≤ i)) Ta Tb) := pf_cmp op_ge opd_B0 ha hb (nomark _)
theorem pf_in (hr : Room k X.A) (ha : PF X tk a Ta) (hb : PF X tk b Tb) (hm : behindInMarks .In b = false := by rfl) : PF X tk (.Compare a [.In] [b] pos) (tBin (dIn false) Ta Tb) := pf_cmp (op_in1 (hu65 hr)) opd_in ha hb hm
theorem pf_notIn (hr : Room k X.A) (ha : PF X tk a Ta) (hb : PF X tk b Tb) (hm : behindInMarks .NotIn b = false := by rfl) : PF X tk (.Compare a [.NotIn] [b] pos) (tBin (dIn true) Ta Tb) := pf_cmp (op_notIn1 (hu65 hr)) opd_notIn ha hb hm
theorem pft_eq (hr : Room k X.A) (ha : PF X tk a Ta) (hb : PF X tk b Tb) : PFT X tk (.Compare a [.Eq] [b] pos) (tBinT (dEq false) Ta Tb) := pft_cmp (op_eqD (hu64 hr)) opd_eq ha hb (nomark _)
theorem pft_ne (hr : Room k X.A) (ha : PF X tk a Ta) (hb : PF X tk b Tb) : PFT X tk (.Compare a [.NotEq] [b] pos) (tBinT (dEq true) Ta Tb) := pft_cmp (op_neD (hu64 hr)) opd_ne ha hb (nomark _)
theorem pft_lt (ha : PF X tk a Ta) (hb : PF X tk b Tb) : PFT X tk (.Compare a [.Lt] [b] pos) (tBinT (dB fun i j => decide (i < j)) Ta Tb) := pft_cmp op_lt opd_B0 ha hb (nomark _)
theorem pft_le (ha : PF X tk a Ta) (hb : PF X tk b Tb) : PFT X tk (.Compare a [.LtE] [b] pos) (tBinT (dB fun i j => decide (i ≤ j)) Ta Tb) := pft_cmp op_le opd_B0 ha hb (nomark _)
theorem pft_gt (ha : PF X tk a Ta) (hb : PF X tk b Tb) : PFT X tk (.Compare a [.Gt] [b] pos) (tBinT (dB fun i j => decide (j < i)) Ta Tb) := pft_cmp op_gt opd_B0 ha hb (nomark _)
theorem pft_ge (ha : PF X tk a Ta) (hb : PF X tk b Tb) : PFT X tk (.Compare a [.GtE] [b] pos) (tBinT (dB fun i j => decide (j ≤ i)) Ta Tb) := pft_cmp op_ge opd_B0 ha hb (nomark _)
theorem pft_in (hr : Room k X.A) (ha : PF X tk a Ta) (hb : PF X tk b Tb) (hm : behindInMarks .In b = false := by rfl) : PFT X tk (.Compare a [.In] [b] pos) (tBinT (dIn false) Ta Tb) := pft_cmp (op_in1 (hu65 hr)) opd_in ha hb hm
theorem pft_notIn (hr : Room k X.A) (ha : PF X tk a Ta) (hb : PF X tk b Tb) (hm : behindInMarks .NotIn b = false := by rfl) : PFT X tk (.Compare a [.NotIn] [b] pos) (tBinT (dIn true) Ta Tb) := pft_cmp (op_notIn1 (hu65 hr)) opd_notIn ha hb hm
end

/-! ### truth -/
def D.truth : D → (Bool → Prop) → Prop
  | .non, k => k false
  | .bl b, k => k b
  | .int i, k => k (i != 0)
  | .str y, k => y.length ≤ sizeLine ∧ k ((y.length : Int) != 0)
  | .tup xs, k => k (!xs.isEmpty)
  | .lst xs, k => k (!xs.isEmpty)
  | .ro xs, k => k (!xs.isEmpty)
  | .dct xs, k => k (!xs.isEmpty)
  | _, _ => False
def tTru (T : TF) : TTD := fun R Γ Φ => T R Γ fun d Γ' => d.truth fun b => Φ b Γ'
theorem Reps.isEmpty {K : PySem.W.Frag} {G : Hp} {xs : List V} {ds : List D} (r : Reps K G xs ds) : xs.isEmpty = ds.isEmpty := by cases r <;> rfl
theorem RepK.isEmpty {K : PySem.W.Frag} {G : Hp} {xs : List (Key × V)} {ds : List (Key × D)} (r : RepK K G xs ds) : xs.isEmpty = ds.isEmpty := by cases r <;> rfl
theorem Rep.tru {K : PySem.W.Frag} {G H : Hp} (s : Same G H) {v : V} {d : D} {k : Bool → Prop} (r : Rep K G v d) (h : d.truth k) : ∃ b, TruV K v H b ∧ k b := by
  cases r with
  | non => exact ⟨false, rfl, h⟩
  | bl b => exact ⟨b, rfl, h⟩
  | int i => exact ⟨_, rfl, h⟩
  | str x => exact ⟨_, ⟨h.1, rfl⟩, h.2⟩
  | tup hp l r => exact ⟨_, .inr (.inl ⟨_, same_t s hp, rfl⟩), by rw [r.isEmpty]; exact h⟩
  | lst hp l r => exact ⟨_, .inl ⟨_, SqL.of (s _ _ hp), rfl⟩, by rw [r.isEmpty]; exact h⟩
  | ro hp l r => exact ⟨_, .inl ⟨_, same_l s hp, rfl⟩, by rw [r.isEmpty]; exact h⟩
  | dct hp l r => exact ⟨_, .inr (.inr ⟨_, s _ _ hp, rfl⟩), by rw [r.isEmpty]; exact h⟩
  | _ => exact h.elim
section
variable {X : Cx} {tk : Tk} {a b e : Expr} {T Ta Tb : TF} {Tt Tu : TTD} {rest : List Expr} {pos : Pos}
theorem pft_tru (h : PF X tk e T) (he : ∀ whole, isTrue e X.env whole = (do let v ← whole; standAt e.pos; holding [v] (truthy v)) := by intro _; rfl) : PFT X tk e (tTru T) :=
  pt_imp (pt_truth h he) fun σ H Q ⟨B, R, Γ, G, Φ, t, en, h, k⟩ => ⟨B, R, Γ, G, _, t, en, h, fun v G' H' Γ' d p r hd => by
    obtain ⟨b, h1, h2⟩ := r.tru p.env.gh hd
    exact ⟨b, h1, k b G' H' Γ' p h2⟩⟩
theorem pft_w (h : PFW X tk e Tt) : PFT X tk e Tt := PW.pt h
def tAndD (T U : TTD) : TTD := fun R Γ Φ => T R Γ fun c Γ' => if c = true then U R Γ' Φ else Φ false Γ'
def tOrD (T U : TTD) : TTD := fun R Γ Φ => T R Γ fun c Γ' => if c = true then Φ true Γ' else U R Γ' Φ
def tNotD (T : TTD) : TTD := fun R Γ Φ => T R Γ fun c Γ' => Φ (!c) Γ'
theorem pfw_and1 (h : PFT X tk a Tt) : PFW X tk (.BoolOp .And [a] pos) Tt := pw_and1 h
theorem pfw_or1 (h : PFT X tk a Tt) : PFW X tk (.BoolOp .Or [a] pos) Tt := pw_or1 h
theorem pfw_and (ha : PFT X tk a Tt) (hb : PFW X tk (.BoolOp .And (b :: rest) pos) Tu) : PFW X tk (.BoolOp .And (a :: b :: rest) pos) (tAndD Tt Tu) :=
  pw_imp (pw_and ha hb) fun σ H Q ⟨B, R, Γ, G, Φ, t, en, h, k⟩ => ⟨B, R, Γ, G, _, t, en, h, fun c G' H' Γ' p hc => by
    cases c with
    | true => exact iteT ⟨B, R, Γ', G', Φ, t, p.env, hc, fun b G2 H2 Γ2 p2 h2 => k b G2 H2 Γ2 (p.trans p2) h2⟩
    | false => exact iteF (k false G' H' Γ' p hc)⟩
theorem pfw_or (ha : PFT X tk a Tt) (hb : PFW X tk (.BoolOp .Or (b :: rest) pos) Tu) : PFW X tk (.BoolOp .Or (a :: b :: rest) pos) (tOrD Tt Tu) :=
  pw_imp (pw_or ha hb) fun σ H Q ⟨B, R, Γ, G, Φ, t, en, h, k⟩ => ⟨B, R, Γ, G, _, t, en, h, fun c G' H' Γ' p hc => by
    cases c with
    | false => exact iteF ⟨B, R, Γ', G', Φ, t, p.env, hc, fun b G2 H2 Γ2 p2 h2 => k b G2 H2 Γ2 (p.trans p2) h2⟩
    | true => exact iteT (k true G' H' Γ' p hc)⟩
theorem pft_not (h : PFT X tk a Tt) : PFT X tk (.UnaryOp .Not a pos) (tNotD Tt) :=
  pt_imp (L2.pt_not h) fun σ H Q ⟨B, R, Γ, G, Φ, t, en, h, k⟩ => ⟨B, R, Γ, G, _, t, en, h, fun c G' H' Γ' p hc => k _ G' H' Γ' p hc⟩
/-- as values, of bools -/
def D.asBl : D → (Bool → Prop) → Prop
  | .bl b, k => k b
  | _, _ => False
theorem Rep.asBl {K : PySem.W.Frag} {G : Hp} {v : V} {d : D} {k : Bool → Prop} (r : Rep K G v d) (h : d.asBl k) : ∃ b, v = .bl b ∧ d = .bl b ∧ k b := by
  cases r with
  | bl b => exact ⟨b, rfl, rfl, h⟩
  | _ => exact h.elim
def tAndV' (T U : TF) : TF := fun R Γ Φ => T R Γ fun d Γ' => d.asBl fun c => if c = true then U R Γ' Φ else Φ (.bl false) Γ'
def tOrV' (T U : TF) : TF := fun R Γ Φ => T R Γ fun d Γ' => d.asBl fun c => if c = true then Φ (.bl true) Γ' else U R Γ' Φ
def tNotV' (T : TF) : TF := fun R Γ Φ => T R Γ fun d Γ' => d.asBl fun c => Φ (.bl (!c)) Γ'
theorem pf_one {op} (h : PF X tk a T) : PF X tk (.BoolOp op [a] pos) T := pe_one h
theorem pf_and (ha : PF X tk a Ta) (hb : PF X tk (.BoolOp .And (b :: rest) pos) Tb) : PF X tk (.BoolOp .And (a :: b :: rest) pos) (tAndV' Ta Tb) :=
  pe_imp (L2.pe_and ha hb) fun σ H Q ⟨B, R, Γ, G, Φ, t, en, h, k⟩ => ⟨B, R, Γ, G, _, t, en, h, fun v G' H' Γ' d p r hd => by
    obtain ⟨c, e1, e2, hc⟩ := r.asBl hd
    refine ⟨c, e1, ?_⟩
    cases c with
    | true => exact iteT ⟨B, R, Γ', G', Φ, t, p.env, hc, fun v G2 H2 Γ2 d p2 r2 h2 => k v G2 H2 Γ2 d (p.trans p2) r2 h2⟩
    | false => exact iteF (k (.bl false) G' H' Γ' (.bl false) p (.bl false) hc)⟩
theorem pf_or (ha : PF X tk a Ta) (hb : PF X tk (.BoolOp .Or (b :: rest) pos) Tb) : PF X tk (.BoolOp .Or (a :: b :: rest) pos) (tOrV' Ta Tb) :=
  pe_imp (L2.pe_or ha hb) fun σ H Q ⟨B, R, Γ, G, Φ, t, en, h, k⟩ => ⟨B, R, Γ, G, _, t, en, h, fun v G' H' Γ' d p r hd => by
    obtain ⟨c, e1, e2, hc⟩ := r.asBl hd
    refine ⟨c, e1, ?_⟩
    cases c with
    | false => exact iteF ⟨B, R, Γ', G', Φ, t, p.env, hc, fun v G2 H2 Γ2 d p2 r2 h2 => k v G2 H2 Γ2 d (p.trans p2) r2 h2⟩
    | true => exact iteT (k (.bl true) G' H' Γ' (.bl true) p (.bl true) hc)⟩
theorem pf_not (h : PF X tk a T) : PF X tk (.UnaryOp .Not a pos) (tNotV' T) :=
  pe_imp (L2.pe_not h) fun σ H Q ⟨B, R, Γ, G, Φ, t, en, h, k⟩ => ⟨B, R, Γ, G, _, t, en, h, fun v G' H' Γ' d p r hd => by
    obtain ⟨c, e1, e2, hc⟩ := r.asBl hd
    exact ⟨c, e1, k _ G' H' Γ' _ p (.bl _) hc⟩⟩
/-- a if t else b -/
def tIfD (T : TTD) (U W : TF) : TF := fun R Γ Φ => T R Γ fun c Γ' => if c = true then U R Γ' Φ else W R Γ' Φ
theorem pf_ifExp {c : Expr} (hc : PFT X tk c Tt) (ha : PF X tk a Ta) (hb : PF X tk b Tb) : PF X tk (.IfExp c a b pos) (tIfD Tt Ta Tb) :=
  pe_imp (pe_ifExp hc ha hb) fun σ H Q ⟨B, R, Γ, G, Φ, t, en, h, k⟩ => ⟨B, R, Γ, G, _, t, en, h, fun c G' H' Γ' p hc => by
    cases c with
    | true => exact iteT ⟨B, R, Γ', G', Φ, t, p.env, hc, fun v G2 H2 Γ2 d p2 r2 h2 => k v G2 H2 Γ2 d (p.trans p2) r2 h2⟩
    | false => exact iteF ⟨B, R, Γ', G', Φ, t, p.env, hc, fun v G2 H2 Γ2 d p2 r2 h2 => k v G2 H2 Γ2 d (p.trans p2) r2 h2⟩⟩
end

/-! ### arguments, displays, built-ins -/
def tNilD : TAD := fun _ Γ Φ => Φ [] Γ
def tConsD (T : TF) (U : TAD) : TAD := fun R Γ Φ => T R Γ fun d Γ1 => U R Γ1 fun ds Γ2 => Φ (d :: ds) Γ2
section
variable {X : Cx} {tk : Tk} {e : Expr} {es : List Expr} {T : TF} {U : TAD} {pos : Pos}
theorem pfa_nil : PFA X tk [] tNilD := pa_imp pa_nil fun σ H Q ⟨B, R, Γ, G, Φ, t, en, h, k⟩ => k [] G H Γ [] (EvP.refl en) .nil h
theorem pfa_cons (ha : PF X tk e T) (hr : PFA X tk es U) (hs : starEach (e :: es) X.env = (false, eval e X.env) :: starEach es X.env := by rfl) : PFA X tk (e :: es) (tConsD T U) :=
  pa_imp (pa_cons ha hr hs) fun σ H Q ⟨B, R, Γ, G, Φ, t, en, h, k⟩ => ⟨B, R, Γ, G, _, t, en, h, fun v G1 H1 Γ1 d p1 r1 h1 => ⟨B, R, Γ1, G1, _, t, p1.env, h1, fun vs G2 H2 Γ2 ds p2 r2 h2 =>
    k (v :: vs) G2 H2 Γ2 (d :: ds) (p1.trans p2) (.cons (r1.mono p2.gg) r2) h2⟩⟩
def tTupD (U : TAD) : TF := fun R Γ Φ => U R Γ fun ds Γ' => ds.length ≤ sizeLine ∧ Φ (.tup ds) Γ'
theorem pf_tup {x1} (h : PFA X tk es U) : PF X tk (.Tuple es x1 pos) (tTupD U) :=
  pe_imp (pe_tup h) fun σ H Q ⟨B, R, Γ, G, Φ, t, en, h, k⟩ => ⟨B, R, Γ, G, _, t, en, h, fun vs G1 H1 Γ1 ds p1 r1 ⟨h1, h2⟩ => by
    have hl : vs.length ≤ sizeLine := by rw [r1.length]; exact h1
    exact ⟨hl, fun p hp => k (.ref p) _ _ Γ1 (.tup ds) (p1.trans (p1.env.new hp)) (.tup (SqT.of upd_same) hl (r1.new p1.env.gh hp)) h2⟩⟩
def tLstO (U : TAD) : TOD := fun R Γ Φ => U R Γ fun ds Γ' => ds.length ≤ sizeLine ∧ Φ (.lst ds) Γ'
theorem po_lst (h : PFA X tk es U) : PFO X tk (.List es pos) (tLstO U) :=
  pe_imp (pe_lst h) fun σ H Q ⟨B, R, Γ, G, Φ, t, en, h, k⟩ => ⟨B, R, Γ, G, _, t, en, h, fun vs G1 H1 Γ1 ds p1 r1 ⟨h1, h2⟩ => by
    have hl : vs.length ≤ sizeLine := by rw [r1.length]; exact h1
    exact ⟨hl, fun p hp => k (.ref p) G1 _ Γ1 (.lst ds) (p1.trans (p1.env.cell hp)) ⟨p, _, rfl, p1.env.gh.free hp, upd_same, ⟨vs, rfl, hl, r1⟩, p1.back hp⟩ h2⟩⟩
/-- frozen -/
def tFz (T : TOD) : TF := fun R Γ Φ => T R Γ fun c Γ' => Φ c.d Γ'
theorem pf_fz {T : TOD} (h : PFO X tk e T) : PF X tk e (tFz T) :=
  pe_imp h fun σ H Q ⟨B, R, Γ, G, Φ, t, en, h, k⟩ => ⟨B, R, Γ, G, _, t, en, h, fun v G1 H1 Γ1 c p1 ⟨l, o, e1, g1, h1, c1, f1⟩ h2 => by
    subst e1
    have n1 := en.noOw f1
    have n2 : ∀ (i : Nat) c, Γ1[i]? = some (.ow c) → σ[i]? ≠ some (some (.ref l)) := fun i c q => by
      obtain ⟨c', q'⟩ := (p1.sh i).mpr ⟨c, q⟩
      exact n1 i c' q'
    have en2 := p1.env.freeze h1 g1 (en.bhNone f1) n2
    have s1 : Same G1 (upd G1 l o) := fun a u q => by rw [upd_ne (ne_of_none q g1)]; exact q
    refine k (.ref l) (upd G1 l o) H1 Γ1 c.d ⟨en2, p1.gg.trans s1, fun a u q => ?_, p1.hh, p1.sh⟩ ((c1.mono s1).rep upd_same) h2
    by_cases z : a = l
    · subst z; exact .inr f1
    · rw [upd_ne z] at q; exact p1.gn a u q⟩
/-- a built-in called with frozen values -/
def CallD (K : PySem.W.Frag) (r : List V → Hp → VK → Prop) (f : List D → (D → Prop) → Prop) : Prop := ∀ (G H : Hp) (xs : List V) (as : List D) (k : D → Prop) (Q : VK), Same G H → Reps K G xs as → f as k → Out K G H k Q → r xs H Q
def tCBD (f : List D → (D → Prop) → Prop) (U : TAD) : TF := fun R Γ Φ => U R Γ fun ds Γ' => f ds fun d => Φ d Γ'
theorem cb_core {r : List V → Hp → VK → Prop} {f : List D → (D → Prop) → Prop} (hf : CallD X.K r f) {σ : L2.St} {H : Hp} {Q : VK} (h : lE X.K tk (tCBD f U) σ H Q) : tCB r (lA X.K tk U) σ H Q := by
  obtain ⟨B, R, Γ, G, Φ, t, en, h, k⟩ := h
  refine ⟨B, R, Γ, G, _, t, en, h, fun vs G1 H1 Γ1 ds p1 r1 h1 => ?_⟩
  exact hf G1 H1 vs ds _ Q p1.env.gh r1 h1 fun v d G' H' x rd kd => k v G' H' Γ1 d (p1.trans (p1.env.ext x)) rd kd
theorem pf_callB {x : Str} {id : String} {p : Pos} {r : List V → Hp → VK → Prop} {f : List D → (D → Prop) → Prop} (hc : CallR X (.builtin id) r) (hf : CallD X.K r f) (hm : X.mg x = none) (ha : PFA X tk (e :: es) U) (hg : Gl X x := by rfl) (hv : bootBuiltins x = some (.builtin id) := by decide +kernel) (hn : x ≠ "__name__" := by decide) (hdb : (x == ("__debug__" : Str)) = false := by decide)
    (he : starEach (e :: es) X.env = (false, eval e X.env) :: starEach es X.env := by rfl) (hpl : (backTo pos (starEach es X.env)).any (·.1) = false := by rfl) : PF X tk (.Call (.Name x p) (e :: es) [] pos) (tCBD f U) :=
  pe_imp (pe_callB hc hg hm hv ha hn hdb he hpl) fun σ H Q h => cb_core hf h
theorem pf_callTy {x : Str} {T : String} {p : Pos} {r : List V → Hp → VK → Prop} {f : List D → (D → Prop) → Prop} (hc : CallR X (.type T) r) (hf : CallD X.K r f) (hm : X.mg x = none) (ha : PFA X tk (e :: es) U) (hg : Gl X x := by rfl) (hv : bootBuiltins x = some (.type T) := by decide +kernel) (hn : x ≠ "__name__" := by decide) (hdb : (x == ("__debug__" : Str)) = false := by decide)
    (he : starEach (e :: es) X.env = (false, eval e X.env) :: starEach es X.env := by rfl) (hpl : (backTo pos (starEach es X.env)).any (·.1) = false := by rfl) : PF X tk (.Call (.Name x p) (e :: es) [] pos) (tCBD f U) :=
  pe_imp (pe_callTy hc hg hm hv ha hn hdb he hpl) fun σ H Q h => cb_core hf h
end
end Vl

namespace Vl
open PySem PySem.Spec PyProof.Rows L2

/-! ### subscripts, slices -/
def cutD (xs : List D) (lo hi : Option Int) : List D := (xs.drop (HT.sIx xs.length 0 lo)).take (HT.sIx xs.length xs.length hi - HT.sIx xs.length 0 lo)
def dIx : D → D → (D → Prop) → Prop
  | .tup xs, .int i, k => ∃ d, atI xs i = some d ∧ k d
  | .lst xs, .int i, k => ∃ d, atI xs i = some d ∧ k d
  | .ro xs, .int i, k => ∃ d, atI xs i = some d ∧ k d
  | .str z, .int i, k => z.length ≤ sizeLine ∧ ∃ c, atI z.cps.toList i = some c ∧ k (.str ⟨#[c]⟩)
  | _, _, _ => False
def dSl : D → Option Int → Option Int → (D → Prop) → Prop
  | .tup xs, lo, hi, k => k (.tup (cutD xs lo hi))
  | .lst xs, lo, hi, k => k (.lst (cutD xs lo hi))
  | .str z, lo, hi, k => z.length ≤ sizeLine ∧ k (.str (cutS z lo hi))
  | _, _, _, _ => False
section
variable {K : PySem.W.Frag} {G H : Hp}
theorem Reps.atI {xs : List V} {ds : List D} {i : Int} {d : D} (r : Reps K G xs ds) (h : L2.atI ds i = some d) : ∃ v, L2.atI xs i = some v ∧ Rep K G v d := by
  unfold L2.atI at h ⊢
  rw [r.length]
  cases e : ixN ds.length i with
  | none => rw [e] at h; cases h
  | some j =>
    rw [e] at h
    exact r.get (i := j) (d := d) h
theorem Reps.cut {xs : List V} {ds : List D} (r : Reps K G xs ds) (lo hi : Option Int) : Reps K G (cutV xs lo hi) (cutD ds lo hi) := by
  unfold cutV cutD
  rw [r.length]
  exact (r.drop _).take _
theorem opd_ix : OpD K (rIx K) dIx := by
  intro G H x y a b k Q s ra rb h o
  cases ra with
  | tup hp l r => cases rb with
    | int i =>
      obtain ⟨d, h1, h2⟩ := h
      obtain ⟨v, h3, h4⟩ := r.atI h1
      exact .inr (.inl ⟨_, _, i, v, rfl, rfl, same_t s hp, h3, o.here s h4 h2⟩)
    | _ => exact h.elim
  | lst hp l r => cases rb with
    | int i =>
      obtain ⟨d, h1, h2⟩ := h
      obtain ⟨v, h3, h4⟩ := r.atI h1
      exact .inl ⟨_, _, i, v, rfl, rfl, SqL.of (s _ _ hp), h3, o.here s h4 h2⟩
    | _ => exact h.elim
  | ro hp l r => cases rb with
    | int i =>
      obtain ⟨d, h1, h2⟩ := h
      obtain ⟨v, h3, h4⟩ := r.atI h1
      exact .inl ⟨_, _, i, v, rfl, rfl, same_l s hp, h3, o.here s h4 h2⟩
    | _ => exact h.elim
  | str z => cases rb with
    | int i =>
      obtain ⟨h0, c, h1, h2⟩ := h
      exact .inr (.inr ⟨z, i, c, rfl, rfl, h0, h1, o.here s (.str _) h2⟩)
    | _ => exact h.elim
  | _ => exact h.elim
end
section
variable {X : Cx} {tk : Tk} {a b e : Expr} {Ta Tb T : TF} {pos p2 : Pos} {lo hi : Option Expr}
theorem pf_ix (ha : PF X tk a Ta) (hb : PF X tk b Tb) (hs : PlainIx b := by exact fun _ _ => rfl) : PF X tk (.Subscript a b pos) (tBin dIx Ta Tb) := pe_imp (pe_ix ix_seq ha hb hs) fun σ H Q h => bin_core opd_ix h
/-- a part of a slice -/
abbrev TPD := ExD → List SD → (Option Int → List SD → Prop) → Prop
def lP (K : PySem.W.Frag) (tk : Tk) (T : TPD) : TO := fun σ H Q => ∃ (B : Bs) (R : ExD) (Γ : List SD) (G : Hp) (Φ : Option Int → List SD → Prop), tk B R ∧ EnvOk K B G H σ Γ ∧ T R Γ Φ ∧
  ∀ o G' H' Γ', EvP K B σ G H Γ G' H' Γ' → Φ o Γ' → Q o H'
def PFP (X : Cx) (tk : Tk) (e : Option Expr) (T : TPD) : Prop := L2.PO X e (lP X.K tk T)
def tNoPartD : TPD := fun _ Γ Φ => Φ none Γ
def D.asInt : D → (Int → Prop) → Prop
  | .int i, k => k i
  | _, _ => False
theorem Rep.asInt {K : PySem.W.Frag} {G : Hp} {v : V} {d : D} {k : Int → Prop} (r : Rep K G v d) (h : d.asInt k) : ∃ i, v = .int i ∧ d = .int i ∧ k i := by
  cases r with
  | int i => exact ⟨i, rfl, rfl, h⟩
  | _ => exact h.elim
def tPartD (T : TF) : TPD := fun R Γ Φ => T R Γ fun d Γ' => d.asInt fun i => Φ (some i) Γ'
theorem po_imp {e : Option Expr} {t t' : TO} (h : L2.PO X e t) (i : ∀ σ H Q, t' σ H Q → t σ H Q) : L2.PO X e t' := ⟨fun pins s σ H Q I w => h.run pins s σ H Q I (i σ H Q w)⟩
theorem pfp_none : PFP X tk none tNoPartD := po_imp L2.po_none fun σ H Q ⟨B, R, Γ, G, Φ, t, en, h, k⟩ => k none G H Γ (EvP.refl en) h
theorem pfp_some (h : PF X tk e T) : PFP X tk (some e) (tPartD T) := po_imp (L2.po_some h) fun σ H Q ⟨B, R, Γ, G, Φ, t, en, h, k⟩ => ⟨B, R, Γ, G, _, t, en, h, fun v G1 H1 Γ1 d p1 r1 h1 => by
  obtain ⟨i, e1, _, h2⟩ := r1.asInt h1
  exact ⟨i, e1, k (some i) G1 H1 Γ1 p1 h2⟩⟩
def rSlAll (K : PySem.W.Frag) : V → Option Int → Option Int → Hp → VK → Prop := fun x lo hi H Q => rSlL K x lo hi H Q ∨ (rSlA K x lo hi H Q ∨ rSlS x lo hi H Q)
theorem sl_all : SlR X (rSlAll X.K) := sl_list.or (sl_tupA.or sl_str)
def tSlD (T : TF) (Tl Th : TPD) : TF := fun R Γ Φ => T R Γ fun d Γ1 => Tl R Γ1 fun lo Γ2 => Th R Γ2 fun hi Γ3 => dSl d lo hi fun r => Φ r Γ3
theorem sl_d {K : PySem.W.Frag} {G H : Hp} {x : V} {d : D} {lo hi : Option Int} {k : D → Prop} {Q : VK} (s : Same G H) (r : Rep K G x d) (h : dSl d lo hi k) (o : Out K G H k Q) : rSlAll K x lo hi H Q := by
  cases r with
  | @tup p xs ds hp l r =>
    have hk : k (.tup (cutD ds lo hi)) := h
    refine .inr (.inl ⟨p, xs, rfl, same_t s hp, fun ⟨h1, h2⟩ => ?_, fun _ q hq => ?_⟩)
    · have e : cutD ds lo hi = ds := by
        unfold cutD
        rw [← r.length, h1, h2]
        simp [r.length]
      rw [e] at hk
      exact o.here s (.tup hp l r) hk
    · exact o.new s hq (.tup (SqT.of upd_same) (Nat.le_trans (cutV_length _ _ _) l) ((r.cut lo hi).new s hq)) hk
  | @lst p xs ds hp l r =>
    have hk : k (.lst (cutD ds lo hi)) := h
    exact .inl ⟨p, xs, rfl, SqL.of (s _ _ hp), fun q hq => o.new s hq (.lst upd_same (Nat.le_trans (cutV_length _ _ _) l) ((r.cut lo hi).new s hq)) hk⟩
  | str z => exact .inr (.inr ⟨z, rfl, h.1, o.here s (.str _) h.2⟩)
  | _ => exact h.elim
theorem pf_slice {Tl Th : TPD} (he : PF X tk e T) (hl : PFP X tk lo Tl) (hh : PFP X tk hi Th) : PF X tk (.Subscript e (.Slice lo hi none p2) pos) (tSlD T Tl Th) :=
  pe_imp (pe_slice sl_all he hl hh) fun σ H Q ⟨B, R, Γ, G, Φ, t, en, h, k⟩ => ⟨B, R, Γ, G, _, t, en, h, fun v G1 H1 Γ1 d p1 r1 h1 => ⟨B, R, Γ1, G1, _, t, p1.env, h1, fun o1 G2 H2 Γ2 p2 h2 =>
    ⟨B, R, Γ2, G2, _, t, p2.env, h2, fun o2 G3 H3 Γ3 p3 h3 => sl_d p3.env.gh ((r1.mono p2.gg).mono p3.gg) h3 fun v d G' H' x rd kd => k v G' H' Γ3 d (((p1.trans p2).trans p3).trans (p3.env.ext x)) rd kd⟩⟩⟩
end

/-! ### built-in functions -/
section
variable {K : PySem.W.Frag}
def dLen : List D → (D → Prop) → Prop
  | [.str z], k => z.length ≤ sizeLine ∧ k (.int z.length)
  | [.tup xs], k => k (.int xs.length)
  | [.lst xs], k => k (.int xs.length)
  | [.ro xs], k => k (.int xs.length)
  | _, _ => False
theorem reps1 {G : Hp} {xs : List V} {d : D} (r : Reps K G xs [d]) : ∃ v, xs = [v] ∧ Rep K G v d := by
  cases r with
  | cons h t => cases t; exact ⟨_, rfl, h⟩
theorem reps2 {G : Hp} {xs : List V} {d e : D} (r : Reps K G xs [d, e]) : ∃ v w, xs = [v, w] ∧ Rep K G v d ∧ Rep K G w e := by
  cases r with
  | cons h t => cases t with
    | cons h2 t2 => cases t2; exact ⟨_, _, rfl, h, h2⟩
def rLenA (K : PySem.W.Frag) : List V → Hp → VK → Prop := fun xs H Q => ∃ x n, xs = [x] ∧ LenV K x H n ∧ Q (.int n) H
theorem cd_len : CallD K (rLenA K) dLen := by
  intro G H xs as k Q s r h o
  unfold dLen at h
  split at h
  · obtain ⟨v, rfl, r1⟩ := reps1 r
    cases r1
    exact ⟨_, _, rfl, ⟨h.1, rfl⟩, o.here s (.int _) h.2⟩
  · obtain ⟨v, rfl, r1⟩ := reps1 r
    cases r1 with
    | tup hp l r => exact ⟨_, _, rfl, .inr ⟨_, same_t s hp, rfl⟩, by rw [r.length]; exact o.here s (.int _) h⟩
  · obtain ⟨v, rfl, r1⟩ := reps1 r
    cases r1 with
    | lst hp l r => exact ⟨_, _, rfl, .inl ⟨_, SqL.of (s _ _ hp), rfl⟩, by rw [r.length]; exact o.here s (.int _) h⟩
  · obtain ⟨v, rfl, r1⟩ := reps1 r
    cases r1 with
    | ro hp l r => exact ⟨_, _, rfl, .inl ⟨_, same_l s hp, rfl⟩, by rw [r.length]; exact o.here s (.int _) h⟩
  · exact h.elim
def dAbs : List D → (D → Prop) → Prop
  | [.int i], k => k (.int (if i < 0 then -i else i))
  | _, _ => False
theorem cd_abs : CallD K (fun xs H Q => ∃ i, xs = [.int i] ∧ Q (.int (if i < 0 then -i else i)) H) dAbs := by
  intro G H xs as k Q s r h o
  unfold dAbs at h
  split at h
  · obtain ⟨v, rfl, r1⟩ := reps1 r
    cases r1
    exact ⟨_, rfl, o.here s (.int _) h⟩
  · exact h.elim
def dInt : List D → (D → Prop) → Prop
  | [.int i], k => k (.int i)
  | [.bl b], k => k (.int (if b then 1 else 0))
  | _, _ => False
theorem cd_int : CallD K (fun xs H Q => (∃ i, xs = [.int i] ∧ Q (.int i) H) ∨ ∃ k, xs = [.bl k] ∧ Q (.int (if k then 1 else 0)) H) dInt := by
  intro G H xs as k Q s r h o
  unfold dInt at h
  split at h
  · obtain ⟨v, rfl, r1⟩ := reps1 r
    cases r1
    exact .inl ⟨_, rfl, o.here s (.int _) h⟩
  · obtain ⟨v, rfl, r1⟩ := reps1 r
    cases r1
    exact .inr ⟨_, rfl, o.here s (.int _) h⟩
  · exact h.elim
def dMax2 : List D → (D → Prop) → Prop
  | [.int i, .int j], k => k (.int (if j > i then j else i))
  | _, _ => False
def dMin2 : List D → (D → Prop) → Prop
  | [.int i, .int j], k => k (.int (if j < i then j else i))
  | _, _ => False
theorem cd_max2 : CallD K (fun xs H Q => ∃ i j, xs = [.int i, .int j] ∧ Q (.int (if j > i then j else i)) H) dMax2 := by
  intro G H xs as k Q s r h o
  unfold dMax2 at h
  split at h
  · obtain ⟨v, w, rfl, r1, r2⟩ := reps2 r
    cases r1
    cases r2
    exact ⟨_, _, rfl, o.here s (.int _) h⟩
  · exact h.elim
theorem cd_min2 : CallD K (fun xs H Q => ∃ i j, xs = [.int i, .int j] ∧ Q (.int (if j < i then j else i)) H) dMin2 := by
  intro G H xs as k Q s r h o
  unfold dMin2 at h
  split at h
  · obtain ⟨v, w, rfl, r1, r2⟩ := reps2 r
    cases r1
    cases r2
    exact ⟨_, _, rfl, o.here s (.int _) h⟩
  · exact h.elim
/-- list(xs), tuple(xs) -/
def dListOf : List D → (D → Prop) → Prop
  | [.tup xs], k => k (.lst xs)
  | [.lst xs], k => k (.lst xs)
  | _, _ => False
def dTupleOf : List D → (D → Prop) → Prop
  | [.tup xs], k => k (.tup xs)
  | [.lst xs], k => k (.tup xs)
  | _, _ => False
theorem cd_tupleOf : CallD K (fun xs H Q => ∃ p ys, xs = [.ref p] ∧ ((SqL K H p ys ∧ ∀ l, H l = none → Q (.ref l) (upd H l (.tup ys))) ∨ (SqT K H p ys ∧ Q (.ref p) H))) dTupleOf := by
  intro G H xs as k Q s r h o
  unfold dTupleOf at h
  split at h
  · obtain ⟨v, rfl, r1⟩ := reps1 r
    cases r1 with
    | tup hp l r => exact ⟨_, _, rfl, .inr ⟨same_t s hp, o.here s (.tup hp l r) h⟩⟩
  · obtain ⟨v, rfl, r1⟩ := reps1 r
    cases r1 with
    | lst hp l r => exact ⟨_, _, rfl, .inl ⟨SqL.of (s _ _ hp), fun q hq => o.new s hq (.tup (SqT.of upd_same) l (r.new s hq)) h⟩⟩
  · exact h.elim
/-! isinstance of a built-in class -/
def D.tyn : D → Option String
  | .non => some "NoneType" | .bl _ => some "bool" | .int _ => some "int" | .str _ => some "str" | .tup _ => some "tuple" | .lst _ => some "list" | .dct _ => some "dict" | _ => none
def dIsi (T : String) (d : D) (k : D → Prop) : Prop := match d.tyn with
  | some n => k (.bl (n == T || (n == "bool" && T == "int")))
  | none => False
theorem Rep.tyx {G H : Hp} (s : Same G H) {v : V} {d : D} {n : String} (r : Rep K G v d) (h : d.tyn = some n) : TyX K H v (.type n) := by
  cases r with
  | non => cases h; exact .base .non
  | bl b => cases h; exact .base (.bl b)
  | int i => cases h; exact .base (.int i)
  | str x => cases h; exact .base (.str x)
  | tup hp l r =>
    cases h
    rcases same_t s hp with (h1 | ⟨o, h1⟩) | ⟨o, its, n, h1, h2, _⟩
    · exact .base (.tup h1)
    · exact .fTuple h1
    · exact .kTuple h1 h2
  | lst hp l r => cases h; exact .base (.lst (s _ _ hp))
  | dct hp l r => cases h; exact .base (.dK (s _ _ hp))
  | _ => cases h
theorem kit_tab : ∀ n ∈ ["NoneType", "bool", "int", "str", "tuple", "list", "dict"], ∀ T ∈ ["str", "int", "bool", "tuple", "list"], kitB n T = some (n == T || (n == "bool" && T == "int")) := by decide +kernel
theorem tyn_mem {d : D} {n : String} (h : d.tyn = some n) : n ∈ ["NoneType", "bool", "int", "str", "tuple", "list", "dict"] := by
  cases d <;> cases h <;> decide
end
section
variable {X : Cx} {tk : Tk} {e : Expr} {T : TF} {pos : Pos}
def tIsi (C : String) (T : TF) : TF := fun R Γ Φ => T R Γ fun d Γ' => dIsi C d fun r => Φ r Γ'
theorem pf_isi {x : Str} {C : String} {p p2 : Pos} (hm : X.mg "isinstance" = none) (hm2 : X.mg x = none) (hb : PF X tk e T) (hC : C ∈ ["str", "int", "bool", "tuple", "list"] := by decide) (hg : Gl X "isinstance" := by rfl) (hg2 : Gl X x := by rfl) (hv : bootBuiltins x = some (.type C) := by decide +kernel) (hn : x ≠ "__name__" := by decide) (hdb : (x == ("__debug__" : Str)) = false := by decide)
    (hs : starEach [e, .Name x p2] X.env = (false, eval e X.env) :: starEach [.Name x p2] X.env := by rfl) (hpl : (backTo pos (starEach [.Name x p2] X.env)).any (·.1) = false := by rfl) : PF X tk (.Call (.Name "isinstance" p) [e, .Name x p2] [] pos) (tIsi C T) :=
  pe_imp (pe_callB call_isi hg hm (by decide +kernel) (pa_cons hb (pa_cons (pe_bltn (v := .ty C) hg2 hm2 hv rfl hn hdb) pa_nil) hs) (by decide) (by decide) hs hpl) fun σ H Q ⟨B, R, Γ, G, Φ, t, en, h, k⟩ => ⟨B, R, Γ, G, _, t, en, h, fun v G1 H1 Γ1 d p1 r1 h1 => by
    unfold dIsi at h1
    split at h1
    · rename_i n hn
      exact ⟨v, .ty C, .type n, .type C, _, rfl, .ty C, r1.tyx p1.env.gh hn, kit_ty (kit_tab n (tyn_mem hn) C hC), k _ G1 H1 Γ1 _ p1 (.bl _) h1⟩
    · exact h1.elim⟩
variable {es : List Expr} {U : TAD} {k : Nat}
theorem pf_len {p : Pos} (hm : X.mg "len" = none) (ha : PFA X tk [e] U) (hg : Gl X "len" := by rfl) (he : starEach [e] X.env = (false, eval e X.env) :: starEach [] X.env := by rfl) : PF X tk (.Call (.Name "len" p) [e] [] pos) (tCBD dLen U) :=
  pf_callB call_len cd_len hm ha hg (by decide +kernel) (by decide) (by decide) he
theorem pf_abs {p : Pos} (hm : X.mg "abs" = none) (ha : PFA X tk [e] U) (hg : Gl X "abs" := by rfl) (he : starEach [e] X.env = (false, eval e X.env) :: starEach [] X.env := by rfl) : PF X tk (.Call (.Name "abs" p) [e] [] pos) (tCBD dAbs U) :=
  pf_callB call_abs cd_abs hm ha hg (by decide +kernel) (by decide) (by decide) he
theorem pf_callInt {p : Pos} (hm : X.mg "int" = none) (ha : PFA X tk [e] U) (hg : Gl X "int" := by rfl) (he : starEach [e] X.env = (false, eval e X.env) :: starEach [] X.env := by rfl) : PF X tk (.Call (.Name "int" p) [e] [] pos) (tCBD dInt U) :=
  pf_callTy call_int1 cd_int hm ha hg (by decide +kernel) (by decide) (by decide) he
theorem pf_max2 {a b : Expr} {p : Pos} (hc : X.calm = true) (hm : X.mg "max" = none) (ha : PFA X tk [a, b] U) (hg : Gl X "max" := by rfl) (he : starEach [a, b] X.env = (false, eval a X.env) :: starEach [b] X.env := by rfl) (hpl : (backTo pos (starEach [b] X.env)).any (·.1) = false := by rfl) : PF X tk (.Call (.Name "max" p) [a, b] [] pos) (tCBD dMax2 U) :=
  pf_callB (call_max2 hc) cd_max2 hm ha hg (by decide +kernel) (by decide) (by decide) he hpl
theorem pf_min2 {a b : Expr} {p : Pos} (hc : X.calm = true) (hm : X.mg "min" = none) (ha : PFA X tk [a, b] U) (hg : Gl X "min" := by rfl) (he : starEach [a, b] X.env = (false, eval a X.env) :: starEach [b] X.env := by rfl) (hpl : (backTo pos (starEach [b] X.env)).any (·.1) = false := by rfl) : PF X tk (.Call (.Name "min" p) [a, b] [] pos) (tCBD dMin2 U) :=
  pf_callB (call_min2 hc) cd_min2 hm ha hg (by decide +kernel) (by decide) (by decide) he hpl
theorem pf_tupleOf {p : Pos} (hm : X.mg "tuple" = none) (ha : PFA X tk [e] U) (hg : Gl X "tuple" := by rfl) (he : starEach [e] X.env = (false, eval e X.env) :: starEach [] X.env := by rfl) : PF X tk (.Call (.Name "tuple" p) [e] [] pos) (tCBD dTupleOf U) :=
  pf_callTy call_tuple_of cd_tupleOf hm ha hg (by decide +kernel) (by decide) (by decide) he
end
end Vl

namespace Vl
open PySem PySem.Spec PyProof.Rows L2

/-! ### slots written, cells written -/
section
variable {K : PySem.W.Frag} {B : Bs} {σ : L2.St} {G H : Hp} {Γ : List SD}
theorem set_at {α : Type} {l : List α} {i j : Nat} {a b : α} (h : (l.set i a)[j]? = some b) : (i = j ∧ i < l.length ∧ b = a) ∨ (i ≠ j ∧ l[j]? = some b) := by
  rw [List.getElem?_set] at h
  by_cases e : i = j
  · rw [if_pos e] at h
    by_cases e2 : i < l.length
    · rw [if_pos e2] at h
      exact .inl ⟨e, e2, (Option.some.inj h).symm⟩
    · rw [if_neg e2] at h
      cases h
  · rw [if_neg e] at h
    exact .inr ⟨e, h⟩
theorem EnvOk.write (e : EnvOk K B G H σ Γ) {i : Nat} {l : Addr} {c c' : Cl} {o' : HO} (hΓ : Γ[i]? = some (.ow c)) (hσ : σ[i]? = some (some (.ref l))) (h' : ClOk K G o' c') : EvP K B σ G H Γ G (upd H l o') (Γ.set i (.ow c')) := by
  have hi : i < Γ.length := (List.getElem?_eq_some_iff.mp hΓ).1
  obtain ⟨l1, o1, a1, a2, a3, a4, a5⟩ := e.ow i c hΓ
  rw [hσ] at a1
  cases a1
  refine ⟨⟨by rw [List.length_set]; exact e.len, fun a u q => ?_, e.g0, e.gn, fun a u q n => ?_, fun j d q => ?_, fun j d q => ?_, fun j k d d' x q1 q2 z1 z2 => ?_, fun j x q => ?_⟩, Same.refl _, fun a u q => .inl q, fun a u q n => ?_, fun j => ⟨fun ⟨d, q⟩ => ?_, fun ⟨d, q⟩ => ?_⟩⟩
  · rw [upd_ne (ne_of_none q a2)]; exact e.gh a u q
  · have ne : a ≠ l := fun z => by
      subst z
      rcases a5 with z | z
      · rw [q] at z; cases z
      · exact n i z
    rw [upd_ne ne]; exact e.fr a u q n
  · rcases set_at q with ⟨_, _, z⟩ | ⟨_, z⟩
    · cases z
    · exact e.im j d z
  · rcases set_at q with ⟨z, _, z2⟩ | ⟨z, z2⟩
    · subst z
      cases z2
      exact ⟨l, o', hσ, a2, upd_same, h', a5⟩
    · obtain ⟨x, o2, b1, b2, b3, b4, b5⟩ := e.ow j d z2
      have ne : x ≠ l := fun w => z (e.sep i j c d l hΓ z2 hσ (by rw [b1, w]))
      exact ⟨x, o2, b1, b2, by rw [upd_ne ne]; exact b3, b4, b5⟩
  · have f : ∀ (m : Nat) (d : Cl), (Γ.set i (.ow c'))[m]? = some (.ow d) → ∃ d0, Γ[m]? = some (.ow d0) := fun m d q => by
      rcases set_at q with ⟨z, _, _⟩ | ⟨_, z⟩
      · subst z; exact ⟨c, hΓ⟩
      · exact ⟨d, z⟩
    obtain ⟨d1, y1⟩ := f j d q1
    obtain ⟨d2, y2⟩ := f k d' q2
    exact e.sep j k d1 d2 x y1 y2 z1 z2
  · obtain ⟨z1, d, z2⟩ := e.bo j x q
    refine ⟨z1, ?_⟩
    rw [List.getElem?_set]
    by_cases w : i = j
    · rw [if_pos w, if_pos hi]; exact ⟨c', rfl⟩
    · rw [if_neg w]; exact ⟨d, z2⟩
  · have ne : a ≠ l := fun z => n i c hΓ (by rw [hσ, z])
    rw [upd_ne ne]; exact q
  · rw [List.getElem?_set]
    by_cases w : i = j
    · rw [if_pos w, if_pos hi]; exact ⟨c', rfl⟩
    · rw [if_neg w]; exact ⟨d, q⟩
  · rcases set_at q with ⟨z, _, _⟩ | ⟨_, z⟩
    · subst z; exact ⟨c, hΓ⟩
    · exact ⟨d, z⟩
theorem EnvOk.setIm (e : EnvOk K B G H σ Γ) {i : Nat} {v : V} {d : D} (nb : ∀ l, B.bo ≠ some (i, l)) (r : Rep K G v d) : EnvOk K B G H (σ.set i (some v)) (Γ.set i (.im d)) := by
  have fo : ∀ (j : Nat) (c : Cl), (Γ.set i (.im d))[j]? = some (.ow c) → i ≠ j ∧ Γ[j]? = some (.ow c) := fun j c q => by
    rcases set_at q with ⟨_, _, z⟩ | z
    · cases z
    · exact z
  refine ⟨by rw [List.length_set, List.length_set]; exact e.len, e.gh, e.g0, e.gn, e.fr, fun j x q => ?_, fun j c q => ?_, fun j k c c' l q1 q2 z1 z2 => ?_, fun j l q => ?_⟩
  · rcases set_at q with ⟨z, z1, z2⟩ | ⟨z, z2⟩
    · subst z
      cases z2
      exact ⟨v, by rw [List.getElem?_set_self (by rw [← e.len]; exact z1)], r⟩
    · obtain ⟨y, y1, y2⟩ := e.im j x z2
      exact ⟨y, by rw [List.getElem?_set_ne z]; exact y1, y2⟩
  · obtain ⟨z, z2⟩ := fo j c q
    obtain ⟨l, o, y1, y2⟩ := e.ow j c z2
    exact ⟨l, o, by rw [List.getElem?_set_ne z]; exact y1, y2⟩
  · obtain ⟨w1, w2⟩ := fo j c q1
    obtain ⟨w3, w4⟩ := fo k c' q2
    rw [List.getElem?_set_ne w1] at z1
    rw [List.getElem?_set_ne w3] at z2
    exact e.sep j k c c' l w2 w4 z1 z2
  · have ne : i ≠ j := fun z => nb l (by rw [q, z])
    rw [List.getElem?_set_ne ne, List.getElem?_set_ne ne]
    exact e.bo j l q
theorem EnvOk.setOw (e : EnvOk K B G H σ Γ) {i : Nat} {l : Addr} {o : HO} {c : Cl} (nb : ∀ l, B.bo ≠ some (i, l)) (g : G l = none) (h : H l = some o) (r : ClOk K G o c) (b : B.H l = none) (n : ∀ (j : Nat) c, Γ[j]? = some (.ow c) → σ[j]? ≠ some (some (.ref l))) :
    EnvOk K B G H (σ.set i (some (.ref l))) (Γ.set i (.ow c)) := by
  refine ⟨by rw [List.length_set, List.length_set]; exact e.len, e.gh, e.g0, e.gn, e.fr, fun j x q => ?_, fun j d q => ?_, fun j k d d' x q1 q2 z1 z2 => ?_, fun j x q => ?_⟩
  · rcases set_at q with ⟨_, _, z⟩ | ⟨z, z2⟩
    · cases z
    · obtain ⟨y, y1, y2⟩ := e.im j x z2
      exact ⟨y, by rw [List.getElem?_set_ne z]; exact y1, y2⟩
  · rcases set_at q with ⟨z, z1, z2⟩ | ⟨z, z2⟩
    · subst z
      cases z2
      exact ⟨l, o, by rw [List.getElem?_set_self (by rw [← e.len]; exact z1)], g, h, r, .inl b⟩
    · obtain ⟨x, o2, y1, y2⟩ := e.ow j d z2
      exact ⟨x, o2, by rw [List.getElem?_set_ne z]; exact y1, y2⟩
  · rcases set_at q1 with ⟨w1, w2, w3⟩ | ⟨w1, w2⟩
    · rcases set_at q2 with ⟨w4, _, _⟩ | ⟨w4, w5⟩
      · rw [← w1, ← w4]
      · subst w1
        rw [List.getElem?_set_self (by rw [← e.len]; exact w2)] at z1
        rw [List.getElem?_set_ne w4] at z2
        cases z1
        exact (n k d' w5 z2).elim
    · rcases set_at q2 with ⟨w4, w6, _⟩ | ⟨w4, w5⟩
      · subst w4
        rw [List.getElem?_set_self (by rw [← e.len]; exact w6)] at z2
        rw [List.getElem?_set_ne w1] at z1
        cases z2
        exact (n j d w2 z1).elim
      · rw [List.getElem?_set_ne w1] at z1
        rw [List.getElem?_set_ne w4] at z2
        exact e.sep j k d d' x w2 w5 z1 z2
  · have ne : i ≠ j := fun z => nb x (by rw [q, z])
    rw [List.getElem?_set_ne ne, List.getElem?_set_ne ne]
    exact e.bo j x q
/-- slots forgotten -/
theorem EnvOk.un (e : EnvOk K B G H σ Γ) {i : Nat} (nb : ∀ l, B.bo ≠ some (i, l)) (x : Option V) : EnvOk K B G H (σ.set i x) (Γ.set i .un) := by
  refine ⟨by rw [List.length_set, List.length_set]; exact e.len, e.gh, e.g0, e.gn, e.fr, fun j x q => ?_, fun j d q => ?_, fun j k d d' x q1 q2 z1 z2 => ?_, fun j x q => ?_⟩
  · rcases set_at q with ⟨_, _, z⟩ | ⟨z, z2⟩
    · cases z
    · obtain ⟨y, y1, y2⟩ := e.im j x z2
      exact ⟨y, by rw [List.getElem?_set_ne z]; exact y1, y2⟩
  · rcases set_at q with ⟨_, _, z⟩ | ⟨z, z2⟩
    · cases z
    · obtain ⟨x, o2, y1, y2⟩ := e.ow j d z2
      exact ⟨x, o2, by rw [List.getElem?_set_ne z]; exact y1, y2⟩
  · rcases set_at q1 with ⟨_, _, z⟩ | ⟨w1, w2⟩
    · cases z
    · rcases set_at q2 with ⟨_, _, z⟩ | ⟨w4, w5⟩
      · cases z
      · rw [List.getElem?_set_ne w1] at z1
        rw [List.getElem?_set_ne w4] at z2
        exact e.sep j k d d' x w2 w5 z1 z2
  · have ne : i ≠ j := fun z => nb x (by rw [q, z])
    rw [List.getElem?_set_ne ne, List.getElem?_set_ne ne]
    exact e.bo j x q
/-- fewer things known of the slots -/
inductive SLe : SD → SD → Prop
  | refl (s : SD) : SLe s s
  | un (s : SD) : SLe .un s
def GLe (Γ Γ' : List SD) : Prop := Γ.length = Γ'.length ∧ ∀ (i : Nat) s, Γ[i]? = some s → s = .un ∨ Γ'[i]? = some s
theorem EnvOk.le (e : EnvOk K B G H σ Γ) {Γ0 : List SD} (h : GLe Γ0 Γ) (hb : ∀ i l, B.bo = some (i, l) → Γ0[i]? ≠ some .un) : EnvOk K B G H σ Γ0 := by
  have f : ∀ (i : Nat) s, Γ0[i]? = some s → s ≠ .un → Γ[i]? = some s := fun i s q n => by
    rcases h.2 i s q with z | z
    · exact (n z).elim
    · exact z
  refine ⟨h.1.trans e.len, e.gh, e.g0, e.gn, e.fr, fun i d q => e.im i d (f i _ q (fun z => nomatch z)), fun i c q => e.ow i c (f i _ q (fun z => nomatch z)), fun i j c c' l q1 q2 => e.sep i j c c' l (f i _ q1 (fun z => nomatch z)) (f j _ q2 (fun z => nomatch z)), fun i l q => ?_⟩
  obtain ⟨z1, c, z2⟩ := e.bo i l q
  refine ⟨z1, c, ?_⟩
  have hi : i < Γ0.length := by rw [h.1]; exact (List.getElem?_eq_some_iff.mp z2).1
  have q2 : Γ0[i]? = some Γ0[i] := List.getElem?_eq_getElem hi
  rcases h.2 i _ q2 with z | z
  · exact (hb i l q (by rw [q2, z])).elim
  · rw [z2] at z
    rw [q2]
    exact z.symm
end

/-! ### own cells read and written -/
section
variable {X : Cx} {tk : Tk} {e : Expr} {es : List Expr} {T : TF} {U : TAD} {pos p cpos apos : Pos}
/-- a built-in of one list, the list a cell of a slot -/
def tOwn (f : List D → (D → Prop) → Prop) (i : Nat) : TF := fun _ Γ Φ => match Γ[i]? with
  | some (.ow (.lst ds)) => f ds fun d => Φ d Γ
  | _ => False
def SqD (K : PySem.W.Frag) (r : List V → Hp → VK → Prop) (f : List D → (D → Prop) → Prop) : Prop := ∀ (G H : Hp) (p : Addr) (xs : List V) (ds : List D) (k : D → Prop) (Q : VK), Same G H → H p = some (.lst xs) → xs.length ≤ sizeLine → Reps K G xs ds → f ds k → Out K G H k Q → r [.ref p] H Q
theorem own_core {r : List V → Hp → VK → Prop} {f : List D → (D → Prop) → Prop} (hf : SqD X.K r f) {i : Nat} {σ : L2.St} {H : Hp} {Q : VK} (h : lE X.K tk (tOwn f i) σ H Q) : tCB r (tCons (tVar i) tNil) σ H Q := by
  obtain ⟨B, R, Γ, G, Φ, t, en, h, k⟩ := h
  unfold tOwn at h
  split at h
  · rename_i ds q
    obtain ⟨l, o, a1, a2, a3, ⟨xs, a4, a5, a6⟩, _⟩ := en.ow i _ q
    subst a4
    exact ⟨.ref l, a1, hf G H l xs ds _ Q en.gh a3 a5 a6 h fun v d G' H' x rd kd => k v G' H' Γ d (en.ext x) rd kd⟩
  · exact h.elim
def dLenL (ds : List D) (k : D → Prop) : Prop := k (.int ds.length)
theorem sq_len {K : PySem.W.Frag} : SqD K (fun xs H Q => ∃ p ys, xs = [.ref p] ∧ (SqL K H p ys ∨ SqT K H p ys) ∧ Q (.int ys.length) H) dLenL :=
  fun G H p xs ds k Q s hp l r h o => ⟨p, xs, rfl, .inl (SqL.of hp), by rw [r.length]; exact o.here s (.int _) h⟩
def dTupL (ds : List D) (k : D → Prop) : Prop := k (.tup ds)
theorem sq_tuple {K : PySem.W.Frag} : SqD K (fun xs H Q => ∃ p ys, xs = [.ref p] ∧ ((SqL K H p ys ∧ ∀ l, H l = none → Q (.ref l) (upd H l (.tup ys))) ∨ (SqT K H p ys ∧ Q (.ref p) H))) dTupL :=
  fun G H p xs ds k Q s hp l r h o => ⟨p, xs, rfl, .inl ⟨SqL.of hp, fun q hq => o.new s hq (.tup (SqT.of upd_same) l (r.new s hq)) h⟩⟩
theorem pf_lenO (i : Nat) {x : Str} {px : Pos} (hm : X.mg "len" = none) (hN : X.N[i]? = some x := by rfl) (hx : Vis X.env.scope x := by first | exact Or.inl rfl | exact Or.inr (Or.inl rfl) | exact Or.inr (Or.inr rfl)) (hd : (x == ("__debug__" : Str)) = false := by decide) (hcd : (x == ("__classdict__" : Str)) = false := by decide)
    (hg : Gl X "len" := by rfl) (hs : starEach [.Name x px] X.env = (false, eval (.Name x px) X.env) :: starEach [] X.env := by rfl) : PF X tk (.Call (.Name "len" p) [.Name x px] [] pos) (tOwn dLenL i) :=
  pe_imp (pe_callB call_len_seq hg hm PySem.boot_len (pa_cons (pe_var hN hx hd hcd) pa_nil hs) (by decide) (by decide) hs rfl) fun σ H Q h => own_core sq_len h
theorem pf_tupleO (i : Nat) {x : Str} {px : Pos} (hm : X.mg "tuple" = none) (hN : X.N[i]? = some x := by rfl) (hx : Vis X.env.scope x := by first | exact Or.inl rfl | exact Or.inr (Or.inl rfl) | exact Or.inr (Or.inr rfl)) (hd : (x == ("__debug__" : Str)) = false := by decide) (hcd : (x == ("__classdict__" : Str)) = false := by decide)
    (hg : Gl X "tuple" := by rfl) (hs : starEach [.Name x px] X.env = (false, eval (.Name x px) X.env) :: starEach [] X.env := by rfl) : PF X tk (.Call (.Name "tuple" p) [.Name x px] [] pos) (tOwn dTupL i) :=
  pe_imp (pe_callTy call_tuple_of hg hm (by decide +kernel) (pa_cons (pe_var hN hx hd hcd) pa_nil hs) (by decide) (by decide) hs rfl) fun σ H Q h => own_core sq_tuple h
/-- own[i] -/
def tIxO (i : Nat) (T : TF) : TF := fun R Γ Φ => match Γ[i]? with
  | some (.ow (.lst _)) => T R Γ fun d Γ' => d.asInt fun j => match Γ'[i]? with
    | some (.ow (.lst ds)) => ∃ d, atI ds j = some d ∧ Φ d Γ'
    | _ => False
  | _ => False
theorem pf_ixO (i : Nat) {x : Str} {px : Pos} (hb : PF X tk e T) (hN : X.N[i]? = some x := by rfl) (hx : Vis X.env.scope x := by first | exact Or.inl rfl | exact Or.inr (Or.inl rfl) | exact Or.inr (Or.inr rfl)) (hd : (x == ("__debug__" : Str)) = false := by decide) (hcd : (x == ("__classdict__" : Str)) = false := by decide)
    (hs : PlainIx e := by exact fun _ _ => rfl) : PF X tk (.Subscript (.Name x px) e pos) (tIxO i T) :=
  pe_imp (pe_ix ix_list (pe_var hN hx hd hcd) hb hs) fun σ H Q ⟨B, R, Γ, G, Φ, t, en, h, k⟩ => by
    unfold tIxO at h
    split at h
    · rename_i ds0 q
      obtain ⟨l, o, a1, _⟩ := en.ow i _ q
      refine ⟨.ref l, a1, B, R, Γ, G, _, t, en, h, fun v G1 H1 Γ1 d p1 r1 h1 => ?_⟩
      obtain ⟨j, e1, _, h2⟩ := r1.asInt h1
      split at h2
      · rename_i ds q2
        obtain ⟨l2, o2, b1, b2, b3, ⟨xs, b4, b5, b6⟩, _⟩ := p1.env.ow i _ q2
        rw [a1] at b1
        cases b1
        subst b4
        obtain ⟨d2, h3, h4⟩ := h2
        obtain ⟨v2, h5, h6⟩ := b6.atI h3
        exact ⟨l, xs, j, v2, rfl, e1, SqL.of b3, h5, k v2 G1 H1 Γ1 d2 p1 h6 h4⟩
      · exact h2.elim
    · exact h.elim
/-- x.append(e) -/
def tAppend (i : Nat) (T : TF) : TF := fun R Γ Φ => match Γ[i]? with
  | some (.ow (.lst _)) => T R Γ fun d Γ' => match Γ'[i]? with
    | some (.ow (.lst ds)) => ds.length < sizeLine ∧ Φ .non (Γ'.set i (.ow (.lst (ds ++ [d]))))
    | _ => False
  | _ => False
theorem pf_append (i : Nat) {x : Str} {px : Pos} (hb : PF X tk e T) (hN : X.N[i]? = some x := by rfl) (hx : Vis X.env.scope x := by first | exact Or.inl rfl | exact Or.inr (Or.inl rfl) | exact Or.inr (Or.inr rfl)) (hd : (x == ("__debug__" : Str)) = false := by decide) (hcd : (x == ("__classdict__" : Str)) = false := by decide)
    (hbase : attributeBase (.Name x px) "append" X.env (eval (.Name x px) X.env) = eval (.Name x px) X.env := by rfl)
    (hfew : ((backTo cpos (starEach [e] X.env)).all (fun x => !x.1) && (backToKw cpos (keywordEach [] X.env)).all (fun x => x.1.isSome) && decide ([e].length + ([] : List Keyword).length + (if ([] : List Keyword).isEmpty then 0 else 1) < 30)) = true := by rfl)
    (hline : (apos.endLine == cpos.line) = true := by rfl) (hs : starEach [e] X.env = (false, eval e X.env) :: starEach [] X.env := by rfl) : PF X tk (.Call (.Attribute (.Name x px) "append" apos) [e] [] cpos) (tAppend i T) :=
  pe_imp (pe_bm PySem.F.plainAttrs_list PySem.F.slot_list_append PySem.F.type_list_append mt_append (pe_var hN hx hd hcd) (pa_cons hb pa_nil hs) hbase hfew hline hs rfl) fun σ H Q ⟨B, R, Γ, G, Φ, t, en, h, k⟩ => by
    unfold tAppend at h
    split at h
    · rename_i ds0 q
      obtain ⟨l, o, a1, a2, a3, ⟨xs0, a4, _, _⟩, _⟩ := en.ow i _ q
      subst a4
      refine ⟨.ref l, a1, .inl ⟨rfl, _, SqL.of a3⟩, B, R, Γ, G, _, t, en, h, fun v G1 H1 Γ1 d p1 r1 h1 => ?_⟩
      split at h1
      · rename_i ds q2
        obtain ⟨l2, o2, b1, b2, b3, ⟨xs, b4, b5, b6⟩, _⟩ := p1.env.ow i _ q2
        rw [a1] at b1
        cases b1
        subst b4
        have hl : xs.length < sizeLine := by rw [b6.length]; exact h1.1
        refine ⟨l, xs, v, rfl, rfl, b3, hl, k .non G1 _ _ .non (p1.trans (p1.env.write (c' := .lst (ds ++ [d])) q2 a1 ⟨xs ++ [v], rfl, ?_, b6.append (.cons r1 .nil)⟩)) .non h1.2⟩
        rw [List.length_append]
        exact hl
      · exact h1.elim
    · exact h.elim
/-- x.pop(e) -/
def tPopAt (i : Nat) (T : TF) : TF := fun R Γ Φ => match Γ[i]? with
  | some (.ow (.lst _)) => T R Γ fun d Γ' => d.asInt fun j => match Γ'[i]? with
    | some (.ow (.lst ds)) => ∃ (n : Nat) (d : D), -(2 ^ 63) ≤ j ∧ j < 2 ^ 63 ∧ seqIndex? j ds.length = some n ∧ ds[n]? = some d ∧ Φ d (Γ'.set i (.ow (.lst (ds.eraseIdx n))))
    | _ => False
  | _ => False
theorem pf_popAt (i : Nat) {x : Str} {px : Pos} (hb : PF X tk e T) (hN : X.N[i]? = some x := by rfl) (hx : Vis X.env.scope x := by first | exact Or.inl rfl | exact Or.inr (Or.inl rfl) | exact Or.inr (Or.inr rfl)) (hd : (x == ("__debug__" : Str)) = false := by decide) (hcd : (x == ("__classdict__" : Str)) = false := by decide)
    (hbase : attributeBase (.Name x px) "pop" X.env (eval (.Name x px) X.env) = eval (.Name x px) X.env := by rfl)
    (hfew : ((backTo cpos (starEach [e] X.env)).all (fun x => !x.1) && (backToKw cpos (keywordEach [] X.env)).all (fun x => x.1.isSome) && decide ([e].length + ([] : List Keyword).length + (if ([] : List Keyword).isEmpty then 0 else 1) < 30)) = true := by rfl)
    (hline : (apos.endLine == cpos.line) = true := by rfl) (hs : starEach [e] X.env = (false, eval e X.env) :: starEach [] X.env := by rfl) : PF X tk (.Call (.Attribute (.Name x px) "pop" apos) [e] [] cpos) (tPopAt i T) :=
  pe_imp (pe_bm PySem.F.plainAttrs_list PySem.F.slot_list_pop PySem.F.type_list_pop mt_popAt (pe_var hN hx hd hcd) (pa_cons hb pa_nil hs) hbase hfew hline hs rfl) fun σ H Q ⟨B, R, Γ, G, Φ, t, en, h, k⟩ => by
    unfold tPopAt at h
    split at h
    · rename_i ds0 q
      obtain ⟨l, o, a1, a2, a3, ⟨xs0, a4, _, _⟩, _⟩ := en.ow i _ q
      subst a4
      refine ⟨.ref l, a1, .inl ⟨rfl, _, SqL.of a3⟩, B, R, Γ, G, _, t, en, h, fun v G1 H1 Γ1 d p1 r1 h1 => ?_⟩
      obtain ⟨j, e1, _, h1⟩ := r1.asInt h1
      subst e1
      split at h1
      · rename_i ds q2
        obtain ⟨l2, o2, b1, b2, b3, ⟨xs, b4, b5, b6⟩, _⟩ := p1.env.ow i _ q2
        rw [a1] at b1
        cases b1
        subst b4
        obtain ⟨n, d2, h2, h3, h4, h5, h6⟩ := h1
        obtain ⟨v2, h7, h8⟩ := b6.get h5
        refine ⟨l, xs, j, n, v2, rfl, rfl, b3, h2, h3, by rw [b6.length]; exact h4, h7, k v2 G1 _ _ d2 (p1.trans (p1.env.write (c' := .lst (ds.eraseIdx n)) q2 a1 ⟨xs.eraseIdx n, rfl, ?_, b6.eraseIdx n⟩)) h8 h6⟩
        exact Nat.le_trans (List.length_eraseIdx_le _ _) b5
      · exact h1.elim
    · exact h.elim
end
end Vl

namespace Vl
open PySem PySem.Spec PyProof.Rows L2

/-! ### statements -/
inductive RD where
  | im (d : D) | fr (c : Cl)
def RD.d : RD → D
  | .im d => d
  | .fr c => c.d
structure EndsD where
  nx : List SD → Prop
  rt : RD → List SD → Prop
  bk : List SD → Prop
  ct : List SD → Prop
abbrev TSD := ExD → EndsD → List SD → Prop
def RetOk (K : PySem.W.Frag) (B : Bs) (G H : Hp) (v : V) : RD → Prop
  | .im d => Rep K G v d
  | .fr c => ∃ l o, v = .ref l ∧ G l = none ∧ H l = some o ∧ ClOk K G o c ∧ B.H l = none
structure EnX (K : PySem.W.Frag) (B : Bs) (D : EndsD) (D' : Ends) : Prop where
  nx : ∀ σ G H Γ, EnvOk K B G H σ Γ → D.nx Γ → D'.nx σ H
  rt : ∀ v r σ G H Γ, EnvOk K B G H σ Γ → RetOk K B G H v r → D.rt r Γ → D'.rt v H
  bk : ∀ σ G H Γ, EnvOk K B G H σ Γ → D.bk Γ → D'.bk σ H
  ct : ∀ σ G H Γ, EnvOk K B G H σ Γ → D.ct Γ → D'.ct σ H
def lS (K : PySem.W.Frag) (tk : Tk) (T : TSD) : TS := fun D' σ H => ∃ (B : Bs) (R : ExD) (Γ : List SD) (G : Hp) (D : EndsD), tk B R ∧ EnvOk K B G H σ Γ ∧ T R D Γ ∧ EnX K B D D'
def PFS (X : Cx) (tk : Tk) (st : Stmt) (T : TSD) : Prop := PS X st (lS X.K tk T)
def PFSs (X : Cx) (tk : Tk) (st : List Stmt) (T : TSD) : Prop := PSs X st (lS X.K tk T)
/-- the wishes of a def whose slot bs is borrowed -/
abbrev TkS (X : Cx) (bs : Option Nat) : Tk := fun B R => TkD X B R ∧ ∀ i l, B.bo = some (i, l) → bs = some i
def NbT (tk : Tk) (i : Nat) : Prop := ∀ B R, tk B R → ∀ l, B.bo ≠ some (i, l)
theorem nbT {X : Cx} {bs : Option Nat} {i : Nat} (h : bs ≠ some i) : NbT (TkS X bs) i := fun B R t l q => h (t.2 i l q)

section
variable {X : Cx} {tk : Tk} {st : Stmt} {rest a b : List Stmt} {e : Expr} {T U : TSD} {Te : TF} {To : TOD} {Tt : TTD} {pos : Pos}
def tNextD : TSD := fun _ D Γ => D.nx Γ
def tSeqD (T U : TSD) : TSD := fun R D Γ => T R { D with nx := U R D } Γ
theorem EnX.seq {K : PySem.W.Frag} {B : Bs} {R : ExD} {D : EndsD} {D' : Ends} (t : tk B R) (x : EnX K B D D') : EnX K B { D with nx := U R D } { D' with nx := lS K tk U D' } :=
  ⟨fun σ G H Γ e h => ⟨B, R, Γ, G, D, t, e, h, x⟩, x.rt, x.bk, x.ct⟩
theorem pfss_nil : PFSs X tk [] tNextD := pss_imp pss_nil fun D' σ H ⟨B, R, Γ, G, D, t, en, h, x⟩ => x.nx σ G H Γ en h
theorem pfss_cons (h1 : PFS X tk st T) (h2 : PFSs X tk rest U) : PFSs X tk (st :: rest) (tSeqD T U) :=
  pss_imp (pss_cons h1 h2) fun D' σ H ⟨B, R, Γ, G, D, t, en, h, x⟩ => ⟨B, R, Γ, G, _, t, en, h, x.seq t⟩
theorem pfss_one (h1 : PFS X tk st T) : PFSs X tk [st] T := pss_one h1
theorem pfs_pass : PFS X tk (.Pass pos) tNextD := ps_imp ps_pass fun D' σ H ⟨B, R, Γ, G, D, t, en, h, x⟩ => x.nx σ G H Γ en h
def tBreakD : TSD := fun _ D Γ => D.bk Γ
def tContD : TSD := fun _ D Γ => D.ct Γ
theorem pfs_break : PFS X tk (.Break pos) tBreakD := ps_imp ps_break fun D' σ H ⟨B, R, Γ, G, D, t, en, h, x⟩ => x.bk σ G H Γ en h
theorem pfs_continue : PFS X tk (.Continue pos) tContD := ps_imp ps_continue fun D' σ H ⟨B, R, Γ, G, D, t, en, h, x⟩ => x.ct σ G H Γ en h
def tDropD (T : TF) : TSD := fun R D Γ => T R Γ fun _ Γ' => D.nx Γ'
theorem pfs_expr (he : PF X tk e Te) (hs : swapsWith e none pos.line X.env = pure false := by rfl) : PFS X tk (.Expr e pos) (tDropD Te) :=
  ps_imp (ps_expr he hs) fun D' σ H ⟨B, R, Γ, G, D, t, en, h, x⟩ => ⟨B, R, Γ, G, _, t, en, h, fun v G1 H1 Γ1 d p r h1 => x.nx σ G1 H1 Γ1 p.env h1⟩
def tRetD (T : TF) : TSD := fun R D Γ => T R Γ fun d Γ' => D.rt (.im d) Γ'
theorem pfs_ret (he : PF X tk e Te) : PFS X tk (.Return (some e) pos) (tRetD Te) :=
  ps_imp (ps_ret he) fun D' σ H ⟨B, R, Γ, G, D, t, en, h, x⟩ => ⟨B, R, Γ, G, _, t, en, h, fun v G1 H1 Γ1 d p r h1 => x.rt v (.im d) σ G1 H1 Γ1 p.env r h1⟩
def tRetO (T : TOD) : TSD := fun R D Γ => T R Γ fun c Γ' => D.rt (.fr c) Γ'
theorem pfs_retO (he : PFO X tk e To) : PFS X tk (.Return (some e) pos) (tRetO To) :=
  ps_imp (ps_ret he) fun D' σ H ⟨B, R, Γ, G, D, t, en, h, x⟩ => ⟨B, R, Γ, G, _, t, en, h, fun v G1 H1 Γ1 c p ⟨l, o, a1, a2, a3, a4, a5⟩ h1 => x.rt v (.fr c) σ G1 H1 Γ1 p.env ⟨l, o, a1, a2, a3, a4, en.bhNone a5⟩ h1⟩
/-- return of an own cell -/
def tRetV (i : Nat) : TSD := fun _ D Γ => match Γ[i]? with
  | some (.ow c) => D.rt (.fr c) Γ
  | _ => False
theorem pfs_retV (i : Nat) {x : Str} {px : Pos} (nb : NbT tk i) (hN : X.N[i]? = some x := by rfl) (hx : Vis X.env.scope x := by first | exact Or.inl rfl | exact Or.inr (Or.inl rfl) | exact Or.inr (Or.inr rfl)) (hd : (x == ("__debug__" : Str)) = false := by decide) (hcd : (x == ("__classdict__" : Str)) = false := by decide) :
    PFS X tk (.Return (some (.Name x px)) pos) (tRetV i) :=
  ps_imp (ps_ret (pe_var hN hx hd hcd)) fun D' σ H ⟨B, R, Γ, G, D, t, en, h, x⟩ => by
    unfold tRetV at h
    split at h
    · rename_i c q
      obtain ⟨l, o, a1, a2, a3, a4, a5⟩ := en.ow i _ q
      have a6 : B.H l = none := by
        rcases a5 with z | z
        · exact z
        · exact (nb B R t l z).elim
      exact ⟨.ref l, a1, x.rt (.ref l) (.fr c) σ G H Γ en ⟨l, o, rfl, a2, a3, a4, a6⟩ h⟩
    · exact h.elim
def tRetND : TSD := fun _ D Γ => D.rt (.im .non) Γ
theorem pfs_retN : PFS X tk (.Return none pos) tRetND := ps_imp ps_retN fun D' σ H ⟨B, R, Γ, G, D, t, en, h, x⟩ => x.rt .non (.im .non) σ G H Γ en .non h
def tIfSD (c : TTD) (T U : TSD) : TSD := fun R D Γ => c R Γ fun b Γ' => if b = true then T R D Γ' else U R D Γ'
theorem pfs_if {c : Expr} (hc : PFT X tk c Tt) (ha : PFSs X tk a T) (hb : PFSs X tk b U) : PFS X tk (.If c a b pos) (tIfSD Tt T U) :=
  ps_imp (ps_if hc ha hb) fun D' σ H ⟨B, R, Γ, G, D, t, en, h, x⟩ => ⟨B, R, Γ, G, _, t, en, h, fun c G1 H1 Γ1 p h1 => by
    cases c with
    | true => exact iteT ⟨B, R, Γ1, G1, D, t, p.env, h1, x⟩
    | false => exact iteF ⟨B, R, Γ1, G1, D, t, p.env, h1, x⟩⟩
def tNeverD : TSD := fun _ _ _ => False
theorem pfs_never : PFS X tk st tNeverD := ps_imp ps_never fun D' σ H ⟨B, R, Γ, G, D, t, en, h, x⟩ => h.elim

/-! ### assignments -/
def tSetD (i : Nat) (T : TF) : TSD := fun R D Γ => T R Γ fun d Γ' => D.nx (Γ'.set i (.im d))
def tSetO (i : Nat) (T : TOD) : TSD := fun R D Γ => T R Γ fun c Γ' => D.nx (Γ'.set i (.ow c))
theorem FrOk.own {K : PySem.W.Frag} {B : Bs} {σ : L2.St} {G H G1 H1 : Hp} {Γ Γ1 : List SD} {v : V} {c : Cl} (f : FrOk K H G1 H1 v c) (en : EnvOk K B G H σ Γ) (p : EvP K B σ G H Γ G1 H1 Γ1) {i : Nat} (nb : ∀ l, B.bo ≠ some (i, l)) :
    EnvOk K B G1 H1 (σ.set i (some v)) (Γ1.set i (.ow c)) := by
  obtain ⟨l, o, a1, a2, a3, a4, a5⟩ := f
  subst a1
  refine p.env.setOw nb a2 a3 a4 (en.bhNone a5) fun j d q z => ?_
  obtain ⟨d', q'⟩ := (p.sh j).mpr ⟨d, q⟩
  exact en.noOw a5 j d' q' z
theorem asg_core {i : Nat} (nb : NbT tk i) {D' : Ends} {σ : L2.St} {H : Hp} (h : lS X.K tk (tSetD i Te) D' σ H) : tAsg (lE X.K tk Te) (gName i) D' σ H := by
  obtain ⟨B, R, Γ, G, D, t, en, h, x⟩ := h
  exact ⟨B, R, Γ, G, _, t, en, h, fun v G1 H1 Γ1 d p r h1 => x.nx _ G1 H1 _ (p.env.setIm (nb B R t) r) h1⟩
theorem asg_coreO {i : Nat} (nb : NbT tk i) {D' : Ends} {σ : L2.St} {H : Hp} (h : lS X.K tk (tSetO i To) D' σ H) : tAsg (lO X.K tk To) (gName i) D' σ H := by
  obtain ⟨B, R, Γ, G, D, t, en, h, x⟩ := h
  exact ⟨B, R, Γ, G, _, t, en, h, fun v G1 H1 Γ1 c p f h1 => x.nx _ G1 H1 _ (f.own en p (nb B R t)) h1⟩
theorem pfs_set (i : Nat) {x : Str} {pos' : Pos} (nb : NbT tk i) (hN : X.N.Nodup) (he : PF X tk e Te) (hi : X.N[i]? = some x := by rfl) (hx : Loc X.env.scope x := by first | exact Or.inl rfl | exact Or.inr rfl) (hs : swapsWith e (some (.Name x pos')) pos.line X.env = pure false := by rfl) (hf : X.fn x = true ∨ X.env.scope.names.lookup x = some .local := by first | exact .inl rfl | exact .inr rfl) :
    PFS X tk (.Assign [.Name x pos'] e pos) (tSetD i Te) := ps_imp (ps_set hN hi hx he hs hf) fun D' σ H h => asg_core nb h
theorem pfs_setO (i : Nat) {x : Str} {pos' : Pos} (nb : NbT tk i) (hN : X.N.Nodup) (he : PFO X tk e To) (hi : X.N[i]? = some x := by rfl) (hx : Loc X.env.scope x := by first | exact Or.inl rfl | exact Or.inr rfl) (hs : swapsWith e (some (.Name x pos')) pos.line X.env = pure false := by rfl) (hf : X.fn x = true ∨ X.env.scope.names.lookup x = some .local := by first | exact .inl rfl | exact .inr rfl) :
    PFS X tk (.Assign [.Name x pos'] e pos) (tSetO i To) := ps_imp (ps_set hN hi hx he hs hf) fun D' σ H h => asg_coreO nb h
/-- a slot's cell frozen for good, ahead of a block -/
def frzAt (i : Nat) (Γ : List SD) : List SD := match Γ[i]? with
  | some (.ow c) => Γ.set i (.im c.d)
  | _ => Γ
def tFrz (i : Nat) (T : TSD) : TSD := fun R D Γ => T R D (frzAt i Γ)
theorem frz_env {K : PySem.W.Frag} {B : Bs} {σ : L2.St} {G H : Hp} {Γ : List SD} {i : Nat} (nb : ∀ l, B.bo ≠ some (i, l)) (en : EnvOk K B G H σ Γ) : ∃ G', EnvOk K B G' H σ (frzAt i Γ) := by
  unfold frzAt
  split
  · rename_i c q
    obtain ⟨l, o, a1, a2, a3, a4, a5⟩ := en.ow i _ q
    have a6 : B.H l = none := by
      rcases a5 with z | z
      · exact z
      · exact (nb l z).elim
    have e1 : EnvOk K B G H (σ.set i (some (.ref l))) (Γ.set i .un) := en.un nb _
    have es : σ.set i (some (.ref l)) = σ := by
      apply List.ext_getElem?
      intro j
      rw [List.getElem?_set]
      by_cases w : i = j
      · subst w
        rw [if_pos rfl, a1, if_pos (List.getElem?_eq_some_iff.mp a1).1]
      · rw [if_neg w]
    rw [es] at e1
    have e2 := e1.freeze a3 a2 a6 fun j c' q' z => by
      rcases set_at q' with ⟨_, _, w⟩ | ⟨w1, w2⟩
      · cases w
      · exact w1 (en.sep i j c c' l q w2 a1 z)
    have s1 : Same G (upd G l o) := fun a u q => by rw [upd_ne (ne_of_none q a2)]; exact q
    have e3 := e2.setIm (i := i) (v := .ref l) nb ((a4.mono s1).rep upd_same)
    rw [es, List.set_set] at e3
    exact ⟨_, e3⟩
  · exact ⟨G, en⟩
theorem pfss_frz (i : Nat) (nb : NbT tk i) (h : PFSs X tk rest T) : PFSs X tk rest (tFrz i T) := pss_imp h fun D' σ H ⟨B, R, Γ, G, D, t, en, h, x⟩ => by
  obtain ⟨G', en'⟩ := frz_env (nb B R t) en
  exact ⟨B, R, _, G', D, t, en', h, x⟩
end

/-! ### what a for walks -/
def ItOk (K : PySem.W.Frag) (J : It) (G0 : Hp) (ds : List D) : Prop :=
  (∀ (i : Nat) (H : Hp), Same G0 H → i < ds.length → J.go i H) ∧ (∀ (i : Nat) (H : Hp), Same G0 H → i = ds.length → J.stop i H) ∧
    ∀ (i : Nat) (G H : Hp) (x : V) (H' : Hp), Same G0 G → Same G H → i < ds.length → J.yld i H x H' → ∃ d G', ds[i]? = some d ∧ Ext G H G' H' ∧ Rep K G' x d
def lI (K : PySem.W.Frag) (tk : Tk) (T : TAD) : TI := fun σ H R' => ∃ (B : Bs) (R : ExD) (Γ : List SD) (G : Hp) (Φ : List D → List SD → Prop), tk B R ∧ EnvOk K B G H σ Γ ∧ T R Γ Φ ∧
  ∀ J G' H' Γ' ds, EvP K B σ G H Γ G' H' Γ' → ItOk K J G' ds → Φ ds Γ' → R' J H'
def PFI (X : Cx) (tk : Tk) (tg iter : Expr) (T : TAD) : Prop := PI X tg iter (lI X.K tk T)
def strDs (z : Str) : List D := z.cps.toList.map fun c => D.str ⟨#[c]⟩
/-- what a for over it yields -/
def D.its : D → (List D → Prop) → Prop
  | .tup xs, k => k xs
  | .lst xs, k => k xs
  | .ro xs, k => k xs
  | .str z, k => k (strDs z)
  | _, _ => False
def tItsD (T : TF) : TAD := fun R Γ Φ => T R Γ fun d Γ' => d.its fun ds => Φ ds Γ'
section
variable {X : Cx} {tk : Tk} {tg e : Expr} {Te : TF} {U : TAD} {pos p : Pos}
theorem pi_imp {t t' : TI} (h : PI X tg e t) (i : ∀ σ H Q, t' σ H Q → t σ H Q) : PI X tg e t' := ⟨fun pins s σ H Q I w => h.run pins s σ H Q I (i σ H Q w)⟩
/-- a list, a tuple, a text, whichever comes -/
def iAny (K : PySem.W.Frag) (tl : TE) : TI := fun σ H R => tl σ H fun x H1 => (∃ a xs, x = .ref a ∧ SqL K H1 a xs ∧ R (Itl K a) H1) ∨ (∃ a xs, x = .ref a ∧ SqT K H1 a xs ∧ R (Itt K a) H1) ∨ (∃ z, x = .str z ∧ R (Its z) H1)
theorem pi_any {tl : TE} (hl : PE X e tl) : PI X tg e (iAny X.K tl) := by
  refine ⟨fun pins s σ H R I h => thn (hl.run pins s σ H _ I h) fun v s1 ⟨x, H1, I1, r1, q1⟩ => ?_⟩
  rcases q1 with ⟨a, xs, e1, hq, q⟩ | ⟨a, xs, e1, hq, q⟩ | ⟨z, e1, q⟩
  · subst e1
    cases r1
    obtain ⟨its, rv, pl, hz⟩ := I1.list hq
    exact wpAny_pyIter_list pl.isList (pi_one (tk := s1.toks) I1 _ (turn_list a _) ⟨_, Heap.get?_push_size _ rfl, rfl, rfl⟩ q)
  · subst e1
    cases r1
    obtain ⟨its, rv, pl, hz⟩ := I1.tuple hq
    exact wpAny_pyIter_tuple (show s1.heap.IsTuple a its.toArray from pl) (pi_one (tk := s1.toks) I1 _ (turn_tuple a _) ⟨_, Heap.get?_push_size _ rfl, rfl, rfl⟩ q)
  · subst e1
    obtain ⟨t, rfl⟩ := r1
    cases ha : z.cps.all (· < 128)
    · exact wpAny_pyIter_wide ha (pi_one (tk := s1.toks) I1 _ (turn_str _ z t "str_iterator" (.inr rfl)) ⟨_, Heap.get?_push_size _ rfl, rfl, rfl⟩ q)
    · exact wpAny_pyIter_ascii ha (pi_one (tk := s1.toks) I1 _ (turn_str _ z t "str_ascii_iterator" (.inl rfl)) ⟨_, Heap.get?_push_size _ rfl, rfl, rfl⟩ q)
theorem seq_uniq_l {K : PySem.W.Frag} {H : Hp} {a : Addr} {xs : List V} (h : H a = some (.lst xs)) : SqL K H a xs := SqL.of h
end
end Vl

namespace Vl
open PySem PySem.Spec PyProof.Rows L2

/-! ### another ground -/
def Bs.at (B : Bs) (G : Hp) : Bs := { B with G := G }
section
variable {K : PySem.W.Frag} {B : Bs} {σ : L2.St} {G H G1 : Hp} {Γ : List SD}
theorem EnvOk.rebase (e : EnvOk K B G H σ Γ) : EnvOk K (B.at G) G H σ Γ := ⟨e.len, e.gh, Same.refl _, fun _ _ q => .inl q, e.fr, e.im, e.ow, e.sep, e.bo⟩
theorem EnvOk.unbase (e : EnvOk K (B.at G1) G H σ Γ) (s : Same B.G G1) (n : ∀ a o, G1 a = some o → B.G a = some o ∨ B.H a = none) : EnvOk K B G H σ Γ :=
  ⟨e.len, e.gh, s.trans e.g0, fun a o q => by
    rcases e.gn a o q with z | z
    · exact n a o z
    · exact .inr z, e.fr, e.im, e.ow, e.sep, e.bo⟩
theorem TkD.at {X : Cx} {B : Bs} {R : ExD} {G1 : Hp} (t : TkD X B R) (s : Same B.G G1) (n : ∀ a o, G1 a = some o → B.G a = some o ∨ B.H a = none) : TkD X (B.at G1) R :=
  Takes.imp t fun c d σ H ⟨nm, pl, G, Γ, e, en, p, r⟩ => ⟨nm, pl, G, Γ, e, en.unbase s n, p, r⟩
theorem TkS.at {X : Cx} {bs : Option Nat} {B : Bs} {R : ExD} {G1 : Hp} (t : TkS X bs B R) (s : Same B.G G1) (n : ∀ a o, G1 a = some o → B.G a = some o ∨ B.H a = none) : TkS X bs (B.at G1) R := ⟨TkD.at t.1 s n, t.2⟩
theorem EnX.at {D : EndsD} {D' : Ends} (x : EnX K B D D') (s : Same B.G G1) (n : ∀ a o, G1 a = some o → B.G a = some o ∨ B.H a = none) : EnX K (B.at G1) D D' :=
  ⟨fun σ G H Γ e h => x.nx σ G H Γ (e.unbase s n) h, fun v r σ G H Γ e q h => x.rt v r σ G H Γ (e.unbase s n) (by cases r <;> exact q) h, fun σ G H Γ e h => x.bk σ G H Γ (e.unbase s n) h, fun σ G H Γ e h => x.ct σ G H Γ (e.unbase s n) h⟩

/-! ### turns -/
theorem it_list {p : Addr} {xs : List V} {ds : List D} (h : G p = some (.lst xs)) (r : Reps K G xs ds) : ItOk K (Itl K p) G ds := by
  refine ⟨fun i H s hi => ?_, fun i H s hi => ⟨xs, SqL.of (s _ _ h), by rw [r.length, hi]; exact Nat.le_refl _⟩, fun i G2 H x H' s1 s2 hi ⟨e, y⟩ => ?_⟩
  · obtain ⟨v, h1, _⟩ := r.get (i := i) (List.getElem?_eq_getElem hi)
    exact ⟨xs, v, SqL.of (s _ _ h), h1⟩
  · subst e
    obtain ⟨d, h1, h2⟩ := r.getV (y xs (SqL.of (s2 _ _ (s1 _ _ h))))
    exact ⟨d, G2, h1, Ext.refl s2, h2.mono s1⟩
theorem it_ro {p : Addr} {xs : List V} {ds : List D} (h : SqL K G p xs) (r : Reps K G xs ds) : ItOk K (Itl K p) G ds := by
  refine ⟨fun i H s hi => ?_, fun i H s hi => ⟨xs, same_l s h, by rw [r.length, hi]; exact Nat.le_refl _⟩, fun i G2 H x H' s1 s2 hi ⟨e, y⟩ => ?_⟩
  · obtain ⟨v, h1, _⟩ := r.get (i := i) (List.getElem?_eq_getElem hi)
    exact ⟨xs, v, same_l s h, h1⟩
  · subst e
    obtain ⟨d, h1, h2⟩ := r.getV (y xs (same_l s2 (same_l s1 h)))
    exact ⟨d, G2, h1, Ext.refl s2, h2.mono s1⟩
theorem it_tup {p : Addr} {xs : List V} {ds : List D} (h : SqT K G p xs) (r : Reps K G xs ds) : ItOk K (Itt K p) G ds := by
  refine ⟨fun i H s hi => ?_, fun i H s hi => ⟨xs, same_t s h, by rw [r.length, hi]; exact Nat.le_refl _⟩, fun i G2 H x H' s1 s2 hi ⟨e, y⟩ => ?_⟩
  · obtain ⟨v, h1, _⟩ := r.get (i := i) (List.getElem?_eq_getElem hi)
    exact ⟨xs, v, same_t s h, h1⟩
  · subst e
    obtain ⟨d, h1, h2⟩ := r.getV (y xs (same_t s2 (same_t s1 h)))
    exact ⟨d, G2, h1, Ext.refl s2, h2.mono s1⟩
theorem strDs_length (z : Str) : (strDs z).length = z.cps.size := by unfold strDs; simp
theorem it_str {z : Str} : ItOk K (Its z) G (strDs z) := by
  refine ⟨fun i H s hi => by rw [strDs_length] at hi; exact hi, fun i H s hi => by rw [strDs_length] at hi; exact Nat.le_of_eq hi.symm, fun i G2 H x H' s1 s2 hi ⟨e, c, h1, h2⟩ => ?_⟩
  subst e h2
  refine ⟨.str ⟨#[c]⟩, G2, ?_, Ext.refl s2, .str _⟩
  unfold strDs
  rw [List.getElem?_map, Array.getElem?_toList, h1]
  rfl
def rangeDs (lo : Int) (n : Nat) : List D := (List.range n).map fun (i : Nat) => D.int (lo + (i : Int))
theorem rangeDs_length (lo : Int) (n : Nat) : (rangeDs lo n).length = n := by unfold rangeDs; simp
theorem it_range {lo : Int} {n : Nat} : ItOk K (Itr lo n) G (rangeDs lo n) := by
  refine ⟨fun i H s hi => by rw [rangeDs_length] at hi; exact hi, fun i H s hi => by rw [rangeDs_length] at hi; exact Nat.le_of_eq hi.symm, fun i G2 H x H' s1 s2 hi ⟨e, h2⟩ => ?_⟩
  subst e h2
  rw [rangeDs_length] at hi
  refine ⟨.int (lo + i), G2, ?_, Ext.refl s2, .int _⟩
  unfold rangeDs
  rw [List.getElem?_map, List.getElem?_range hi]
  rfl
end
section
variable {X : Cx} {tk : Tk} {tg e : Expr} {Te : TF} {U : TAD} {pos p : Pos}
theorem pfi_any (he : PF X tk e Te) : PFI X tk tg e (tItsD Te) := pi_imp (pi_any he) fun σ H Q ⟨B, R, Γ, G, Φ, t, en, h, k⟩ => ⟨B, R, Γ, G, _, t, en, h, fun v G1 H1 Γ1 d p1 r1 h1 => by
  cases r1 with
  | tup hp l r => exact .inr (.inl ⟨_, _, rfl, same_t p1.env.gh hp, k _ G1 H1 Γ1 _ p1 (it_tup hp r) h1⟩)
  | lst hp l r => exact .inl ⟨_, _, rfl, SqL.of (p1.env.gh _ _ hp), k _ G1 H1 Γ1 _ p1 (it_list hp r) h1⟩
  | ro hp l r => exact .inl ⟨_, _, rfl, same_l p1.env.gh hp, k _ G1 H1 Γ1 _ p1 (it_ro hp r) h1⟩
  | str z => exact .inr (.inr ⟨z, rfl, k _ G1 H1 Γ1 _ p1 it_str h1⟩)
  | _ => exact h1.elim⟩
def tRng1 (T : TF) : TAD := fun R Γ Φ => T R Γ fun d Γ' => d.asInt fun j => -(2 ^ 62) ≤ j ∧ j < 2 ^ 62 ∧ Φ (rangeDs 0 j.toNat) Γ'
def tRng2 (T U : TF) : TAD := fun R Γ Φ => T R Γ fun d Γ1 => U R Γ1 fun d2 Γ2 => d.asInt fun i => d2.asInt fun j => (-(2 ^ 62) ≤ i ∧ i < 2 ^ 62 ∧ -(2 ^ 62) ≤ j ∧ j < 2 ^ 62) ∧ Φ (rangeDs i (j - i).toNat) Γ2
theorem pfi_range1 (hm : X.mg "range" = none) (he : PF X tk e Te) (hg : Gl X "range" := by rfl) (hs : starEach [e] X.env = [(false, eval e X.env)] := by rfl) : PFI X tk tg (.Call (.Name "range" p) [e] [] pos) (tRng1 Te) :=
  pi_imp (pi_range1 hg hm (pa_cons he pa_nil hs) hs) fun σ H Q ⟨B, R, Γ, G, Φ, t, en, h, k⟩ => ⟨B, R, Γ, G, _, t, en, h, fun v G1 H1 Γ1 d p1 r1 h1 => by
    obtain ⟨j, e1, _, h2, h3, h4⟩ := r1.asInt h1
    exact ⟨j, by rw [e1], h2, h3, k _ G1 H1 Γ1 _ p1 it_range h4⟩⟩
theorem pfi_range2 {a b : Expr} {Ta Tb : TF} (hm : X.mg "range" = none) (ha : PF X tk a Ta) (hb : PF X tk b Tb) (hg : Gl X "range" := by rfl) (hs : starEach [a, b] X.env = [(false, eval a X.env), (false, eval b X.env)] := by rfl) (hs2 : starEach [a, b] X.env = (false, eval a X.env) :: starEach [b] X.env := by rfl) (hs3 : starEach [b] X.env = (false, eval b X.env) :: starEach [] X.env := by rfl) : PFI X tk tg (.Call (.Name "range" p) [a, b] [] pos) (tRng2 Ta Tb) :=
  pi_imp (pi_range2 hg hm (pa_cons ha (pa_cons hb pa_nil hs3) hs2) hs (by rw [hs3] <;> rfl)) fun σ H Q ⟨B, R, Γ, G, Φ, t, en, h, k⟩ => ⟨B, R, Γ, G, _, t, en, h, fun v G1 H1 Γ1 d p1 r1 h1 => ⟨B, R, Γ1, G1, _, t, p1.env, h1, fun v2 G2 H2 Γ2 d2 p2 r2 h2 => by
    obtain ⟨i, e1, _, h3⟩ := r1.asInt h2
    obtain ⟨j, e2, _, h4, h5⟩ := r2.asInt h3
    exact ⟨i, j, by rw [e1, e2], h4, k _ G2 H2 Γ2 _ (p1.trans p2) it_range h5⟩⟩⟩

/-! ### targets -/
abbrev TGD := D → List SD → (List SD → Prop) → Prop
abbrev TGsD := List D → List SD → (List SD → Prop) → Prop
def lG (K : PySem.W.Frag) (tk : Tk) (T : TGD) : TG := fun v σ H Q => ∃ (B : Bs) (R : ExD) (Γ : List SD) (G : Hp) (d : D) (Φ : List SD → Prop), tk B R ∧ EnvOk K B G H σ Γ ∧ Rep K G v d ∧ T d Γ Φ ∧ ∀ σ' G' Γ', EnvOk K B G' H σ' Γ' → Same G G' → Φ Γ' → Q σ' H
def lGs (K : PySem.W.Frag) (tk : Tk) (T : TGsD) : TGs := fun vs σ H Q => ∃ (B : Bs) (R : ExD) (Γ : List SD) (G : Hp) (ds : List D) (Φ : List SD → Prop), tk B R ∧ EnvOk K B G H σ Γ ∧ Reps K G vs ds ∧ T ds Γ Φ ∧ ∀ σ' G' Γ', EnvOk K B G' H σ' Γ' → Same G G' → Φ Γ' → Q σ' H
def PFG (X : Cx) (tk : Tk) (tg : Expr) (T : TGD) : Prop := PG X tg (lG X.K tk T)
def PFGs (X : Cx) (tk : Tk) (tg : List Expr) (T : TGsD) : Prop := PGs X tg (lGs X.K tk T)
theorem pg_imp {t t' : TG} (h : PG X tg t) (i : ∀ v σ H Q, t' v σ H Q → t v σ H Q) : PG X tg t' := ⟨fun pins s σ H v u Q I r w => h.run pins s σ H v u Q I r (i v σ H Q w)⟩
theorem pgs_imp {tg : List Expr} {t t' : TGs} (h : PGs X tg t) (i : ∀ v σ H Q, t' v σ H Q → t v σ H Q) : PGs X tg t' := ⟨fun pins s σ H v u Q I r w => h.run pins s σ H v u Q I r (i v σ H Q w)⟩
def gNameD (i : Nat) : TGD := fun d Γ Φ => Φ (Γ.set i (.im d))
theorem pfg_name (i : Nat) {x : Str} (nb : NbT tk i) (hN : X.N.Nodup) (hi : X.N[i]? = some x := by rfl) (hx : Loc X.env.scope x := by first | exact Or.inl rfl | exact Or.inr rfl) (hf : X.fn x = true ∨ X.env.scope.names.lookup x = some .local := by first | exact .inl rfl | exact .inr rfl) : PFG X tk (.Name x pos) (gNameD i) :=
  pg_imp (pg_name hN hi hx hf) fun v σ H Q ⟨B, R, Γ, G, d, Φ, t, en, r, h, k⟩ => k _ G _ (en.setIm (nb B R t) r) (Same.refl _) h
def gNilD : TGsD := fun ds Γ Φ => ds = [] ∧ Φ Γ
def gConsD (t : TGD) (u : TGsD) : TGsD := fun ds Γ Φ => match ds with
  | d :: r => t d Γ fun Γ' => u r Γ' Φ
  | [] => False
theorem pfgs_nil : PFGs X tk [] gNilD := pgs_imp pgs_nil fun v σ H Q ⟨B, R, Γ, G, ds, Φ, t, en, r, ⟨h1, h2⟩, k⟩ => by
  subst h1
  cases r
  exact ⟨rfl, k σ G Γ en (Same.refl _) h2⟩
theorem pfgs_cons {es : List Expr} {t : TGD} {u : TGsD} (h1 : PFG X tk e t) (h2 : PFGs X tk es u) (hs : (assignEach (e :: es) X.env).map (·.2) = assign e X.env :: (assignEach es X.env).map (·.2) := by rfl) : PFGs X tk (e :: es) (gConsD t u) :=
  pgs_imp (pgs_cons h1 h2 hs) fun vs σ H Q ⟨B, R, Γ, G, ds, Φ, t, en, r, h, k⟩ => by
    cases r with
    | nil => exact h.elim
    | cons r1 r2 => exact ⟨_, _, rfl, B, R, Γ, G, _, _, t, en, r1, h, fun σ' G' Γ' en' s h' => ⟨B, R, Γ', G', _, Φ, t, en', r2.mono s, h', fun σ2 G2 Γ2 en2 s2 h2 => k σ2 G2 Γ2 en2 (s.trans s2) h2⟩⟩
/-- (a, b, ..) = a tuple, a list of that length -/
def gTupD (n : Nat) (u : TGsD) : TGD := fun d Γ Φ => match d with
  | .tup ds => ds.length = n ∧ u ds Γ Φ
  | .lst ds => ds.length = n ∧ u ds Γ Φ
  | _ => False
theorem pfg_tup {es : List Expr} {k : Nat} {u : TGsD} {n : Nat} (hc : X.calm = true) (h : PFGs X tk es u) (hn : (assignEach es X.env).length = n := by rfl) (hst : (assignEach es X.env).findIdx? (·.1) = none := by rfl) : PFG X tk (.Tuple es k pos) (gTupD n u) := by
  refine ⟨fun pins s σ H v w Q I r hw => ?_⟩
  obtain ⟨B, R, Γ, G, d, Φ, t, en, rd, h1, kk⟩ := hw
  cases rd with
  | tup hp l rr => exact (pg_tup hc h hn hst).run pins s σ H _ w Q I r ⟨_, _, rfl, same_t en.gh hp, by rw [rr.length]; exact h1.1, B, R, Γ, G, _, Φ, t, en, rr, h1.2, kk⟩
  | lst hp l rr => exact (L2.pg_lst hc h hn hst).run pins s σ H _ w Q I r ⟨_, _, rfl, SqL.of (en.gh _ _ hp), by rw [rr.length]; exact h1.1, B, R, Γ, G, _, Φ, t, en, rr, h1.2, kk⟩
  | _ => exact h1.elim
def tAsgD (T : TF) (g : TGD) : TSD := fun R D Γ => T R Γ fun d Γ' => g d Γ' D.nx
theorem pfs_asg {g : TGD} (he : PF X tk e Te) (hg : PFG X tk tg g) (hs : swapsWithSole [tg] e pos.line X.env = pure false := by rfl) (hw : swappedStores [tg] e X.env = pure none := by rfl) (h1 : (assignEach [tg] X.env).map (·.2) = [assign tg X.env] := by rfl) : PFS X tk (.Assign [tg] e pos) (tAsgD Te g) :=
  ps_imp (ps_asg he hg hs hw h1) fun D' σ H ⟨B, R, Γ, G, D, t, en, h, x⟩ => ⟨B, R, Γ, G, _, t, en, h, fun v G1 H1 Γ1 d p r h1 => ⟨B, R, Γ1, G1, d, _, t, p.env, r, h1, fun σ' G' Γ' en' _ h2 => x.nx σ' G' H1 Γ' en' h2⟩⟩
end

/-! ### for -/
def tForD (it : TAD) (g : TGD) (tb : TSD) : TSD := fun R D Γ => it R Γ fun ds Γ1 => ∃ P : Nat → List SD → Prop, P 0 Γ1 ∧
  (∀ (i : Nat) d Γ', ds[i]? = some d → P i Γ' → g d Γ' fun Γ2 => tb R { nx := P (i + 1), rt := D.rt, bk := D.nx, ct := P (i + 1) } Γ2) ∧ ∀ Γ', P ds.length Γ' → D.nx Γ'
section
variable {X : Cx} {bs : Option Nat} {tg iter : Expr} {body : List Stmt} {it : TAD} {g : TGD} {tb : TSD} {pos : Pos}
theorem pfs_for (hp : PassesOwn (model X.prog X.w) X.A X.env X.xe) (hc : X.calm = true) (hi : PFI X (TkS X bs) tg iter it) (hg : PFG X (TkS X bs) tg g) (hb : PFSs X (TkS X bs) body tb) (hs : ∀ x, foldedSetIterable iter X.env x = pure x := by intro _; rfl) : PFS X (TkS X bs) (.For tg iter body [] pos) (tForD it g tb) := by
  refine ps_imp (ps_for hp hc hi hg hb hs) fun D' σ H ⟨B, R, Γ, G, D, t, en, h, x⟩ => ⟨B, R, Γ, G, _, t, en, h, fun J G1 H1 Γ1 ds p1 ok ⟨P, h0, hs, hd⟩ => ?_⟩
  have b1 : Same B.G G1 := p1.env.g0
  have b2 := p1.env.gn
  have t1 := TkS.at t b1 b2
  refine ⟨fun i m σ' H' => m = ds.length - i ∧ i ≤ ds.length ∧ ∃ G' Γ', EnvOk X.K (B.at G1) G' H' σ' Γ' ∧ P i Γ', ⟨ds.length, by simp, Nat.zero_le _, G1, Γ1, p1.env.rebase, h0⟩, ?_⟩
  rintro i m σ' H' ⟨rfl, hle, G', Γ', en', hP⟩
  by_cases hlt : i < ds.length
  · refine .inr ⟨ok.1 i H' (en'.g0.trans en'.gh) hlt, fun σ2 H2 => ∃ G2 Γ2, EnvOk X.K (B.at G1) G2 H2 σ2 Γ2 ∧ P (i + 1) Γ2, fun σ2 H2 ⟨G2, Γ2, en2, hP2⟩ => ⟨ds.length - (i + 1), by omega, rfl, hlt, G2, Γ2, en2, hP2⟩, fun v H2 hy => ?_⟩
    obtain ⟨d, G2, e1, ex, rd⟩ := ok.2.2 i G' H' v H2 en'.g0 en'.gh hlt hy
    have en2 := (en'.ext ex).env
    refine ⟨B.at G1, R, Γ', G2, d, _, t1, en2, rd, hs i d Γ' e1 hP, fun σ3 G3 Γ3 en3 _ h3 => ⟨B.at G1, R, Γ3, G3, _, t1, en3, h3, ?_⟩⟩
    have x1 := x.at b1 b2
    exact ⟨fun σ4 G4 H4 Γ4 e4 h4 => ⟨G4, Γ4, e4, h4⟩, x1.rt, fun σ4 G4 H4 Γ4 e4 h4 => x1.nx σ4 G4 H4 Γ4 e4 h4, fun σ4 G4 H4 Γ4 e4 h4 => ⟨G4, Γ4, e4, h4⟩⟩
  · have ei : i = ds.length := by omega
    subst ei
    exact .inl ⟨ok.2.1 _ H' (en'.g0.trans en'.gh) rfl, x.nx σ' G' H' Γ' (en'.unbase b1 b2) (hd Γ' hP)⟩
end
end Vl

namespace Vl
open PySem PySem.Spec PyProof.Rows L2

/-! ### defs -/
inductive AD where
  | im (d : D) | ow (c : Cl)
def AD.sd : AD → SD
  | .im d => .im d
  | .ow c => .ow c
/-- what a def does, by values: its arguments, what is wanted of its value (and of the borrowed cell), of an exception -/
abbrev SpD := List AD → (RD → Option Cl → Prop) → (Str → Option (List (Str × D)) → Option Cl → Prop) → Prop
def AOk (K : PySem.W.Frag) (G H : Hp) (v : V) : AD → Prop
  | .im d => Rep K G v d
  | .ow c => ∃ l o, v = .ref l ∧ G l = none ∧ H l = some o ∧ ClOk K G o c
/-- the borrowed address of a list of arguments -/
def lbOf : List V → List AD → Option Addr
  | .ref l :: _, .ow _ :: _ => some l
  | _ :: vs, _ :: as => lbOf vs as
  | _, _ => none
inductive AsOk (K : PySem.W.Frag) (G H : Hp) : List V → List AD → Prop
  | nil : AsOk K G H [] []
  | cons {v : V} {a : AD} {vs : List V} {as : List AD} (h : AOk K G H v a) (t : AsOk K G H vs as) : AsOk K G H (v :: vs) (a :: as)
/-- behind a call: what the caller knows -/
structure PostR (K : PySem.W.Frag) (G0 H0 : Hp) (lb : Option Addr) (G' H' : Hp) (c' : Option Cl) : Prop where
  gg : Same G0 G'
  gh : Same G' H'
  gn : ∀ a o, G' a = some o → G0 a = some o ∨ H0 a = none
  hh : ∀ a o, H0 a = some o → lb ≠ some a → H' a = some o
  bo : ∀ l, lb = some l → ∃ c o, c' = some c ∧ G' l = none ∧ H' l = some o ∧ ClOk K G' o c
def RetR (K : PySem.W.Frag) (H0 : Hp) (lb : Option Addr) (G' H' : Hp) (v : V) : RD → Prop
  | .im d => Rep K G' v d
  | .fr c => ∃ l o, v = .ref l ∧ G' l = none ∧ H' l = some o ∧ ClOk K G' o c ∧ H0 l = none
def liftSp (K : PySem.W.Frag) (n : Nat) (sp : SpD) : Sp := fun vs H0 Q E => ∃ (G0 : Hp) (as : List AD) (Φ : RD → Option Cl → Prop) (R : Str → Option (List (Str × D)) → Option Cl → Prop), vs.length = n ∧ Same G0 H0 ∧ AsOk K G0 H0 vs as ∧ sp as Φ R ∧
  (∀ v r c' G' H', PostR K G0 H0 (lbOf vs as) G' H' c' → RetR K H0 (lbOf vs as) G' H' v r → Φ r c' → Q v H') ∧
  (∀ c pl c' G' H' dd, PostR K G0 H0 (lbOf vs as) G' H' c' → PlOk K G' H' dd pl → R c pl c' → E (.ref (He.ga K c)) dd H')
abbrev FnV (P : Program) (w : World) (K : PySem.W.Frag) (mg : Str → Option Value) (base : Heap) (k : Nat) (f : Addr) (fd : FuncData) (ps : List Str) (sp : SpD) : Prop :=
  FnOk P w K mg base (L2.CX P w) k f fd ps (liftSp K ps.length sp)

/-- the place of the borrowed argument -/
def bsOf : List AD → Option Nat
  | [] => none
  | .ow _ :: _ => some 0
  | .im _ :: as => (bsOf as).map (· + 1)
def bcOf (bs : Option Nat) (Γ : List SD) : Option Cl := bs.bind fun i => match Γ[i]? with
  | some (.ow c) => some c
  | _ => none
def startG (n : Nat) (as : List AD) : List SD := as.map AD.sd ++ List.replicate (n - as.length) SD.un
/-- no two cells -/
def oneOw (as : List AD) : Prop := ∀ (i j : Nat) c c', as[i]? = some (.ow c) → as[j]? = some (.ow c') → i = j
/-- a def's body as what it does -/
def bodySp (n : Nat) (bs : Option Nat) (T : TSD) : SpD := fun as Φ R => as.length ≤ n ∧ bsOf as = bs ∧ oneOw as ∧
  T (fun c pl Γ => R c pl (bcOf bs Γ)) { nx := fun Γ => Φ (.im .non) (bcOf bs Γ), rt := fun r Γ => Φ r (bcOf bs Γ), bk := fun _ => False, ct := fun _ => False } (startG n as)

section
variable {K : PySem.W.Frag} {G H : Hp}
theorem AsOk.length : ∀ {vs : List V} {as : List AD}, AsOk K G H vs as → vs.length = as.length
  | _, _, .nil => rfl
  | _, _, .cons _ t => congrArg (· + 1) t.length
theorem AsOk.get : ∀ {vs : List V} {as : List AD} {i : Nat} {a : AD}, AsOk K G H vs as → as[i]? = some a → ∃ v, vs[i]? = some v ∧ AOk K G H v a
  | _, _, _, _, .nil, e => by simp at e
  | _, _, 0, a, .cons h t, e => ⟨_, rfl, by simp at e; subst e; exact h⟩
  | _, _, i + 1, a, .cons h t, e => by
    obtain ⟨v, q, r⟩ := t.get (i := i) (a := a) (by simpa using e)
    exact ⟨v, by simpa using q, r⟩
theorem lbOf_of : ∀ {vs : List V} {as : List AD}, AsOk K G H vs as → ∀ i, bsOf as = some i → ∃ l c, lbOf vs as = some l ∧ as[i]? = some (.ow c) ∧ vs[i]? = some (.ref l)
  | _, _, .nil, i, e => by cases e
  | _, _, .cons (v := v) (a := .ow c) ⟨l, o, e1, _⟩ t, i, e => by
    cases e
    subst e1
    exact ⟨l, c, rfl, rfl, rfl⟩
  | _, _, .cons (v := v) (a := .im d) h t, i, e => by
    obtain ⟨j, e1, e2⟩ := Option.map_eq_some_iff.mp (show (bsOf _).map (· + 1) = some i from e)
    subst e2
    obtain ⟨l, c, h1, h2, h3⟩ := lbOf_of t j e1
    refine ⟨l, c, ?_, by simpa using h2, by simpa using h3⟩
    cases v <;> exact h1
theorem lbOf_none : ∀ {vs : List V} {as : List AD}, AsOk K G H vs as → bsOf as = none → lbOf vs as = none
  | _, _, .nil, _ => rfl
  | _, _, .cons (v := v) (a := .ow c) h t, e => by cases e
  | _, _, .cons (v := v) (a := .im d) h t, e => by
    have e1 := Option.map_eq_none_iff.mp (show (bsOf _).map (· + 1) = none from e)
    have := lbOf_none t e1
    cases v <;> exact this
theorem bsOf_ow : ∀ {as : List AD} {i : Nat}, bsOf as = some i → ∃ c, as[i]? = some (.ow c)
  | .ow c :: _, i, e => by cases e; exact ⟨c, rfl⟩
  | .im _ :: as, i, e => by
    obtain ⟨j, e1, e2⟩ := Option.map_eq_some_iff.mp (show (bsOf as).map (· + 1) = some i from e)
    subst e2
    obtain ⟨c, h⟩ := bsOf_ow e1
    exact ⟨c, by simpa using h⟩
end
/-- the environment at a def's entry -/
theorem start_env {K : PySem.W.Frag} {G H : Hp} {vs : List V} {as : List AD} {N : List Str} {bs : Option Nat} (s : Same G H) (a : AsOk K G H vs as) (hl : as.length ≤ N.length) (hb : bsOf as = bs) (h1 : oneOw as) :
    EnvOk K ⟨G, H, bs.bind fun i => (lbOf vs as).map fun l => (i, l)⟩ G H (L2.start N vs) (startG N.length as) := by
  have hvl := a.length
  have fs : ∀ (i : Nat) x, (startG N.length as)[i]? = some x → x = .un ∨ ∃ y, as[i]? = some y ∧ x = y.sd := fun i x q => by
    unfold startG at q
    by_cases hi : i < as.length
    · rw [List.getElem?_append_left (by simpa using hi), List.getElem?_map] at q
      cases e : as[i]? with
      | none => rw [e] at q; cases q
      | some y => rw [e] at q; cases q; exact .inr ⟨y, rfl, rfl⟩
    · rw [List.getElem?_append_right (by simpa using Nat.le_of_not_lt hi), List.getElem?_replicate] at q
      split at q
      · cases q; exact .inl rfl
      · cases q
  have fv : ∀ (i : Nat) v, vs[i]? = some v → (L2.start N vs)[i]? = some (some v) := fun i v q => by
    have hi : i < vs.length := (List.getElem?_eq_some_iff.mp q).1
    unfold L2.start
    rw [List.getElem?_append_left (by simpa using hi), List.getElem?_map, q]
    rfl
  have fi : ∀ (i : Nat) d, (startG N.length as)[i]? = some (.im d) → as[i]? = some (.im d) := fun i d q => by
    rcases fs i _ q with z | ⟨y, z1, z2⟩
    · cases z
    · cases y with
      | im d2 => cases z2; exact z1
      | ow c => cases z2
  have fo : ∀ (i : Nat) c, (startG N.length as)[i]? = some (.ow c) → as[i]? = some (.ow c) := fun i c q => by
    rcases fs i _ q with z | ⟨y, z1, z2⟩
    · cases z
    · cases y with
      | im d2 => cases z2
      | ow c2 => cases z2; exact z1
  have fb : ∀ (i : Nat) c, as[i]? = some (.ow c) → bs = some i := fun i c q => by
    cases e : bs with
    | none =>
      rw [e] at hb
      exfalso
      clear hvl fs fv fi fo h1 hl a s
      induction as generalizing i with
      | nil => simp at q
      | cons x xs ih =>
        cases x with
        | ow c2 => cases hb
        | im d =>
          cases i with
          | zero => simp at q
          | succ i => exact ih (Option.map_eq_none_iff.mp (show (bsOf xs).map (· + 1) = none from hb)) i (by simpa using q)
    | some j =>
      rw [e] at hb
      obtain ⟨c2, q2⟩ := bsOf_ow hb
      rw [h1 j i c2 c q2 q]
  refine ⟨?_, s, Same.refl _, fun a o q => .inl q, fun a o q _ => q, fun i d q => ?_, fun i c q => ?_, fun i j c c' l q1 q2 _ _ => h1 i j c c' (fo i c q1) (fo j c' q2), fun i l q => ?_⟩
  · unfold startG L2.start
    simp only [List.length_append, List.length_map, List.length_replicate]
    omega
  · obtain ⟨v, q1, q2⟩ := a.get (fi i d q)
    exact ⟨v, fv i v q1, q2⟩
  · obtain ⟨v, q1, l, o, q2, q3, q4, q5⟩ := a.get (fo i c q)
    subst q2
    refine ⟨l, o, fv i _ q1, q3, q4, q5, .inr ?_⟩
    have e := fb i c (fo i c q)
    subst e
    obtain ⟨l2, c2, z1, _, z3⟩ := lbOf_of a i hb
    rw [q1] at z3
    cases z3
    show (some i).bind (fun i => (lbOf vs as).map fun l => (i, l)) = some (i, l)
    rw [z1]
    rfl
  · obtain ⟨j, z1, z2⟩ := Option.bind_eq_some_iff.mp q
    obtain ⟨l2, z3, z4⟩ := Option.map_eq_some_iff.mp z2
    cases z4
    rw [z1] at hb
    obtain ⟨l3, c, w1, w2, w3⟩ := lbOf_of a i hb
    rw [w1] at z3
    cases z3
    refine ⟨fv i _ w3, c, ?_⟩
    have hi : i < as.length := (List.getElem?_eq_some_iff.mp w2).1
    unfold startG
    rw [List.getElem?_append_left (by simpa using hi), List.getElem?_map, w2]
    rfl
theorem env_post {K : PySem.W.Frag} {G H G' H' : Hp} {vs : List V} {as : List AD} {bs : Option Nat} {σ : L2.St} {Γ : List SD} (a : AsOk K G H vs as) (hb : bsOf as = bs)
    (e : EnvOk K ⟨G, H, bs.bind fun i => (lbOf vs as).map fun l => (i, l)⟩ G' H' σ Γ) : PostR K G H (lbOf vs as) G' H' (bcOf bs Γ) := by
  refine ⟨e.g0, e.gh, e.gn, fun x o q n => e.fr x o q fun i z => ?_, fun l q => ?_⟩
  · obtain ⟨j, z1, z2⟩ := Option.bind_eq_some_iff.mp z
    obtain ⟨l2, z3, z4⟩ := Option.map_eq_some_iff.mp z2
    cases z4
    exact n z3
  · cases e1 : bs with
    | none =>
      rw [e1] at hb
      rw [lbOf_none a hb] at q
      cases q
    | some i =>
      have z : (⟨G, H, bs.bind fun i => (lbOf vs as).map fun l => (i, l)⟩ : Bs).bo = some (i, l) := by
        show bs.bind (fun i => (lbOf vs as).map fun l => (i, l)) = some (i, l)
        rw [e1, q]
        rfl
      obtain ⟨w1, c, w2⟩ := e.bo i l z
      obtain ⟨l2, o, w3, w4, w5, w6, _⟩ := e.ow i c w2
      rw [w1] at w3
      cases w3
      exact ⟨c, o, by show (some i).bind _ = _; simp [w2], w4, w5, w6⟩

section
variable {P : Program} {w : World} {K : PySem.W.Frag} {mg : Str → Option Value} {base : Heap}
/-- THE RULE for a def by values: its body's reading T -/
theorem Fun.okV {x qual : Str} {st : Stmt} {f : Addr} {fd : FuncData} {N ps : List Str} {k : Nat} {dv : List V} {kw : List (Str × V)} {T : TSD} (bs : Option Nat) (F : FunD K x qual (defArgs st) (defBody st) (defScope st) dv kw f fd) (S : FnScope N ps (defScope st)) (hn : ps.length ≤ N.length)
    (hbody : ∀ (cdv : Value) (A : Around) (outer : List Env) (s : Shared) (H : Hp) (E : XK), Room k (A.deeper (envOfC qual (defScope st) s.heap.objs.size f cdv)) →
      PFSs (cxOf (L2.CX P w) P w K mg base N qual (defScope st) f cdv A outer s H E) (TkS (cxOf (L2.CX P w) P w K mg base N qual (defScope st) f cdv A outer s H E) bs) (defBody st) T) :
    FnV P w K mg base (k + 1) f fd ps (bodySp N.length bs T) := by
  obtain ⟨oc, od, dV, kV, doc, pm, an, cdv, ct, osl, rfl, lk, hcd, _, _⟩ := F.ex
  refine fn_of lk hcd S (fun vs H Q E ⟨_, _, _, _, h, _⟩ => h) fun A outer s H vs Q E hr hsp => ?_
  obtain ⟨G0, as, Φ, R, hl, sm, hA, ⟨h1, h2, h3, hT⟩, hQ, hE⟩ := hsp
  refine ⟨_, hbody cdv A outer s H E hr, ⟨G0, H, bs.bind fun i => (lbOf vs as).map fun l => (i, l)⟩, fun c pl Γ => R c pl (bcOf bs Γ), startG N.length as, G0, _, ⟨?_, fun i l z => ?_⟩, start_env sm hA h1 h2 h3, hT, ?_⟩
  · refine Takes.imp (takes_of rfl rfl rfl rfl) fun cls d σ H' ⟨c, pl, G', Γ, e1, en, hp, hr⟩ => ?_
    subst e1
    exact hE c pl _ G' H' d (env_post hA h2 en) hp hr
  · obtain ⟨j, z1, z2⟩ := Option.bind_eq_some_iff.mp z
    obtain ⟨l2, z3, z4⟩ := Option.map_eq_some_iff.mp z2
    cases z4
    exact z1
  · refine ⟨fun σ G' H' Γ en h => hQ .non (.im .non) _ G' H' (env_post hA h2 en) .non h, fun v r σ G' H' Γ en hr h => ?_, fun _ _ _ _ _ z => z.elim, fun _ _ _ _ _ z => z.elim⟩
    refine hQ v r _ G' H' (env_post hA h2 en) ?_ h
    cases r <;> exact hr
end
end Vl

namespace Vl
open PySem PySem.Spec PyProof.Rows L2

/-! ### calls of defs -/
section
variable {K : PySem.W.Frag} {B : Bs} {σ : L2.St} {G H G' H' : Hp} {Γ : List SD} {c' : Option Cl}
theorem PostR.ext (p : PostR K G H none G' H' c') : Ext G H G' H' := ⟨p.gg, fun a o q => p.hh a o q (fun z => nomatch z), p.gh, p.gn⟩
theorem EnvOk.postB (e : EnvOk K B G H σ Γ) {i : Nat} {l : Addr} {c c1 : Cl} {o : HO} (hΓ : Γ[i]? = some (.ow c)) (hσ : σ[i]? = some (some (.ref l))) (p : PostR K G H (some l) G' H' c') (hl : G' l = none) (ho : H' l = some o) (hc : ClOk K G' o c1) :
    EvP K B σ G H Γ G' H' (Γ.set i (.ow c1)) := by
  have hi : i < Γ.length := (List.getElem?_eq_some_iff.mp hΓ).1
  obtain ⟨l1, o1, a1, a2, a3, a4, a5⟩ := e.ow i c hΓ
  rw [hσ] at a1
  cases a1
  refine ⟨⟨by rw [List.length_set]; exact e.len, p.gh, e.g0.trans p.gg, fun a u q => ?_, fun a u q n => ?_, fun j d q => ?_, fun j d q => ?_, fun j k d d' x q1 q2 z1 z2 => ?_, fun j x q => ?_⟩, p.gg, p.gn, fun a u q n => ?_, fun j => ⟨fun ⟨d, q⟩ => ?_, fun ⟨d, q⟩ => ?_⟩⟩
  · rcases p.gn a u q with z | z
    · exact e.gn a u z
    · exact .inr (e.bhNone z)
  · have ne : some l ≠ some a := fun z => by
      cases z
      rcases a5 with z | z
      · rw [q] at z; cases z
      · exact n i z
    exact p.hh a u (e.fr a u q n) ne
  · rcases set_at q with ⟨_, _, z⟩ | ⟨_, z⟩
    · cases z
    · obtain ⟨v, v1, v2⟩ := e.im j d z
      exact ⟨v, v1, v2.mono p.gg⟩
  · rcases set_at q with ⟨z, _, z2⟩ | ⟨z, z2⟩
    · subst z
      cases z2
      exact ⟨l, o, hσ, hl, ho, hc, a5⟩
    · obtain ⟨x, o2, b1, b2, b3, b4, b5⟩ := e.ow j d z2
      have ne : x ≠ l := fun w => z (e.sep i j c d l hΓ z2 hσ (by rw [b1, w]))
      refine ⟨x, o2, b1, ?_, p.hh x o2 b3 (fun w => ne (Option.some.inj w).symm), b4.mono p.gg, b5⟩
      cases w : G' x with
      | none => rfl
      | some u =>
        rcases p.gn x u w with w | w
        · rw [b2] at w; cases w
        · rw [b3] at w; cases w
  · have f : ∀ (m : Nat) (d : Cl), (Γ.set i (.ow c1))[m]? = some (.ow d) → ∃ d0, Γ[m]? = some (.ow d0) := fun m d q => by
      rcases set_at q with ⟨z, _, _⟩ | ⟨_, z⟩
      · subst z; exact ⟨c, hΓ⟩
      · exact ⟨d, z⟩
    obtain ⟨d1, y1⟩ := f j d q1
    obtain ⟨d2, y2⟩ := f k d' q2
    exact e.sep j k d1 d2 x y1 y2 z1 z2
  · obtain ⟨z1, d, z2⟩ := e.bo j x q
    refine ⟨z1, ?_⟩
    rw [List.getElem?_set]
    by_cases w : i = j
    · rw [if_pos w, if_pos hi]; exact ⟨c1, rfl⟩
    · rw [if_neg w]; exact ⟨d, z2⟩
  · exact p.hh a u q fun z => n i c hΓ (by rw [hσ, Option.some.inj z])
  · rw [List.getElem?_set]
    by_cases w : i = j
    · rw [if_pos w, if_pos hi]; exact ⟨c1, rfl⟩
    · rw [if_neg w]; exact ⟨d, q⟩
  · rcases set_at q with ⟨z, _, _⟩ | ⟨_, z⟩
    · subst z; exact ⟨c, hΓ⟩
    · exact ⟨d, z⟩
/-- a fresh cell frozen behind what made it -/
theorem EvP.fz (en : EnvOk K B G H σ Γ) {Γ1 : List SD} (p1 : EvP K B σ G H Γ G' H' Γ1) {v : V} {c : Cl} (f : FrOk K H G' H' v c) : ∃ G2, EvP K B σ G H Γ G2 H' Γ1 ∧ Rep K G2 v c.d := by
  obtain ⟨l, o, e1, g1, h1, c1, f1⟩ := f
  subst e1
  have n2 : ∀ (i : Nat) c, Γ1[i]? = some (.ow c) → σ[i]? ≠ some (some (.ref l)) := fun i c q => by
    obtain ⟨c', q'⟩ := (p1.sh i).mpr ⟨c, q⟩
    exact en.noOw f1 i c' q'
  have en2 := p1.env.freeze h1 g1 (en.bhNone f1) n2
  have s1 : Same G' (upd G' l o) := fun a u q => by rw [upd_ne (ne_of_none q g1)]; exact q
  refine ⟨upd G' l o, ⟨en2, p1.gg.trans s1, fun a u q => ?_, p1.hh, p1.sh⟩, (c1.mono s1).rep upd_same⟩
  by_cases z : a = l
  · subst z; exact .inr f1
  · rw [upd_ne z] at q; exact p1.gn a u q
theorem AsOk.ims : ∀ {vs : List V} {ds : List D}, Reps K G vs ds → AsOk K G H vs (ds.map .im)
  | _, _, .nil => .nil
  | _, _, .cons h t => .cons h (AsOk.ims t)
theorem lb_ims : ∀ {vs : List V} {ds : List D}, lbOf vs (ds.map .im) = none
  | [], [] => rfl
  | [], _ :: _ => rfl
  | v :: vs, [] => by cases v <;> rfl
  | v :: vs, _ :: ds => by
    have h := lb_ims (vs := vs) (ds := ds)
    cases v <;> exact h
end
theorem AsOk.ims' {K : PySem.W.Frag} {G H : Hp} {vs : List V} {ds : List D} (r : Reps K G vs ds) : AsOk K G H vs (ds.map .im) := AsOk.ims r

def tCallD (n : Nat) (sp : SpD) (U : TAD) : TF := fun R Γ Φ => U R Γ fun ds Γ' => ds.length = n ∧ sp (ds.map .im) (fun r _ => Φ r.d Γ') (fun c pl _ => R c pl Γ')
def tCallO (n : Nat) (sp : SpD) (U : TAD) : TOD := fun R Γ Φ => U R Γ fun ds Γ' => ds.length = n ∧ sp (ds.map .im) (fun r _ => match r with
  | .fr c => Φ c Γ'
  | _ => False) (fun c pl _ => R c pl Γ')
/-- the arguments of a call that borrows the cell of a slot -/
inductive BD where
  | im (d : D) | sl
def BD.ad (c : Cl) : BD → AD
  | .im d => .im d
  | .sl => .ow c
abbrev TBD := ExD → List SD → (List BD → List SD → Prop) → Prop
inductive BOk (K : PySem.W.Frag) (G : Hp) (x : Option (Option V)) : List V → List BD → Prop
  | nil : BOk K G x [] []
  | im {v : V} {d : D} {vs : List V} {bs : List BD} (h : Rep K G v d) (t : BOk K G x vs bs) : BOk K G x (v :: vs) (.im d :: bs)
  | sl {v : V} {vs : List V} {bs : List BD} (h : x = some (some v)) (t : BOk K G x vs bs) : BOk K G x (v :: vs) (.sl :: bs)
def lB (K : PySem.W.Frag) (tk : Tk) (i : Nat) (T : TBD) : TA := fun σ H Q => ∃ (B : Bs) (R : ExD) (Γ : List SD) (G : Hp) (Φ : List BD → List SD → Prop), tk B R ∧ EnvOk K B G H σ Γ ∧ T R Γ Φ ∧
  ∀ vs G' H' Γ' bs, EvP K B σ G H Γ G' H' Γ' → BOk K G' σ[i]? vs bs → Φ bs Γ' → Q vs H'
def PFB (X : Cx) (tk : Tk) (i : Nat) (es : List Expr) (T : TBD) : Prop := PA X es (lB X.K tk i T)
def tNilB : TBD := fun _ Γ Φ => Φ [] Γ
def tImB (T : TF) (U : TBD) : TBD := fun R Γ Φ => T R Γ fun d Γ1 => U R Γ1 fun bs Γ2 => Φ (.im d :: bs) Γ2
def tSlB (i : Nat) (U : TBD) : TBD := fun R Γ Φ => match Γ[i]? with
  | some (.ow _) => U R Γ fun bs Γ2 => Φ (.sl :: bs) Γ2
  | _ => False
theorem BOk.mono {K : PySem.W.Frag} {G G' : Hp} {x : Option (Option V)} (s : Same G G') : ∀ {vs : List V} {bs : List BD}, BOk K G x vs bs → BOk K G' x vs bs
  | _, _, .nil => .nil
  | _, _, .im h t => .im (h.mono s) (t.mono s)
  | _, _, .sl h t => .sl h (t.mono s)
theorem BOk.as {K : PySem.W.Frag} {G H : Hp} {l : Addr} {c : Cl} {o : HO} (g : G l = none) (h : H l = some o) (r : ClOk K G o c) : ∀ {vs : List V} {bs : List BD}, BOk K G (some (some (.ref l))) vs bs → AsOk K G H vs (bs.map (BD.ad c))
  | _, _, .nil => .nil
  | _, _, .im h1 t => .cons h1 (t.as g h r)
  | _, _, .sl h1 t => by
    cases h1
    exact .cons ⟨l, o, rfl, g, h, r⟩ (t.as g h r)
def hasSl : List BD → Bool
  | [] => false
  | .sl :: _ => true
  | .im _ :: r => hasSl r
theorem BOk.lb {K : PySem.W.Frag} {G : Hp} {l : Addr} {c : Cl} : ∀ {vs : List V} {bs : List BD}, BOk K G (some (some (.ref l))) vs bs → hasSl bs = true → lbOf vs (bs.map (BD.ad c)) = some l
  | _, _, .nil, h => by cases h
  | _, _, .im (v := v) h1 t, h => by
    have := t.lb (c := c) h
    cases v <;> exact this
  | _, _, .sl h1 t, h => by cases h1; rfl
theorem BOk.length {K : PySem.W.Frag} {G : Hp} {x : Option (Option V)} : ∀ {vs : List V} {bs : List BD}, BOk K G x vs bs → vs.length = bs.length
  | _, _, .nil => rfl
  | _, _, .im _ t => congrArg (· + 1) t.length
  | _, _, .sl _ t => congrArg (· + 1) t.length
def tCallB (n i : Nat) (sp : SpD) (U : TBD) : TF := fun R Γ Φ => U R Γ fun bs Γ' => match Γ'[i]? with
  | some (.ow c) => bs.length = n ∧ hasSl bs = true ∧ sp (bs.map (BD.ad c)) (fun r c' => match c' with
    | some c' => Φ r.d (Γ'.set i (.ow c'))
    | none => False) (fun nm pl c' => match c' with
    | some c' => R nm pl (Γ'.set i (.ow c'))
    | none => False)
  | _ => False
def tCallBO (n i : Nat) (sp : SpD) (U : TBD) : TOD := fun R Γ Φ => U R Γ fun bs Γ' => match Γ'[i]? with
  | some (.ow c) => bs.length = n ∧ hasSl bs = true ∧ sp (bs.map (BD.ad c)) (fun r c' => match r, c' with
    | .fr d, some c' => Φ d (Γ'.set i (.ow c'))
    | _, _ => False) (fun nm pl c' => match c' with
    | some c' => R nm pl (Γ'.set i (.ow c'))
    | none => False)
  | _ => False
/-- what a call leaves, in one -/
theorem call_im {K : PySem.W.Frag} {tk : Tk} {X : Cx} {B : Bs} {R : ExD} {σ : L2.St} {G H : Hp} {Γ : List SD} {n : Nat} {sp : SpD} {vs : List V} {ds : List D} {Φ : RD → List SD → Prop} {Q : VK} (en : EnvOk K B G H σ Γ) (r : Reps K G vs ds)
    (h : ds.length = n ∧ sp (ds.map .im) (fun r _ => Φ r Γ) (fun c pl _ => R c pl Γ)) (k : ∀ v r G' H', EvP K B σ G H Γ G' H' Γ → RetR K H none G' H' v r → Φ r Γ → Q v H') : liftSp K n sp vs H Q (WE (ExOk K B R) σ) := by
  refine ⟨G, ds.map .im, _, _, r.length.trans h.1, en.gh, AsOk.ims' r, h.2, fun v r c' G' H' p q hr => ?_, fun c pl c' G' H' dd p q hr => ?_⟩
  · rw [lb_ims] at p q
    exact k v r G' H' (en.ext p.ext) q hr
  · rw [lb_ims] at p
    exact ⟨c, pl, G', Γ, rfl, (en.ext p.ext).env, q, hr⟩
theorem call_bo {K : PySem.W.Frag} {X : Cx} {B : Bs} {R : ExD} {σ : L2.St} {G H : Hp} {Γ : List SD} {n i : Nat} {sp : SpD} {vs : List V} {bs : List BD} {c : Cl} {Φ : RD → List SD → Prop} {Q : VK} (en : EnvOk K B G H σ Γ) (r : BOk K G σ[i]? vs bs) (hΓ : Γ[i]? = some (.ow c))
    (h : bs.length = n ∧ hasSl bs = true ∧ sp (bs.map (BD.ad c)) (fun r c' => match c' with
      | some c' => Φ r (Γ.set i (.ow c'))
      | none => False) (fun nm pl c' => match c' with
      | some c' => R nm pl (Γ.set i (.ow c'))
      | none => False)) (k : ∀ v r G' H' Γ', EvP K B σ G H Γ G' H' Γ' → RetR K H none G' H' v r → Φ r Γ' → Q v H') : liftSp K n sp vs H Q (WE (ExOk K B R) σ) := by
  obtain ⟨l, o, a1, a2, a3, a4, a5⟩ := en.ow i c hΓ
  rw [a1] at r
  have lb := r.lb (c := c) h.2.1
  refine ⟨G, bs.map (BD.ad c), _, _, r.length.trans h.1, en.gh, r.as a2 a3 a4, h.2.2, fun v r c' G' H' p q hr => ?_, fun nm pl c' G' H' dd p q hr => ?_⟩
  · rw [lb] at p q
    obtain ⟨c1, o1, e1, b1, b2, b3⟩ := p.bo l rfl
    subst e1
    exact k v r G' H' _ (en.postB hΓ a1 p b1 b2 b3) (by cases r <;> exact q) hr
  · rw [lb] at p
    obtain ⟨c1, o1, e1, b1, b2, b3⟩ := p.bo l rfl
    subst e1
    exact ⟨nm, pl, G', _, rfl, (en.postB hΓ a1 p b1 b2 b3).env, q, hr⟩
theorem ret_fr {K : PySem.W.Frag} {B : Bs} {σ : L2.St} {G H G' H' : Hp} {Γ Γ' : List SD} {v : V} {r : RD} (en : EnvOk K B G H σ Γ) (p : EvP K B σ G H Γ G' H' Γ') (q : RetR K H none G' H' v r) : ∃ G2, EvP K B σ G H Γ G2 H' Γ' ∧ Rep K G2 v r.d := by
  cases r with
  | im d => exact ⟨G', p, q⟩
  | fr c =>
    obtain ⟨l, o, a1, a2, a3, a4, a5⟩ := q
    exact EvP.fz en p ⟨l, o, a1, a2, a3, a4, a5⟩

section
variable {X : Cx} {tk : Tk} {k i : Nat} {f : Addr} {fd : FuncData} {ps : List Str} {sp : SpD} {x : Str} {p pos : Pos} {e : Expr} {es : List Expr} {U : TAD} {W : TBD} {T : TF}
theorem pe_callG {t : TA} {sp : Sp} (F : FnOk X.prog X.w X.K X.mg X.base (L2.CX X.prog X.w) k f fd ps sp) (hr : Room k X.A) (hg : Gl X x) (hm : X.mg x = some (.ref f)) (hk : PySem.W.keepIn X.K (.ref f) = true) (hb : Binds X.K fd ps [])
    (ha : PA X (e :: es) t) (hdb : (x == ("__debug__" : Str)) = false) (he : starEach (e :: es) X.env = (false, eval e X.env) :: starEach es X.env) (hpl : (backTo pos (starEach es X.env)).any (·.1) = false) :
    PE X (.Call (.Name x p) (e :: es) [] pos) (fun σ H Q => t σ H fun vs H1 => ∃ W : WX, Takes X W ∧ sp vs H1 Q (WE W σ)) :=
  ⟨fun pins s σ H Q I h => wpAny_Call_Name_kw (ld_glob I hg hm (PySem.W.callWith_K (h₀ := X.base) I.ok.mod.kin hk (thn (ha.run pos pins s σ H _ I h) fun us s1 ⟨vs, H1, I1, r, W, tw, q⟩ => ⟨I1.kIn, run_fnS (E := WE W) F hr hb (passAt tw σ) I1 r q⟩) he hpl) hdb)⟩
theorem pe_callG0 {sp : Sp} (F : FnOk X.prog X.w X.K X.mg X.base (L2.CX X.prog X.w) k f fd ps sp) (hr : Room k X.A) (hg : Gl X x) (hm : X.mg x = some (.ref f)) (hk : PySem.W.keepIn X.K (.ref f) = true) (hb : Binds X.K fd ps []) (hdb : (x == ("__debug__" : Str)) = false) :
    PE X (.Call (.Name x p) [] [] pos) (fun σ H Q => ∃ W : WX, Takes X W ∧ sp [] H Q (WE W σ)) :=
  ⟨fun pins s σ H Q I ⟨W, tw, q⟩ => wpAny_Call_Name_kw (ld_glob I hg hm (PySem.W.callWith_K0 I.kIn hk (run_fnS (E := WE W) (us := []) F hr hb (passAt tw σ) I .nil q)) hdb)⟩
/-- the wishes are taken -/
def TkOk (X : Cx) (tk : Tk) : Prop := ∀ B R, tk B R → TkD X B R
theorem tkS_ok {bs : Option Nat} : TkOk X (TkS X bs) := fun _ _ h => h.1
theorem tk0_Ok : TkOk X Tk0 := fun _ _ h => tk0_ok h
theorem pf_call (F : FnV X.prog X.w X.K X.mg X.base k f fd ps sp) (tw : TkOk X tk) (hr : Room k X.A) (hm : X.mg x = some (.ref f)) (hk : PySem.W.keepIn X.K (.ref f) = true) (hb : Binds X.K fd ps []) (ha : PFA X tk (e :: es) U) (hg : Gl X x := by rfl)
    (hdb : (x == ("__debug__" : Str)) = false := by decide) (he : starEach (e :: es) X.env = (false, eval e X.env) :: starEach es X.env := by rfl) (hpl : (backTo pos (starEach es X.env)).any (·.1) = false := by rfl) : PF X tk (.Call (.Name x p) (e :: es) [] pos) (tCallD ps.length sp U) :=
  pe_imp (pe_callG F hr hg hm hk hb ha hdb he hpl) fun σ H Q ⟨B, R, Γ, G, Φ, t, en, h, kk⟩ => ⟨B, R, Γ, G, _, t, en, h, fun vs G1 H1 Γ1 ds p1 r1 h1 => ⟨ExOk X.K B R, tw B R t, call_im (tk := tk) (X := X) (Φ := fun r Γ => Φ r.d Γ) p1.env r1 h1 fun v r G' H' p2 q hr => by
    obtain ⟨G2, p3, r3⟩ := ret_fr p1.env p2 q
    exact kk v G2 H' Γ1 _ (p1.trans p3) r3 hr⟩⟩
theorem po_call (F : FnV X.prog X.w X.K X.mg X.base k f fd ps sp) (tw : TkOk X tk) (hr : Room k X.A) (hm : X.mg x = some (.ref f)) (hk : PySem.W.keepIn X.K (.ref f) = true) (hb : Binds X.K fd ps []) (ha : PFA X tk (e :: es) U) (hg : Gl X x := by rfl)
    (hdb : (x == ("__debug__" : Str)) = false := by decide) (he : starEach (e :: es) X.env = (false, eval e X.env) :: starEach es X.env := by rfl) (hpl : (backTo pos (starEach es X.env)).any (·.1) = false := by rfl) : PFO X tk (.Call (.Name x p) (e :: es) [] pos) (tCallO ps.length sp U) :=
  pe_imp (pe_callG F hr hg hm hk hb ha hdb he hpl) fun σ H Q ⟨B, R, Γ, G, Φ, t, en, h, kk⟩ => ⟨B, R, Γ, G, _, t, en, h, fun vs G1 H1 Γ1 ds p1 r1 h1 => ⟨ExOk X.K B R, tw B R t, call_im (tk := tk) (X := X) (Φ := fun r Γ => match r with
    | .fr c => Φ c Γ
    | _ => False) p1.env r1 h1 fun v r G' H' p2 q hr => by
    cases r with
    | im d => exact hr.elim
    | fr c =>
      obtain ⟨l, o, a1, a2, a3, a4, a5⟩ := q
      exact kk v G' H' Γ1 c (p1.trans p2) ⟨l, o, a1, a2, a3, a4, p1.back a5⟩ hr⟩⟩
/-! borrowing -/
theorem pfb_nil : PFB X tk i [] tNilB := pa_imp pa_nil fun σ H Q ⟨B, R, Γ, G, Φ, t, en, h, k⟩ => k [] G H Γ [] (EvP.refl en) .nil h
theorem pfb_im (ha : PF X tk e T) (hr : PFB X tk i es W) (hs : starEach (e :: es) X.env = (false, eval e X.env) :: starEach es X.env := by rfl) : PFB X tk i (e :: es) (tImB T W) :=
  pa_imp (pa_cons ha hr hs) fun σ H Q ⟨B, R, Γ, G, Φ, t, en, h, k⟩ => ⟨B, R, Γ, G, _, t, en, h, fun v G1 H1 Γ1 d p1 r1 h1 => ⟨B, R, Γ1, G1, _, t, p1.env, h1, fun vs G2 H2 Γ2 bs p2 r2 h2 =>
    k (v :: vs) G2 H2 Γ2 (.im d :: bs) (p1.trans p2) (.im (r1.mono p2.gg) r2) h2⟩⟩
theorem pfb_sl (i : Nat) {y : Str} {px : Pos} (hr : PFB X tk i es W) (hN : X.N[i]? = some y := by rfl) (hx : Vis X.env.scope y := by first | exact Or.inl rfl | exact Or.inr (Or.inl rfl) | exact Or.inr (Or.inr rfl)) (hd : (y == ("__debug__" : Str)) = false := by decide) (hcd : (y == ("__classdict__" : Str)) = false := by decide)
    (hs : starEach (.Name y px :: es) X.env = (false, eval (.Name y px) X.env) :: starEach es X.env := by rfl) : PFB X tk i (.Name y px :: es) (tSlB i W) :=
  pa_imp (pa_cons (pe_var hN hx hd hcd) hr hs) fun σ H Q ⟨B, R, Γ, G, Φ, t, en, h, k⟩ => by
    unfold tSlB at h
    split at h
    · rename_i c q
      obtain ⟨l, o, a1, _⟩ := en.ow i _ q
      exact ⟨.ref l, a1, B, R, Γ, G, _, t, en, h, fun vs G2 H2 Γ2 bs p2 r2 h2 => k (.ref l :: vs) G2 H2 Γ2 (.sl :: bs) p2 (.sl a1 r2) h2⟩
    · exact h.elim
theorem pf_callBo (i : Nat) (F : FnV X.prog X.w X.K X.mg X.base k f fd ps sp) (tw : TkOk X tk) (hr : Room k X.A) (hm : X.mg x = some (.ref f)) (hk : PySem.W.keepIn X.K (.ref f) = true) (hb : Binds X.K fd ps []) (ha : PFB X tk i (e :: es) W) (hg : Gl X x := by rfl)
    (hdb : (x == ("__debug__" : Str)) = false := by decide) (he : starEach (e :: es) X.env = (false, eval e X.env) :: starEach es X.env := by rfl) (hpl : (backTo pos (starEach es X.env)).any (·.1) = false := by rfl) : PF X tk (.Call (.Name x p) (e :: es) [] pos) (tCallB ps.length i sp W) :=
  pe_imp (pe_callG F hr hg hm hk hb ha hdb he hpl) fun σ H Q ⟨B, R, Γ, G, Φ, t, en, h, kk⟩ => ⟨B, R, Γ, G, _, t, en, h, fun vs G1 H1 Γ1 bs p1 r1 h1 => ⟨ExOk X.K B R, tw B R t, by
    split at h1
    · rename_i c q
      exact call_bo (X := X) (Φ := fun r Γ => Φ r.d Γ) p1.env r1 q h1 fun v r G' H' Γ' p2 q hr => by
        obtain ⟨G2, p3, r3⟩ := ret_fr p1.env p2 q
        exact kk v G2 H' Γ' _ (p1.trans p3) r3 hr
    · exact h1.elim⟩⟩
theorem po_callBo (i : Nat) (F : FnV X.prog X.w X.K X.mg X.base k f fd ps sp) (tw : TkOk X tk) (hr : Room k X.A) (hm : X.mg x = some (.ref f)) (hk : PySem.W.keepIn X.K (.ref f) = true) (hb : Binds X.K fd ps []) (ha : PFB X tk i (e :: es) W) (hg : Gl X x := by rfl)
    (hdb : (x == ("__debug__" : Str)) = false := by decide) (he : starEach (e :: es) X.env = (false, eval e X.env) :: starEach es X.env := by rfl) (hpl : (backTo pos (starEach es X.env)).any (·.1) = false := by rfl) : PFO X tk (.Call (.Name x p) (e :: es) [] pos) (tCallBO ps.length i sp W) :=
  pe_imp (pe_callG F hr hg hm hk hb ha hdb he hpl) fun σ H Q ⟨B, R, Γ, G, Φ, t, en, h, kk⟩ => ⟨B, R, Γ, G, _, t, en, h, fun vs G1 H1 Γ1 bs p1 r1 h1 => ⟨ExOk X.K B R, tw B R t, by
    split at h1
    · rename_i c q
      obtain ⟨h1, h2, h3⟩ := h1
      refine call_bo (X := X) (Φ := fun r Γ => match r with
        | .fr c => Φ c Γ
        | _ => False) p1.env r1 q ⟨h1, h2, ?_⟩ fun v r G' H' Γ' p2 q hr => ?_
      · have e1 : (fun (r : RD) (c' : Option Cl) => match r, c' with
          | .fr d, some c' => Φ d (Γ1.set i (.ow c'))
          | _, _ => False) = fun r c' => match c' with
          | some c' => (match r with
            | .fr c => Φ c (Γ1.set i (.ow c'))
            | _ => False)
          | none => False := by
          funext r c'
          cases r <;> cases c' <;> rfl
        rw [← e1]
        exact h3
      · cases r with
        | im d => exact hr.elim
        | fr c =>
          obtain ⟨l, o, a1, a2, a3, a4, a5⟩ := q
          exact kk v G' H' Γ' c (p1.trans p2) ⟨l, o, a1, a2, a3, a4, p1.back a5⟩ hr
    · exact h1.elim⟩⟩
end
end Vl

namespace Vl
open PySem PySem.Spec PyProof.Rows L2

section
variable {X : Cx} {tk : Tk} {a b c e : Expr} {Ta Tb Tc T : TF} {pos p : Pos} {k : Nat}
def dNeg : D → (D → Prop) → Prop
  | .int i, k => k (.int (-i))
  | _, _ => False
def tUnD (f : D → (D → Prop) → Prop) (T : TF) : TF := fun R Γ Φ => T R Γ fun d Γ' => f d fun r => Φ r Γ'
theorem pf_neg (ha : PF X tk a Ta) : PF X tk (.UnaryOp .USub a pos) (tUnD dNeg Ta) :=
  pe_imp (pe_un un_neg ha) fun σ H Q ⟨B, R, Γ, G, Φ, t, en, h, kk⟩ => ⟨B, R, Γ, G, _, t, en, h, fun v G1 H1 Γ1 d p1 r1 h1 => by
    cases r1 with
    | int i => exact ⟨i, rfl, kk _ G1 H1 Γ1 _ p1 (.int _) h1⟩
    | _ => exact h1.elim⟩
def tDictO : TOD := fun _ Γ Φ => Φ (.dct []) Γ
theorem po_dict0 : PFO X tk (.Dict [] [] pos) tDictO :=
  pe_imp pe_dnewK fun σ H Q ⟨B, R, Γ, G, Φ, t, en, h, kk⟩ q hq => kk (.ref q) G _ Γ (.dct []) (en.cell hq) ⟨q, _, rfl, en.gh.free hq, upd_same, ⟨[], rfl, Nat.zero_le _, .nil⟩, hq⟩ h
/-- a op1 b op2 c -/
def tChainD (f g : D → D → (D → Prop) → Prop) (Ta Tb Tc : TF) : TF := fun R Γ Φ => Ta R Γ fun x Γ1 => Tb R Γ1 fun y Γ2 => f x y fun z => z.asBl fun u => if u = true then Tc R Γ2 fun w Γ3 => g y w fun d => Φ d Γ3 else Φ (.bl false) Γ2
theorem pf_chain {op op' : CmpOp} {r r' : R2} {f g : D → D → (D → Prop) → Prop} (ho : OpR X (compareOp op) r) (ho' : OpR X (compareOp op') r') (hf : OpD X.K r f) (hg : OpD X.K r' g) (ha : PF X tk a Ta) (hb : PF X tk b Tb) (hc : PF X tk c Tc)
    (hm : lastMarks [op, op'] [b, c] = false := by with_unfolding_all rfl) : PF X tk (.Compare a [op, op'] [b, c] pos) (tChainD f g Ta Tb Tc) :=
  pe_imp (pe_chain ho ho' ha hb hc hm) fun σ H Q ⟨B, R, Γ, G, Φ, t, en, h, kk⟩ => ⟨B, R, Γ, G, _, t, en, h, fun v1 G1 H1 Γ1 d1 p1 r1 h1 => ⟨B, R, Γ1, G1, _, t, p1.env, h1, fun v2 G2 H2 Γ2 d2 p2 r2 h2 =>
    hf G2 H2 v1 v2 d1 d2 _ _ p2.env.gh (r1.mono p2.gg) r2 h2 fun v3 d3 G3 H3 x rd kd => by
      obtain ⟨u, e1, e2, h3⟩ := rd.asBl kd
      have p3 := p2.env.ext x
      refine ⟨u, e1, ?_⟩
      cases u with
      | false => exact iteF (kk (.bl false) G3 H3 Γ2 (.bl false) ((p1.trans p2).trans p3) (.bl false) h3)
      | true => exact iteT ⟨B, R, Γ2, G3, _, t, p3.env, h3, fun v4 G4 H4 Γ4 d4 p4 r4 h4 => hg G4 H4 v2 v4 d2 d4 _ Q p4.env.gh ((r2.mono x.gg).mono p4.gg) r4 h4 fun v5 d5 G5 H5 x5 rd5 kd5 =>
          kk v5 G5 H5 Γ4 d5 ((((p1.trans p2).trans p3).trans p4).trans (p4.env.ext x5)) rd5 kd5⟩⟩⟩
theorem pf_leLe (ha : PF X tk a Ta) (hb : PF X tk b Tb) (hc : PF X tk c Tc) (hm : lastMarks [.LtE, .LtE] [b, c] = false := by with_unfolding_all rfl) : PF X tk (.Compare a [.LtE, .LtE] [b, c] pos) (tChainD (dB fun i j => decide (i ≤ j)) (dB fun i j => decide (i ≤ j)) Ta Tb Tc) := pf_chain op_le op_le opd_B0 opd_B0 ha hb hc hm
theorem pf_leLt (ha : PF X tk a Ta) (hb : PF X tk b Tb) (hc : PF X tk c Tc) (hm : lastMarks [.LtE, .Lt] [b, c] = false := by with_unfolding_all rfl) : PF X tk (.Compare a [.LtE, .Lt] [b, c] pos) (tChainD (dB fun i j => decide (i ≤ j)) (dB fun i j => decide (i < j)) Ta Tb Tc) := pf_chain op_le op_lt opd_B0 opd_B0 ha hb hc hm
end
end Vl

namespace Vl
open PySem PySem.Spec PyProof.Rows L2

/-- a def that can be called -/
structure Callee (P : Program) (w : World) (K : PySem.W.Frag) (mg : Str → Option Value) (base : Heap) (k : Nat) (f : Addr) (ps : List Str) (sp : SpD) : Prop where
  ex : ∃ fd, FnV P w K mg base k f fd ps sp ∧ Binds K fd ps []
  kp : PySem.W.keepIn K (.ref f) = true
/-- a def of the text -/
def DefAt (K : PySem.W.Frag) (x qual : Str) (st : Stmt) (f : Addr) : Prop := ∃ fd, FunD K x qual (defArgs st) (defBody st) (defScope st) [] [] f fd
section
variable {P : Program} {w : World} {K : PySem.W.Frag} {mg : Str → Option Value} {base : Heap}
theorem FnV.of {x qual : Str} {st : Stmt} {f : Addr} {fd : FuncData} {N ps : List Str} {k : Nat} {T : TSD} (bs : Option Nat) (F : FunD K x qual (defArgs st) (defBody st) (defScope st) [] [] f fd) (S : FnScope N ps (defScope st)) (hn : ps.length ≤ N.length)
    (hbody : ∀ (f : Addr) (cdv : Value) (A : Around) (outer : List Env) (s : Shared) (H : Hp) (E : XK), Room k (A.deeper (envOfC qual (defScope st) s.heap.objs.size f cdv)) →
      PFSs (cxOf (L2.CX P w) P w K mg base N qual (defScope st) f cdv A outer s H E) (TkS (cxOf (L2.CX P w) P w K mg base N qual (defScope st) f cdv A outer s H E) bs) (defBody st) T) :
    FnV P w K mg base (k + 1) f fd ps (bodySp N.length bs T) := Fun.okV bs F S hn (hbody f)
theorem Callee.of {x qual : Str} {st : Stmt} {f : Addr} {N ps : List Str} {k : Nat} {T : TSD} (bs : Option Nat) (F : DefAt K x qual st f) (S : FnScope N ps (defScope st)) (hn : ps.length ≤ N.length)
    (hb : ∀ (kV doc pm : Value) (an : Option Addr) (cdv ct : Value) (us : List Value), us.length = ps.length → bindArgs (PySem.W.fnOf x qual (defArgs st) (defBody st) (defScope st) .none kV doc pm an cdv ct) ⟨us, []⟩ = pure (ps.zip us))
    (hbody : ∀ (f : Addr) (cdv : Value) (A : Around) (outer : List Env) (s : Shared) (H : Hp) (E : XK), Room k (A.deeper (envOfC qual (defScope st) s.heap.objs.size f cdv)) →
      PFSs (cxOf (L2.CX P w) P w K mg base N qual (defScope st) f cdv A outer s H E) (TkS (cxOf (L2.CX P w) P w K mg base N qual (defScope st) f cdv A outer s H E) bs) (defBody st) T) :
    Callee P w K mg base (k + 1) f ps (bodySp N.length bs T) := by
  obtain ⟨fd, F⟩ := F
  exact ⟨⟨fd, Fun.okV bs F S hn (hbody f), F.bindsN hb⟩, F.kp⟩
end
section
variable {X : Cx} {tk : Tk} {k j i n : Nat} {f : Addr} {ps : List Str} {sp : SpD} {x : Str} {p pos : Pos} {e : Expr} {es : List Expr} {U : TAD} {W : TBD}
theorem pf_callC (C : Callee X.prog X.w X.K X.mg X.base k f ps sp) (tw : TkOk X tk) (hr : Room j X.A) (hk : k ≤ j) (hm : X.mg x = some (.ref f)) (ha : PFA X tk (e :: es) U) (hg : Gl X x := by rfl) (hn : ps.length = n := by rfl)
    (hdb : (x == ("__debug__" : Str)) = false := by decide) (he : starEach (e :: es) X.env = (false, eval e X.env) :: starEach es X.env := by rfl) (hpl : (backTo pos (starEach es X.env)).any (·.1) = false := by rfl) : PF X tk (.Call (.Name x p) (e :: es) [] pos) (tCallD n sp U) := by
  subst hn
  obtain ⟨fd, F, hb⟩ := C.ex
  exact pf_call F tw (hr.mono hk) hm C.kp hb ha hg hdb he hpl
theorem po_callC (C : Callee X.prog X.w X.K X.mg X.base k f ps sp) (tw : TkOk X tk) (hr : Room j X.A) (hk : k ≤ j) (hm : X.mg x = some (.ref f)) (ha : PFA X tk (e :: es) U) (hg : Gl X x := by rfl) (hn : ps.length = n := by rfl)
    (hdb : (x == ("__debug__" : Str)) = false := by decide) (he : starEach (e :: es) X.env = (false, eval e X.env) :: starEach es X.env := by rfl) (hpl : (backTo pos (starEach es X.env)).any (·.1) = false := by rfl) : PFO X tk (.Call (.Name x p) (e :: es) [] pos) (tCallO n sp U) := by
  subst hn
  obtain ⟨fd, F, hb⟩ := C.ex
  exact po_call F tw (hr.mono hk) hm C.kp hb ha hg hdb he hpl
theorem pf_callBC (i : Nat) (C : Callee X.prog X.w X.K X.mg X.base k f ps sp) (tw : TkOk X tk) (hr : Room j X.A) (hk : k ≤ j) (hm : X.mg x = some (.ref f)) (ha : PFB X tk i (e :: es) W) (hg : Gl X x := by rfl) (hn : ps.length = n := by rfl)
    (hdb : (x == ("__debug__" : Str)) = false := by decide) (he : starEach (e :: es) X.env = (false, eval e X.env) :: starEach es X.env := by rfl) (hpl : (backTo pos (starEach es X.env)).any (·.1) = false := by rfl) : PF X tk (.Call (.Name x p) (e :: es) [] pos) (tCallB n i sp W) := by
  subst hn
  obtain ⟨fd, F, hb⟩ := C.ex
  exact pf_callBo i F tw (hr.mono hk) hm C.kp hb ha hg hdb he hpl
theorem po_callBC (i : Nat) (C : Callee X.prog X.w X.K X.mg X.base k f ps sp) (tw : TkOk X tk) (hr : Room j X.A) (hk : k ≤ j) (hm : X.mg x = some (.ref f)) (ha : PFB X tk i (e :: es) W) (hg : Gl X x := by rfl) (hn : ps.length = n := by rfl)
    (hdb : (x == ("__debug__" : Str)) = false := by decide) (he : starEach (e :: es) X.env = (false, eval e X.env) :: starEach es X.env := by rfl) (hpl : (backTo pos (starEach es X.env)).any (·.1) = false := by rfl) : PFO X tk (.Call (.Name x p) (e :: es) [] pos) (tCallBO n i sp W) := by
  subst hn
  obtain ⟨fd, F, hb⟩ := C.ex
  exact po_callBo i F tw (hr.mono hk) hm C.kp hb ha hg hdb he hpl
end
end Vl

namespace Vl
open PySem PySem.Spec PyProof.Rows L2

/-! ### rules for the readings -/
section
variable {R : ExD} {Γ : List SD} {T U : TSD} {Te : TF} {To : TOD} {i : Nat} {nx bk ct : List SD → Prop} {rt : RD → List SD → Prop}
theorem s_seq (h : T R ⟨U R ⟨nx, rt, bk, ct⟩, rt, bk, ct⟩ Γ) : tSeqD T U R ⟨nx, rt, bk, ct⟩ Γ := h
theorem s_set (h : Te R Γ fun d Γ' => nx (Γ'.set i (.im d))) : tSetD i Te R ⟨nx, rt, bk, ct⟩ Γ := h
theorem s_setO (h : To R Γ fun c Γ' => nx (Γ'.set i (.ow c))) : tSetO i To R ⟨nx, rt, bk, ct⟩ Γ := h
theorem s_next (h : nx Γ) : tNextD R ⟨nx, rt, bk, ct⟩ Γ := h
theorem s_brk (h : bk Γ) : tBreakD R ⟨nx, rt, bk, ct⟩ Γ := h
theorem s_cont (h : ct Γ) : tContD R ⟨nx, rt, bk, ct⟩ Γ := h
theorem s_ret (h : Te R Γ fun d Γ' => rt (.im d) Γ') : tRetD Te R ⟨nx, rt, bk, ct⟩ Γ := h
theorem s_retO (h : To R Γ fun d Γ' => rt (.fr d) Γ') : tRetO To R ⟨nx, rt, bk, ct⟩ Γ := h
theorem s_retV {c : Cl} (e : Γ[i]? = some (.ow c)) (h : rt (.fr c) Γ) : tRetV i R ⟨nx, rt, bk, ct⟩ Γ := by
  unfold tRetV
  rw [e]
  exact h
theorem s_drop (h : Te R Γ fun _ Γ' => nx Γ') : tDropD Te R ⟨nx, rt, bk, ct⟩ Γ := h
theorem s_if {c : TTD} (h : c R Γ fun b Γ' => if b = true then T R ⟨nx, rt, bk, ct⟩ Γ' else U R ⟨nx, rt, bk, ct⟩ Γ') : tIfSD c T U R ⟨nx, rt, bk, ct⟩ Γ := h
/-- for: P i holds ahead of the i-th turn -/
theorem s_for {it : TAD} {g : TGD} {tb : TSD} (h : it R Γ fun ds Γ1 => ∃ P : Nat → List SD → Prop, P 0 Γ1 ∧ (∀ (i : Nat) d Γ', ds[i]? = some d → P i Γ' → g d Γ' fun Γ2 => tb R ⟨P (i + 1), rt, nx, P (i + 1)⟩ Γ2) ∧ ∀ Γ', P ds.length Γ' → nx Γ') : tForD it g tb R ⟨nx, rt, bk, ct⟩ Γ := h
theorem s_asg {g : TGD} (h : Te R Γ fun d Γ' => g d Γ' nx) : tAsgD Te g R ⟨nx, rt, bk, ct⟩ Γ := h
theorem ite_b {b : Bool} {P Q : Prop} (h1 : b = true → P) (h2 : b = false → Q) : if b = true then P else Q := by
  cases b with
  | true => exact iteT (h1 rfl)
  | false => exact iteF (h2 rfl)
def isOwB : AD → Bool
  | .ow _ => true
  | .im _ => false
def cnt : List AD → Nat
  | [] => 0
  | .ow _ :: as => cnt as + 1
  | .im _ :: as => cnt as
theorem cnt_zero : ∀ {as : List AD} {i : Nat} {c : Cl}, cnt as = 0 → as[i]? = some (.ow c) → False
  | [], i, c, _, h => by cases h
  | .ow _ :: as, i, c, e, _ => by cases e
  | .im d :: as, 0, c, e, h => by cases h
  | .im d :: as, i + 1, c, e, h => cnt_zero (as := as) (i := i) (c := c) e (by simpa using h)
theorem oneOw_cnt : ∀ {as : List AD}, cnt as ≤ 1 → oneOw as
  | [], _, i, j, c, c', h, _ => by cases h
  | .im d :: as, e, i, j, c, c', h1, h2 => by
    cases i with
    | zero => cases h1
    | succ i => cases j with
      | zero => cases h2
      | succ j => exact congrArg (· + 1) (oneOw_cnt (as := as) e i j c c' (by simpa using h1) (by simpa using h2))
  | .ow c0 :: as, e, i, j, c, c', h1, h2 => by
    have e0 : cnt as = 0 := by
      unfold cnt at e
      omega
    cases i with
    | zero => cases j with
      | zero => rfl
      | succ j => exact (cnt_zero (as := as) (i := j) (c := c') e0 (by simpa using h2)).elim
    | succ i => exact (cnt_zero (as := as) (i := i) (c := c) e0 (by simpa using h1)).elim
/-- a def's promise -/
theorem s_body {n : Nat} {bs : Option Nat} {as : List AD} {Φ : RD → Option Cl → Prop} {R : Str → Option (List (Str × Vl.D)) → Option Cl → Prop} {T : TSD} {Γ : List SD} (h1 : Nat.ble as.length n = true) (h2 : bsOf as = bs) (h3 : Nat.ble (cnt as) 1 = true) (hΓ : startG n as = Γ)
    (h : T (fun c pl Γ => R c pl (bcOf bs Γ)) { nx := fun Γ => Φ (.im .non) (bcOf bs Γ), rt := fun r Γ => Φ r (bcOf bs Γ), bk := fun _ => False, ct := fun _ => False } Γ) : bodySp n bs T as Φ R := by
  subst hΓ
  exact ⟨Nat.le_of_ble_eq_true h1, h2, oneOw_cnt (Nat.le_of_ble_eq_true h3), h⟩
end
/-! ### equations of the readings, for simp -/
section
variable {R : ExD} {Γ : List SD}
theorem rd :
    (∀ (d : D) (Φ : D → List SD → Prop), tCD d R Γ Φ = Φ d Γ) ∧
    (∀ (i : Nat) (Φ : D → List SD → Prop), tVarD i R Γ Φ = match Γ[i]? with
      | some (.im d) => Φ d Γ
      | _ => False) ∧
    (∀ (f : D → D → (D → Prop) → Prop) (A B : TF) (Φ : D → List SD → Prop), tBin f A B R Γ Φ = A R Γ fun a Γ1 => B R Γ1 fun b Γ2 => f a b fun d => Φ d Γ2) ∧
    (∀ (f : D → D → (D → Prop) → Prop) (A B : TF) (Φ : Bool → List SD → Prop), tBinT f A B R Γ Φ = A R Γ fun a Γ1 => B R Γ1 fun b Γ2 => f a b fun d => match d with
      | .bl c => Φ c Γ2
      | _ => False) ∧
    (∀ (A : TF) (Φ : Bool → List SD → Prop), tTru A R Γ Φ = A R Γ fun d Γ' => d.truth fun b => Φ b Γ') ∧
    (∀ (A B : TTD) (Φ : Bool → List SD → Prop), tAndD A B R Γ Φ = A R Γ fun c Γ' => if c = true then B R Γ' Φ else Φ false Γ') ∧
    (∀ (A B : TTD) (Φ : Bool → List SD → Prop), tOrD A B R Γ Φ = A R Γ fun c Γ' => if c = true then Φ true Γ' else B R Γ' Φ) ∧
    (∀ (A : TTD) (Φ : Bool → List SD → Prop), tNotD A R Γ Φ = A R Γ fun c Γ' => Φ (!c) Γ') ∧
    (∀ (A B : TF) (Φ : D → List SD → Prop), tAndV' A B R Γ Φ = A R Γ fun d Γ' => d.asBl fun c => if c = true then B R Γ' Φ else Φ (.bl false) Γ') ∧
    (∀ (A B : TF) (Φ : D → List SD → Prop), tOrV' A B R Γ Φ = A R Γ fun d Γ' => d.asBl fun c => if c = true then Φ (.bl true) Γ' else B R Γ' Φ) ∧
    (∀ (A : TF) (Φ : D → List SD → Prop), tNotV' A R Γ Φ = A R Γ fun d Γ' => d.asBl fun c => Φ (.bl (!c)) Γ') ∧
    (∀ (A : TTD) (B C : TF) (Φ : D → List SD → Prop), tIfD A B C R Γ Φ = A R Γ fun c Γ' => if c = true then B R Γ' Φ else C R Γ' Φ) ∧
    (∀ (Φ : List D → List SD → Prop), tNilD R Γ Φ = Φ [] Γ) ∧
    (∀ (A : TF) (B : TAD) (Φ : List D → List SD → Prop), tConsD A B R Γ Φ = A R Γ fun d Γ1 => B R Γ1 fun ds Γ2 => Φ (d :: ds) Γ2) ∧
    (∀ (A : TAD) (Φ : D → List SD → Prop), tTupD A R Γ Φ = A R Γ fun ds Γ' => ds.length ≤ sizeLine ∧ Φ (.tup ds) Γ') ∧
    (∀ (A : TAD) (Φ : Cl → List SD → Prop), tLstO A R Γ Φ = A R Γ fun ds Γ' => ds.length ≤ sizeLine ∧ Φ (.lst ds) Γ') ∧
    (∀ (A : TOD) (Φ : D → List SD → Prop), tFz A R Γ Φ = A R Γ fun c Γ' => Φ c.d Γ') ∧
    (∀ (f : List D → (D → Prop) → Prop) (A : TAD) (Φ : D → List SD → Prop), tCBD f A R Γ Φ = A R Γ fun ds Γ' => f ds fun d => Φ d Γ') ∧
    (∀ (f : D → (D → Prop) → Prop) (A : TF) (Φ : D → List SD → Prop), tUnD f A R Γ Φ = A R Γ fun d Γ' => f d fun r => Φ r Γ') ∧
    (∀ (Φ : Cl → List SD → Prop), tDictO R Γ Φ = Φ (.dct []) Γ) ∧
    (∀ (C : String) (A : TF) (Φ : D → List SD → Prop), tIsi C A R Γ Φ = A R Γ fun d Γ' => dIsi C d fun r => Φ r Γ') ∧
    (∀ (Φ : Option Int → List SD → Prop), tNoPartD R Γ Φ = Φ none Γ) ∧
    (∀ (A : TF) (Φ : Option Int → List SD → Prop), tPartD A R Γ Φ = A R Γ fun d Γ' => d.asInt fun i => Φ (some i) Γ') ∧
    (∀ (A : TF) (B C : TPD) (Φ : D → List SD → Prop), tSlD A B C R Γ Φ = A R Γ fun d Γ1 => B R Γ1 fun lo Γ2 => C R Γ2 fun hi Γ3 => dSl d lo hi fun r => Φ r Γ3) ∧
    (∀ (Φ : List BD → List SD → Prop), tNilB R Γ Φ = Φ [] Γ) ∧
    (∀ (A : TF) (B : TBD) (Φ : List BD → List SD → Prop), tImB A B R Γ Φ = A R Γ fun d Γ1 => B R Γ1 fun bs Γ2 => Φ (.im d :: bs) Γ2) :=
  ⟨fun _ _ => rfl, fun _ _ => rfl, fun _ _ _ _ => rfl, fun _ _ _ _ => rfl, fun _ _ => rfl, fun _ _ _ => rfl, fun _ _ _ => rfl, fun _ _ => rfl, fun _ _ _ => rfl, fun _ _ _ => rfl, fun _ _ => rfl,
   fun _ _ _ _ => rfl, fun _ => rfl, fun _ _ _ => rfl, fun _ _ => rfl, fun _ _ => rfl, fun _ _ => rfl, fun _ _ _ => rfl, fun _ _ _ => rfl, fun _ => rfl, fun _ _ _ => rfl, fun _ => rfl, fun _ _ => rfl, fun _ _ _ _ => rfl, fun _ => rfl, fun _ _ _ => rfl⟩
/-- .. of the values -/
theorem dv (k : D → Prop) :
    (∀ i j : Int, dEq false (.int i) (.int j) k = k (.bl (decide (i = j)))) ∧
    (∀ i j : Int, dEq true (.int i) (.int j) k = k (.bl (!decide (i = j)))) ∧
    (∀ i j : Bool, dEq false (.bl i) (.bl j) k = k (.bl (i == j))) ∧
    (∀ i j : Str, dEq false (.str i) (.str j) k = (PyData.strOk i = true ∧ PyData.strOk j = true ∧ k (.bl (decide (i = j))))) ∧
    (∀ i j : Str, dEq true (.str i) (.str j) k = (PyData.strOk i = true ∧ PyData.strOk j = true ∧ k (.bl (!decide (i = j))))) ∧
    (∀ g (i j : Int), dI g (.int i) (.int j) k = k (.int (g i j))) ∧
    (∀ C g (i j : Int), dIC C g (.int i) (.int j) k = (C i j ∧ k (.int (g i j)))) ∧
    (∀ g (i j : Int), dB g (.int i) (.int j) k = k (.bl (g i j))) ∧
    (∀ (i j : Int), dAdd (.int i) (.int j) k = k (.int (i + j))) ∧
    (∀ (i j : Str), dAdd (.str i) (.str j) k = (i.length + j.length ≤ sizeLine ∧ k (.str (i ++ j)))) ∧
    (∀ (i : Int), dAbs [.int i] k = k (.int (if i < 0 then -i else i))) ∧
    (∀ (i : Int), dInt [.int i] k = k (.int i)) ∧
    (∀ (b : Bool), dInt [.bl b] k = k (.int (if b then 1 else 0))) ∧
    (∀ (i j : Int), dMin2 [.int i, .int j] k = k (.int (if j < i then j else i))) ∧
    (∀ (i j : Int), dMax2 [.int i, .int j] k = k (.int (if j > i then j else i))) ∧
    (∀ (i : Int), dNeg (.int i) k = k (.int (-i))) ∧
    (∀ (xs : List D), dLen [.tup xs] k = k (.int xs.length)) ∧
    (∀ (xs : List D), dLen [.lst xs] k = k (.int xs.length)) ∧
    (∀ (xs : List D), dLen [.ro xs] k = k (.int xs.length)) ∧
    (∀ (z : Str), dLen [.str z] k = (z.length ≤ sizeLine ∧ k (.int z.length))) ∧
    (∀ (ds : List D), dLenL ds k = k (.int ds.length)) ∧
    (∀ (ds : List D), dTupL ds k = k (.tup ds)) := by
  have sI : ∀ i : Int, SeqAt.shaped (.int i) = true := fun i => by simp [SeqAt.shaped, PyData.canLay0, PyData.depth]
  have sB : ∀ i : Bool, SeqAt.shaped (.bool i) = true := fun i => by simp [SeqAt.shaped, PyData.canLay0, PyData.depth]
  have sS : ∀ i : Str, SeqAt.shaped (.str i) = PyData.strOk i := fun i => by simp [SeqAt.shaped, PyData.canLay0, PyData.depth]
  have bi : ∀ i j : Int, (i == j) = decide (i = j) := fun i j => rfl
  have bs : ∀ i j : Str, (i == j) = decide (i = j) := fun i j => rfl
  refine ⟨fun i j => ?_, fun i j => ?_, fun i j => ?_, fun i j => ?_, fun i j => ?_, fun _ _ _ => rfl, fun _ _ _ _ => rfl, fun _ _ _ => rfl, fun _ _ => rfl, fun _ _ => rfl, fun _ => rfl, fun _ => rfl, fun _ => rfl, fun _ _ => rfl, fun _ _ => rfl, fun _ => rfl, fun _ => rfl, fun _ => rfl, fun _ => rfl, fun _ => rfl, fun _ => rfl, fun _ => rfl⟩
  · refine propext ⟨fun ⟨p, q, e1, e2, _, _, h⟩ => ?_, fun h => ⟨_, _, rfl, rfl, sI _, sI _, h⟩⟩
    cases e1; cases e2; exact h
  · refine propext ⟨fun ⟨p, q, e1, e2, _, _, h⟩ => ?_, fun h => ⟨_, _, rfl, rfl, sI _, sI _, h⟩⟩
    cases e1; cases e2; exact h
  · refine propext ⟨fun ⟨p, q, e1, e2, _, _, h⟩ => ?_, fun h => ⟨_, _, rfl, rfl, sB _, sB _, h⟩⟩
    cases e1; cases e2; exact h
  · refine propext ⟨fun ⟨p, q, e1, e2, h1, h2, h⟩ => ?_, fun h => ⟨_, _, rfl, rfl, (sS _).trans h.1, (sS _).trans h.2.1, h.2.2⟩⟩
    cases e1; cases e2; exact ⟨(sS _).symm.trans h1, (sS _).symm.trans h2, h⟩
  · refine propext ⟨fun ⟨p, q, e1, e2, h1, h2, h⟩ => ?_, fun h => ⟨_, _, rfl, rfl, (sS _).trans h.1, (sS _).trans h.2.1, h.2.2⟩⟩
    cases e1; cases e2; exact ⟨(sS _).symm.trans h1, (sS _).symm.trans h2, h⟩
end
/-! what a for runs over -/
section
variable {R : ExD} {Γ : List SD}
theorem ri : (∀ (T : TF) (Φ : List D → List SD → Prop), tRng1 T R Γ Φ = T R Γ fun d Γ' => d.asInt fun j => -(2 ^ 62) ≤ j ∧ j < 2 ^ 62 ∧ Φ (rangeDs 0 j.toNat) Γ') ∧
    (∀ (T U : TF) (Φ : List D → List SD → Prop), tRng2 T U R Γ Φ = T R Γ fun d Γ1 => U R Γ1 fun d2 Γ2 => d.asInt fun i => d2.asInt fun j => (-(2 ^ 62) ≤ i ∧ i < 2 ^ 62 ∧ -(2 ^ 62) ≤ j ∧ j < 2 ^ 62) ∧ Φ (rangeDs i (j - i).toNat) Γ2) ∧
    (∀ (T : TF) (Φ : List D → List SD → Prop), tItsD T R Γ Φ = T R Γ fun d Γ' => d.its fun ds => Φ ds Γ') ∧
    (∀ (i : Nat) (d : D) (Φ : List SD → Prop), gNameD i d Γ Φ = Φ (Γ.set i (.im d))) ∧
    (∀ (i : Int) (k : Int → Prop), (D.int i).asInt k = k i) := ⟨fun _ _ => rfl, fun _ _ _ => rfl, fun _ _ => rfl, fun _ _ _ => rfl, fun _ _ => rfl⟩
theorem range_get {lo : Int} {n i : Nat} {d : D} (h : (rangeDs lo n)[i]? = some d) : i < n ∧ d = .int (lo + (i : Int)) := by
  have hi : i < n := by
    have := (List.getElem?_eq_some_iff.mp h).1
    rwa [rangeDs_length] at this
  refine ⟨hi, ?_⟩
  unfold rangeDs at h
  rw [List.getElem?_map, List.getElem?_range hi] at h
  exact (Option.some.inj h).symm
theorem atI_nat {α : Type} {xs : List α} {i : Nat} (h : i < xs.length) : L2.atI xs (i : Int) = xs[i]? := by
  unfold L2.atI
  have e : L2.ixN xs.length (i : Int) = some i := by
    unfold L2.ixN
    rw [if_pos (by omega), if_pos (by omega)]
    simp
  rw [e]
  rfl
theorem atI_int {α : Type} {xs : List α} {i : Int} (h0 : 0 ≤ i) (h : i < xs.length) : ∃ x, L2.atI xs i = some x ∧ xs[i.toNat]? = some x := by
  obtain ⟨n, rfl⟩ := Int.eq_ofNat_of_zero_le h0
  have hn : n < xs.length := by omega
  exact ⟨xs[n], by rw [atI_nat hn]; exact List.getElem?_eq_getElem hn, List.getElem?_eq_getElem hn⟩
end
/-- a place of Γ -/
theorem gx {s : SD} {Γ : List SD} : (∀ (i : Nat), (s :: Γ)[i + 1]? = Γ[i]?) ∧ (s :: Γ)[0]? = some s ∧ (∀ t : SD, (s :: Γ).set 0 t = t :: Γ) ∧ ∀ (i : Nat) (t : SD), (s :: Γ).set (i + 1) t = s :: Γ.set i t :=
  ⟨fun _ => rfl, rfl, fun _ => rfl, fun _ _ => rfl⟩
end Vl

namespace Vl
open PySem PySem.Spec PyProof.Rows L2
/-- a law's promise, as the walk asks for it -/
theorem top_sp {K : PySem.W.Frag} {sp : SpD} (h : ∀ (ms : List Int) (Φ : RD → Option Cl → Prop) (R : Str → Option (List (Str × D)) → Option Cl → Prop), ms.length ≤ 63 → Φ (.im (.bl true)) none → sp [.im (.ro (ms.map .int))] Φ R)
    (H : Hp) (a : Addr) (ns : List Int) (hl : ns.length ≤ 63) (_ : Only H) (hS : SqL K H a (ns.map V.int)) : liftSp K 1 sp [.ref a] H (fun v _ => v = .bl true) fun _ _ _ => False := by
  have rs : ∀ ns : List Int, Reps K H (ns.map V.int) (ns.map D.int) := fun ns => by
    induction ns with
    | nil => exact .nil
    | cons n ns ih => exact .cons (.int n) ih
  refine ⟨H, [.im (.ro (ns.map .int))], fun r _ => r = .im (.bl true), fun _ _ _ => False, rfl, Same.refl H, .cons (.ro hS ?_ (rs ns)) .nil, h ns _ _ hl rfl, ?_, fun _ _ _ _ _ _ _ _ f => f.elim⟩
  · rw [List.length_map]
    exact Nat.le_trans hl (by decide)
  · rintro v r c' G' H' p rr rfl
    cases rr
    rfl
def CXw (P : Program) : CXT := fun outer H s E u s' => ∃ w, L2.CX P w outer H s E u s'
theorem FnOk.w {P : Program} {w : World} {K : PySem.W.Frag} {mg : Str → Option Value} {base : Heap} {k : Nat} {f : Addr} {fd : FuncData} {ps : List Str} {sp : Sp} (F : FnOk P w K mg base (L2.CX P w) k f fd ps sp) : FnOk P w K mg base (CXw P) k f fd ps sp :=
  ⟨F.len, fun A outer s H args us vs Q E hr he hb hv hs => codeAny_mono (F.run A outer s H args us vs Q E hr he hb hv hs) fun r s' q => by
    cases r with
    | error e => exact ⟨w, q⟩
    | ok fl => cases fl <;> exact q⟩
theorem cxw_no {P : Program} (H : Hp) (s : Shared) (e : Value) (s' : Shared) (h : CXw P [] H s (fun _ _ _ => False) e s') : False := by
  obtain ⟨w, a, B, H', cls, d, _, _, _, _, _, _, _, f⟩ := h
  exact f
end Vl

namespace Vl
open PySem PySem.Spec PyProof.Rows L2

/-! ### readings (row free) -/
def F_is_word_7 : TSD := tForD (tItsD (tVarD 0)) (gNameD 1) (tIfSD (tBinT (dIn true) (tVarD 1) (tCD (.str "abcdefghijklmnopqrstuvwxyz0123456789"))) (tRetD (tCD (.bl false))) (tNextD))
def T_is_word_7 : TSD := tSeqD (F_is_word_7) (tRetD (tCD (.bl true)))
def T_is_word_5 : TSD := tSeqD (tIfSD (tBinT (dIn true) (tBin dIx (tVarD 0) (tCD (.int 0))) (tCD (.str "abcdefghijklmnopqrstuvwxyz"))) (tRetD (tCD (.bl false))) (tNextD)) (T_is_word_7)
def T_is_word_3 : TSD := tSeqD (tIfSD (tOrD (tBinT (dB fun i j => decide (i < j)) (tCBD dLen (tConsD (tVarD 0) (tNilD))) (tCD (.int 1))) (tBinT (dB fun i j => decide (j < i)) (tCBD dLen (tConsD (tVarD 0) (tNilD))) (tCD (.int 8)))) (tRetD (tCD (.bl false))) (tNextD)) (T_is_word_5)
def T_is_word : TSD := tSeqD (tIfSD (tNotD (tTru (tIsi "str" (tVarD 0)))) (tRetD (tCD (.bl false))) (tNextD)) (T_is_word_3)
def S_is_word : SpD := bodySp 2 none T_is_word
def T_law_draws_5 : TSD := tSeqD (tSetD 3 (tBin (dIC (fun _ j => 0 < j) fun i j => i % j) (tCBD dInt (tConsD (tBin (dIC CMul fun i j => i * j) (tBin dAdd (tBin (dIC CMul fun i j => i * j) (tCD (.int 2)) (tVarD 3)) (tCBD dInt (tConsD (tBin (dB fun i j => decide (i < j)) (tBin dIx (tVarD 0) (tVarD 2)) (tCD (.int 0))) (tNilD)))) (tBin dAdd (tCD (.int 48271)) (tBin (dIC CMul fun i j => i * j) (tCD (.int 2)) (tVarD 2)))) (tNilD))) (tCD (.int 2147483647)))) (tSetD 3 (tBin (dIC (fun _ j => 0 < j) fun i j => i % j) (tCBD dInt (tConsD (tBin (dIC CMul fun i j => i * j) (tVarD 3) (tBin dAdd (tVarD 3) (tCD (.int 69621)))) (tNilD))) (tCD (.int 999999937))))
def T_law_draws_9 : TSD := tSeqD (tDropD (tAppend 1 (tBin (dIC (fun _ j => 0 < j) fun i j => i % j) (tCBD dInt (tConsD (tVarD 3) (tNilD))) (tCD (.int 1000))))) (tSetD 3 (tBin (dIC CDiv fun i j => i / j) (tVarD 3) (tCD (.int 1000))))
def F_law_draws_7 : TSD := tForD (tRng1 (tCD (.int 60))) (gNameD 4) (tIfSD (tOrD (tBinT (dB fun i j => decide (j < i)) (tVarD 3) (tCD (.int 0))) (tBinT (dEq false) (tVarD 4) (tCD (.int 0)))) (T_law_draws_9) (tNextD))
def T_law_draws_4 : TSD := tSeqD (tIfSD (tBinT (dB fun i j => decide (i < j)) (tVarD 3) (tBin (dIC CPow fun i j => i ^ j.toNat) (tCD (.int 10)) (tCD (.int 18)))) (T_law_draws_5) (tNextD)) (F_law_draws_7)
def T_law_draws_3 : TSD := tSeqD (tSetD 3 (tCBD dAbs (tConsD (tCBD dInt (tConsD (tBin dIx (tVarD 0) (tVarD 2)) (tNilD))) (tNilD)))) (T_law_draws_4)
def F_law_draws_2 : TSD := tForD (tRng1 (tCBD dMin2 (tConsD (tCBD dLen (tConsD (tVarD 0) (tNilD))) (tConsD (tCD (.int 63)) (tNilD))))) (gNameD 2) (T_law_draws_3)
def T_law_draws_2 : TSD := tSeqD (F_law_draws_2) (tRetV 1)
def T_law_draws : TSD := tSeqD (tSetO 1 (tLstO (tNilD))) (T_law_draws_2)
def S_law_draws : SpD := bodySp 5 none T_law_draws
def T_law_take : TSD := tSeqD (tIfSD (tBinT (dEq false) (tOwn dLenL 0) (tCD (.int 0))) (tRetD (tCD (.int 0))) (tNextD)) (tRetD (tBin (dIC (fun _ j => 0 < j) fun i j => i % j) (tCBD dInt (tConsD (tPopAt 0 (tCD (.int 0))) (tNilD))) (tVarD 1)))
def S_law_take : SpD := bodySp 2 (some 0) T_law_take
def T_law_text_3 : TSD := tSeqD (tSetD 4 (tCallB 2 0 S_law_take (tSlB 0 (tImB (tCD (.int 1000)) (tNilB))))) (tIfSD (tBinT (dB fun i j => decide (i < j)) (tVarD 4) (tCD (.int 900))) (tSetD 2 (tBin dAdd (tVarD 2) (tBin dIx (tCD (.str "abcdefghijklmnopqrstuvwxyz0123456789")) (tBin (dIC (fun _ j => 0 < j) fun i j => i % j) (tCBD dInt (tConsD (tVarD 4) (tNilD))) (tCD (.int 36)))))) (tSetD 2 (tBin dAdd (tVarD 2) (tBin dIx (tCD (.str "AZ_ .-\n\t\x7b/:\x40\x5b~*")) (tBin (dIC (fun _ j => 0 < j) fun i j => i % j) (tCBD dInt (tConsD (tVarD 4) (tNilD))) (tCD (.int 15)))))))
def F_law_text_2 : TSD := tForD (tRng1 (tVarD 1)) (gNameD 3) (T_law_text_3)
def T_law_text_2 : TSD := tSeqD (F_law_text_2) (tRetD (tVarD 2))
def T_law_text : TSD := tSeqD (tSetD 2 (tCD (.str ""))) (T_law_text_2)
def S_law_text : SpD := bodySp 5 (some 0) T_law_text
def F_law_8 : TSD := tForD (tRng1 (tCallB 2 1 S_law_take (tSlB 1 (tImB (tCD (.int 9)) (tNilB))))) (gNameD 6) (tSetD 3 (tBin dAdd (tVarD 3) (tBin dIx (tCD (.str "abcdefghijklmnopqrstuvwxyz0123456789")) (tCallB 2 1 S_law_take (tSlB 1 (tImB (tCD (.int 36)) (tNilB)))))))
def T_law_7 : TSD := tSeqD (tSetD 3 (tBin dIx (tCD (.str "abcdefghijklmnopqrstuvwxyz")) (tCallB 2 1 S_law_take (tSlB 1 (tImB (tCD (.int 26)) (tNilB)))))) (F_law_8)
def T_law_11 : TSD := tSeqD (tSetD 7 (tCallB 2 1 S_law_take (tSlB 1 (tImB (tCBD dLen (tConsD (tVarD 3) (tNilD))) (tNilB))))) (tSetD 3 (tBin dAdd (tBin dAdd (tSlD (tVarD 3) (tNoPartD) (tPartD (tVarD 7))) (tBin dIx (tCD (.str "0A_ z\n-9\x7b/:\x40\x5b~'")) (tCallB 2 1 S_law_take (tSlB 1 (tImB (tCD (.int 15)) (tNilB)))))) (tSlD (tVarD 3) (tPartD (tBin dAdd (tVarD 7) (tCD (.int 1)))) (tNoPartD))))
def F_law_18 : TSD := tForD (tItsD (tVarD 3)) (gNameD 8) (tIfSD (tBinT (dIn true) (tVarD 8) (tCD (.str "abcdefghijklmnopqrstuvwxyz0123456789"))) (tSetD 4 (tCD (.bl false))) (tNextD))
def T_law_17 : TSD := tSeqD (tSetD 4 (tBin (dIn false) (tBin dIx (tVarD 3) (tCD (.int 0))) (tCD (.str "abcdefghijklmnopqrstuvwxyz")))) (F_law_18)
def T_law_21 : TSD := tSeqD (tSetD 5 (tCallD 1 S_is_word (tConsD (tVarD 3) (tNilD)))) (tRetD (tAndV' (tIsi "bool" (tVarD 5)) (tBin (dEq false) (tVarD 5) (tVarD 4))))
def T_law_16 : TSD := tSeqD (tIfSD (tTru (tVarD 4)) (T_law_17) (tNextD)) (T_law_21)
def T_law_15 : TSD := tSeqD (tSetD 4 (tAndV' (tIsi "str" (tVarD 3)) (tChainD (dB fun i j => decide (i ≤ j)) (dB fun i j => decide (i ≤ j)) (tCD (.int 1)) (tCBD dLen (tConsD (tVarD 3) (tNilD))) (tCD (.int 8))))) (T_law_16)
def T_law_13 : TSD := tSeqD (tIfSD (tBinT (dEq false) (tVarD 2) (tCD (.int 3))) (tSetD 3 (tBin dIx (tFz (tLstO (tConsD (tCD .non) (tConsD (tCD (.bl true)) (tConsD (tCD (.bl false)) (tConsD (tCD (.int 0)) (tConsD (tCD (.int 7)) (tConsD (tUnD dNeg (tCD (.int 1))) (tConsD (tBin (dIC CPow fun i j => i ^ j.toNat) (tCD (.int 10)) (tCD (.int 30))) (tConsD (tTupD (tConsD (tCD (.str "a")) (tNilD))) (tConsD (tFz (tLstO (tConsD (tCD (.str "a")) (tNilD)))) (tConsD (tFz (tLstO (tNilD))) (tConsD (tTupD (tNilD)) (tConsD (tFz (tDictO)) (tNilD))))))))))))))) (tCallB 2 1 S_law_take (tSlB 1 (tImB (tCD (.int 12)) (tNilB)))))) (tNextD)) (T_law_15)
def T_law_10 : TSD := tSeqD (tIfSD (tBinT (dEq false) (tVarD 2) (tCD (.int 2))) (T_law_11) (tNextD)) (T_law_13)
def T_law_6 : TSD := tSeqD (tIfSD (tOrD (tBinT (dEq false) (tVarD 2) (tCD (.int 1))) (tBinT (dEq false) (tVarD 2) (tCD (.int 2)))) (T_law_7) (tNextD)) (T_law_10)
def T_law_4 : TSD := tSeqD (tIfSD (tBinT (dEq false) (tVarD 2) (tCD (.int 0))) (tSetD 3 (tCallB 2 1 S_law_text (tSlB 1 (tImB (tCallB 2 1 S_law_take (tSlB 1 (tImB (tCD (.int 11)) (tNilB)))) (tNilB))))) (tNextD)) (T_law_6)
def T_law_3 : TSD := tSeqD (tSetD 3 (tCD (.str ""))) (T_law_4)
def T_law_2 : TSD := tSeqD (tSetD 2 (tCallB 2 1 S_law_take (tSlB 1 (tImB (tCD (.int 4)) (tNilB))))) (T_law_3)
def T_law : TSD := tSeqD (tSetO 1 (tCallO 1 S_law_draws (tConsD (tVarD 0) (tNilD)))) (T_law_2)
def S_law : SpD := bodySp 9 none T_law
end Vl

namespace Vl
open PySem PySem.Spec PyProof.Rows L2
/-! ### the drawn numbers -/
def Ns (c : Cl) : Prop := ∃ ns : List Int, c = .lst (ns.map .int)
theorem take_ok {c : Cl} {m : Int} {Φ : RD → Option Cl → Prop} {R : Str → Option (List (Str × D)) → Option Cl → Prop} (hc : Ns c) (hm : 0 < m) (h : ∀ (r : Int) c', Ns c' → 0 ≤ r → r < m → Φ (.im (.int r)) (some c')) :
    S_law_take [.ow c, .im (.int m)] Φ R := by
  obtain ⟨ns, rfl⟩ := hc
  refine s_body (Γ := [.ow _, .im _]) rfl rfl rfl rfl (s_seq (s_if ?_))
  simp only [rd, dv, gx, tOwn]
  refine ite_b (fun e => ?_) fun e => ?_
  · refine s_ret ?_
    simp only [rd]
    exact h 0 _ ⟨ns, rfl⟩ (Int.le_refl _) hm
  · refine s_next (s_ret ?_)
    cases ns with
    | nil => simp at e
    | cons n ns =>
      simp only [rd, dv, gx, tPopAt, D.asInt]
      refine ⟨0, .int n, by decide, by decide, ?_, rfl, ?_⟩
      · simp [seqIndex?]
      · simp only [dv, gx]
        exact ⟨hm, h _ _ ⟨ns, rfl⟩ (Int.emod_nonneg _ (by omega)) (Int.emod_lt_of_pos _ hm)⟩
/-- the draws of a script -/
theorem draws_ok {ms : List Int} {Φ : RD → Option Cl → Prop} {R : Str → Option (List (Str × D)) → Option Cl → Prop} (h : ∀ c', Ns c' → Φ (.fr c') none) : S_law_draws [.im (.ro (ms.map .int))] Φ R := by
  refine s_body (Γ := [.im _, .un, .un, .un, .un]) rfl rfl rfl rfl (s_seq (s_setO ?_))
  simp only [rd, gx]
  refine ⟨Nat.zero_le _, s_seq (s_for ?_)⟩
  simp only [rd, gx, ri, dv]
  have hn : 0 ≤ (if (63 : Int) < ((ms.map D.int).length : Int) then 63 else ((ms.map D.int).length : Int)) ∧ (if (63 : Int) < ((ms.map D.int).length : Int) then 63 else ((ms.map D.int).length : Int)) ≤ 63 ∧ (if (63 : Int) < ((ms.map D.int).length : Int) then 63 else ((ms.map D.int).length : Int)) ≤ ((ms.map D.int).length : Int) := by
    split <;> omega
  generalize (if (63 : Int) < ((ms.map D.int).length : Int) then 63 else ((ms.map D.int).length : Int)) = N at hn ⊢
  refine ⟨by omega, by omega, fun i Γ => ∃ (ns : List Int) (a b e : SD), Γ = [.im (.ro (ms.map .int)), .ow (.lst (ns.map .int)), a, b, e] ∧ ns.length ≤ 60 * i, ⟨[], _, _, _, rfl, Nat.zero_le _⟩, ?_, ?_⟩
  · rintro i d Γ hd ⟨ns, a, b, e, rfl, hl⟩
    obtain ⟨hi, rfl⟩ := range_get hd
    have hi2 : i < (ms.map D.int).length := by omega
    have hi3 : i < ms.length := by rwa [List.length_map] at hi2
    have key : L2.atI (ms.map D.int) (0 + (i : Int)) = some (.int ms[i]) := by
      rw [Int.zero_add, atI_nat hi2, List.getElem?_map, List.getElem?_eq_getElem hi3]
      rfl
    simp only [gx, ri]
    refine s_seq (s_set ?_)
    simp only [rd, gx, dIx, key, Option.some.injEq, dv, exists_eq_left']
    have ha : 0 ≤ (if ms[i] < 0 then -ms[i] else ms[i]) := by split <;> omega
    generalize (if ms[i] < 0 then -ms[i] else ms[i]) = A at ha ⊢
    refine s_seq (s_if ?_)
    simp only [rd, gx, dv]
    refine ⟨⟨by decide, by decide, by decide⟩, ?_⟩
    have fin : ∀ (A : Int), tForD (tRng1 (tCD (.int 60))) (gNameD 4) (tIfSD (tOrD (tBinT (dB fun i j => decide (j < i)) (tVarD 3) (tCD (.int 0))) (tBinT (dEq false) (tVarD 4) (tCD (.int 0)))) (tSeqD (tDropD (tAppend 1 (tBin (dIC (fun _ j => 0 < j) fun i j => i % j) (tCBD dInt (tConsD (tVarD 3) (tNilD))) (tCD (.int 1000))))) (tSetD 3 (tBin (dIC CDiv fun i j => i / j) (tVarD 3) (tCD (.int 1000))))) (tNextD))
      (fun c pl Γ => R c pl (bcOf none Γ)) ⟨fun Γ => ∃ (ns : List Int) (a b e : SD), Γ = [.im (.ro (ms.map .int)), .ow (.lst (ns.map .int)), a, b, e] ∧ ns.length ≤ 60 * (i + 1), fun r Γ => Φ r (bcOf none Γ), fun _ => False, fun _ => False⟩
      [.im (.ro (ms.map .int)), .ow (.lst (ns.map .int)), .im (.int (0 + i)), .im (.int A), e] := by
      intro A
      refine s_for ?_
      simp only [rd, gx, ri, dv]
      refine ⟨by decide, by decide, fun k Γ => ∃ (ns : List Int) (A : Int) (a e : SD), Γ = [.im (.ro (ms.map .int)), .ow (.lst (ns.map .int)), a, .im (.int A), e] ∧ ns.length ≤ 60 * i + k, ⟨_, _, _, _, rfl, hl⟩, ?_, ?_⟩
      · rintro k d Γ hd ⟨ns, A, a, e, rfl, hl⟩
        obtain ⟨hk, rfl⟩ := range_get hd
        simp only [ri, gx]
        refine s_if ?_
        simp only [rd, dv, gx]
        have step : tSeqD (tDropD (tAppend 1 (tBin (dIC (fun _ j => 0 < j) fun i j => i % j) (tCBD dInt (tConsD (tVarD 3) (tNilD))) (tCD (.int 1000))))) (tSetD 3 (tBin (dIC CDiv fun i j => i / j) (tVarD 3) (tCD (.int 1000))))
          (fun c pl Γ => R c pl (bcOf none Γ)) ⟨fun Γ => ∃ (ns : List Int) (A : Int) (a e : SD), Γ = [.im (.ro (ms.map .int)), .ow (.lst (ns.map .int)), a, .im (.int A), e] ∧ ns.length ≤ 60 * i + (k + 1), fun r Γ => Φ r (bcOf none Γ), fun Γ => ∃ (ns : List Int) (a b e : SD), Γ = [.im (.ro (ms.map .int)), .ow (.lst (ns.map .int)), a, b, e] ∧ ns.length ≤ 60 * (i + 1), fun Γ => ∃ (ns : List Int) (A : Int) (a e : SD), Γ = [.im (.ro (ms.map .int)), .ow (.lst (ns.map .int)), a, .im (.int A), e] ∧ ns.length ≤ 60 * i + (k + 1)⟩
          [.im (.ro (ms.map .int)), .ow (.lst (ns.map .int)), a, .im (.int A), .im (.int (0 + k))] := by
          refine s_seq (s_drop ?_)
          simp only [tAppend, rd, dv, gx]
          refine ⟨by decide, ?_, s_set ?_⟩
          · rw [List.length_map]
            have h60 : (60 : Int).toNat = 60 := rfl
            exact Nat.lt_of_lt_of_le (m := 10000) (by omega) (by decide)
          · simp only [rd, dv, gx]
            refine ⟨⟨by decide, by decide⟩, ns ++ [A % 1000], A / 1000, a, .im (.int (0 + k)), ?_, ?_⟩
            · rw [List.map_append]
              rfl
            · rw [List.length_append]
              exact Nat.succ_le_succ hl
        split
        · rw [if_pos trivial]
          exact step
        · refine ite_b (fun _ => step) fun _ => s_next ⟨ns, A, _, _, rfl, Nat.le_succ_of_le hl⟩
      · rintro Γ ⟨ns, A, a, e, rfl, hl⟩
        rw [rangeDs_length] at hl
        exact ⟨ns, _, _, _, rfl, by have : (60 : Int).toNat = 60 := rfl; omega⟩
    refine ite_b (fun hb => ?_) fun _ => s_next (fin A)
    have hA : A < 10 ^ 18 := of_decide_eq_true hb
    refine s_seq (s_set ?_)
    simp only [rd, gx, dIx, key, Option.some.injEq, dv, exists_eq_left']
    have hb2 : 0 ≤ (if decide (ms[i] < 0) = true then (1 : Int) else 0) ∧ (if decide (ms[i] < 0) = true then (1 : Int) else 0) ≤ 1 := by split <;> omega
    generalize (if decide (ms[i] < 0) = true then (1 : Int) else 0) = B at hb2 ⊢
    refine ⟨.inl ⟨by decide, by decide⟩, .inl ⟨by decide, by decide⟩, .inl ⟨by omega, by omega⟩, by decide, s_set ?_⟩
    have hm := Int.emod_nonneg ((2 * A + B) * (48271 + 2 * (0 + (i : Int)))) (b := 2147483647) (by decide)
    have hm2 := Int.emod_lt_of_pos ((2 * A + B) * (48271 + 2 * (0 + (i : Int)))) (b := 2147483647) (by decide)
    generalize (2 * A + B) * (48271 + 2 * (0 + (i : Int))) % 2147483647 = C at hm hm2 ⊢
    simp only [rd, gx, dv]
    exact ⟨.inl ⟨by omega, by omega⟩, by decide, fin _⟩
  · rintro Γ ⟨ns, a, b, e, rfl, hl⟩
    refine s_retV rfl (h _ ⟨ns, rfl⟩)
end Vl

namespace Vl
open PySem PySem.Spec PyProof.Rows L2
theorem str_ix {z : Str} {i : Int} {k : D → Prop} (h0 : 0 ≤ i) (h : i < z.length) (hz : z.length ≤ sizeLine) (hk : ∀ c, z.cps.toList[i.toNat]? = some c → k (.str ⟨#[c]⟩)) : dIx (.str z) (.int i) k := by
  obtain ⟨c, h1, h2⟩ := atI_int (xs := z.cps.toList) h0 (by simpa [Str.length] using h)
  exact ⟨hz, c, h1, hk c h2⟩
theorem dIn1 {c : Nat} {z : Str} {k : D → Prop} : dIn false (.str ⟨#[c]⟩) (.str z) k = k (.bl (decide (c ∈ z.cps.toList))) := by
  refine propext ⟨fun ⟨c', e, h⟩ => ?_, fun h => ⟨c, rfl, h⟩⟩
  cases e; exact h
theorem dNin1 {c : Nat} {z : Str} {k : D → Prop} : dIn true (.str ⟨#[c]⟩) (.str z) k = k (.bl (!decide (c ∈ z.cps.toList))) := by
  refine propext ⟨fun ⟨c', e, h⟩ => ?_, fun h => ⟨c, rfl, h⟩⟩
  cases e; exact h
theorem slen_app (x y : Str) : (x ++ y).length = x.length + y.length := by
  show (x.cps ++ y.cps).size = _
  rw [Array.size_append]
  rfl
theorem small {n : Nat} (h : n ≤ 1000) : n ≤ sizeLine := Nat.le_trans h (by decide)
theorem text_ok {c : Cl} {m : Int} {Φ : RD → Option Cl → Prop} {R : Str → Option (List (Str × D)) → Option Cl → Prop} (hc : Ns c) (h0 : 0 ≤ m) (hm : m ≤ 100) (h : ∀ (z : Str) c', Ns c' → (z.length : Int) = m → Φ (.im (.str z)) (some c')) :
    S_law_text [.ow c, .im (.int m)] Φ R := by
  refine s_body (Γ := [.ow _, .im _, .un, .un, .un]) rfl rfl rfl rfl (s_seq (s_set ?_))
  simp only [rd, gx]
  refine s_seq (s_for ?_)
  simp only [rd, gx, ri]
  refine ⟨by omega, by omega, fun i Γ => ∃ (c : Cl) (z : Str) (a b : SD), Ns c ∧ Γ = [.ow c, .im (.int m), .im (.str z), a, b] ∧ z.length = i, ⟨c, "", _, _, hc, rfl, rfl⟩, ?_, ?_⟩
  · rintro i d Γ hd ⟨c, z, a, b, hc, rfl, hz⟩
    obtain ⟨hi, rfl⟩ := range_get hd
    simp only [ri, gx]
    refine s_seq (s_set ?_)
    simp only [tCallB, tSlB, rd, gx]
    refine ⟨rfl, rfl, take_ok hc (by decide) fun r c' hc' hr0 hr1 => ?_⟩
    simp only [gx]
    refine s_if ?_
    simp only [rd, dv, gx]
    refine ite_b (fun _ => s_set ?_) fun _ => s_set ?_
    all_goals
      simp only [RD.d, rd, dv, gx]
      refine ⟨by decide, str_ix (Int.emod_nonneg _ (by decide)) ?_ (by decide +kernel) fun x _ => ?_⟩
    · exact Int.emod_lt_of_pos _ (by decide)
    · simp only [dv, gx]
      refine ⟨small ?_, c', _, _, _, hc', rfl, ?_⟩
      · have : (⟨#[x]⟩ : Str).length = 1 := rfl
        omega
      · rw [slen_app, hz]
        rfl
    · exact Int.emod_lt_of_pos _ (by decide)
    · simp only [dv, gx]
      refine ⟨small ?_, c', _, _, _, hc', rfl, ?_⟩
      · have : (⟨#[x]⟩ : Str).length = 1 := rfl
        omega
      · rw [slen_app, hz]
        rfl
  · rintro Γ ⟨c, z, a, b, hc, rfl, hz⟩
    rw [rangeDs_length] at hz
    refine s_ret ?_
    simp only [rd, gx]
    exact h z c hc (by omega)
/-! ### words -/
abbrev Lt : Str := "abcdefghijklmnopqrstuvwxyz"
abbrev Sg : Str := "abcdefghijklmnopqrstuvwxyz0123456789"
def inS (z : Str) (c : Nat) : Bool := decide (c ∈ z.cps.toList)
def isWL (z : List Nat) : Bool := decide (1 ≤ z.length) && decide (z.length ≤ 8) && (match z with
  | [] => false
  | c :: _ => inS Lt c) && z.all (inS Sg)
def isW : D → Bool
  | .str z => isWL z.cps.toList
  | _ => false
/-- a value that the law draws -/
def WV (d : D) : Prop := (∃ n, d.tyn = some n ∧ n ≠ "str") ∨ ∃ z : Str, d = .str z ∧ z.length ≤ sizeLine
theorem strDs_get {z : Str} {i : Nat} {d : D} (h : (strDs z)[i]? = some d) : ∃ c, z.cps.toList[i]? = some c ∧ d = .str ⟨#[c]⟩ := by
  unfold strDs at h
  rw [List.getElem?_map] at h
  obtain ⟨c, h1, h2⟩ := Option.map_eq_some_iff.mp h
  exact ⟨c, h1, h2.symm⟩
theorem iteTT {A B : Prop} (h : A) : if True then A else B := by
  rw [if_pos trivial]
  exact h
theorem ltoList {z : Str} : z.cps.toList.length = z.length := rfl
theorem isWL_head {z : List Nat} (h : 0 < z.length) : ∃ c, z[0]? = some c ∧ isWL z = (decide (1 ≤ z.length) && decide (z.length ≤ 8) && inS Lt c && z.all (inS Sg)) := by
  cases z with
  | nil => cases h
  | cons c z => exact ⟨c, rfl, rfl⟩
theorem is_word_ok {d : D} {Φ : RD → Option Cl → Prop} {R : Str → Option (List (Str × D)) → Option Cl → Prop} (hd : WV d) (h : Φ (.im (.bl (isW d))) none) : S_is_word [.im d] Φ R := by
  refine s_body (Γ := [.im _, .un]) rfl rfl rfl rfl (s_seq (s_if ?_))
  simp only [rd, gx, dIsi]
  rcases hd with ⟨n, hn, hs⟩ | ⟨z, rfl, hz⟩
  · rw [hn]
    have e : (n == "str" || (n == "bool" && "str" == "int")) = false := by simp [hs]
    have e2 : isW d = false := by
      cases d with
      | str z => cases hn; exact (hs rfl).elim
      | _ => rfl
    rw [e2] at h
    simp only [D.truth, e]
    exact iteT (s_ret h)
  · simp only [D.tyn, D.truth]
    refine iteF (s_next (s_seq (s_if ?_)))
    simp only [rd, gx, dv]
    refine ⟨hz, ?_⟩
    have ret : ∀ (b : Bool) Γ', b = isW (.str z) → tRetD (tCD (.bl b)) (fun c pl Γ => R c pl (bcOf none Γ)) ⟨fun Γ => Φ (.im .non) (bcOf none Γ), fun r Γ => Φ r (bcOf none Γ), fun _ => False, fun _ => False⟩ Γ' := fun b Γ' e => s_ret (by subst e; exact h)
    have l1 : z.cps.toList.length = z.length := rfl
    refine ite_b (fun e => iteTT (s_ret ?_)) fun e => ⟨hz, ite_b (fun e2 => s_ret ?_) fun e2 => s_next (s_seq (s_if ?_))⟩
    · have : isW (.str z) = false := by
        have := of_decide_eq_true e
        simp only [isW, isWL, l1]
        simp
        omega
      rw [this] at h
      exact h
    · have : isW (.str z) = false := by
        have := of_decide_eq_true e2
        simp only [isW, isWL, l1]
        simp
        omega
      rw [this] at h
      exact h
    · have g1 := of_decide_eq_false e
      have g2 := of_decide_eq_false e2
      obtain ⟨c, hc, hw⟩ := isWL_head (z := z.cps.toList) (by rw [l1]; omega)
      simp only [rd, gx, dv]
      refine str_ix (by decide) (by omega) hz fun c' hc' => ?_
      cases hc.symm.trans hc'
      rw [dNin1]
      refine ite_b (fun e3 => s_ret ?_) fun e3 => s_next (s_seq (s_for ?_))
      · have : isW (.str z) = false := by
          show isWL z.cps.toList = false
          rw [hw]
          have : inS Lt c = false := by simpa [inS] using e3
          rw [this]
          simp
        rw [this] at h
        exact h
      · simp only [rd, gx, ri, D.its]
        have e4 : inS Lt c = true := by simpa [inS] using e3
        refine ⟨fun i Γ => (∀ c ∈ z.cps.toList.take i, inS Sg c = true) ∧ ∃ a, Γ = [.im (.str z), a], ⟨by simp, _, rfl⟩, ?_, ?_⟩
        · rintro i d Γ hd ⟨hi, a, rfl⟩
          obtain ⟨x, hx, rfl⟩ := strDs_get hd
          simp only [gx, ri]
          refine s_if ?_
          simp only [rd, gx]
          rw [dNin1]
          refine ite_b (fun e5 => s_ret ?_) fun e5 => s_next ⟨?_, _, rfl⟩
          · have : isW (.str z) = false := by
              show isWL z.cps.toList = false
              rw [hw]
              have : z.cps.toList.all (inS Sg) = false := by
                rw [List.all_eq_false]
                refine ⟨x, List.mem_of_getElem? hx, ?_⟩
                simpa [inS] using e5
              rw [this]
              simp
            rw [this] at h
            exact h
          · intro c2 h2
            rw [List.take_add_one, hx] at h2
            rcases List.mem_append.mp h2 with h2 | h2
            · exact hi c2 h2
            · simp at h2
              subst h2
              simpa [inS] using e5
        · rintro Γ ⟨hi, a, rfl⟩
          rw [strDs_length, show z.cps.size = z.cps.toList.length from rfl, List.take_length] at hi
          refine s_ret ?_
          have : isW (.str z) = true := by
            show isWL z.cps.toList = true
            rw [hw, e4, List.all_eq_true.mpr hi, l1]
            simp
            omega
          rw [this] at h
          exact h

/-! ### the law -/
theorem law_tail {R : ExD} {Φ : RD → Option Cl → Prop} {s b e f g i_ j : SD} {c : Cl} {d : D} (hd : WV d) (h : Φ (.im (.bl true)) none) :
    T_law_15 R ⟨fun Γ => Φ (.im .non) (bcOf none Γ), fun r Γ => Φ r (bcOf none Γ), fun _ => False, fun _ => False⟩ [s, .ow c, b, .im d, e, f, g, i_, j] := by
  have last : ∀ (f g i j : SD), T_law_21 R ⟨fun Γ => Φ (.im .non) (bcOf none Γ), fun r Γ => Φ r (bcOf none Γ), fun _ => False, fun _ => False⟩ [s, .ow c, b, .im d, .im (.bl (isW d)), f, g, i, j] := by
    intro f g i j
    refine s_seq (s_set ?_)
    simp only [tCallD, rd, gx]
    refine ⟨rfl, is_word_ok hd ?_⟩
    simp only [RD.d, gx]
    refine s_ret ?_
    simp only [rd, gx, dIsi, D.tyn, D.asBl, dv]
    refine iteT ?_
    rw [beq_self_eq_true]
    exact h
  refine s_seq (s_set ?_)
  simp only [rd, gx, dIsi]
  rcases hd with ⟨n, hn, hs⟩ | ⟨z, rfl, hz⟩
  · rw [hn]
    have e1 : (n == "str" || (n == "bool" && "str" == "int")) = false := by simp [hs]
    have e2 : isW d = false := by
      cases d with
      | str z => cases hn; exact (hs rfl).elim
      | _ => rfl
    simp only [D.asBl, e1, gx]
    refine iteF (s_seq (s_if ?_))
    simp only [rd, gx, D.truth]
    refine iteF (s_next ?_)
    rw [← e2]
    exact last _ _ _ _
  · have l1 : z.cps.toList.length = z.length := rfl
    simp only [D.tyn, D.asBl]
    refine iteT ?_
    simp only [tChainD, rd, gx, dv, D.asBl]
    refine ⟨hz, ite_b (fun e1 => s_seq (s_if ?_)) fun e1 => s_seq (s_if ?_)⟩
    · simp only [rd, gx, D.truth]
      refine ite_b (fun e2 => s_seq (s_set ?_)) fun e2 => s_next ?_
      · have g1 := of_decide_eq_true e1
        have g2 := of_decide_eq_true e2
        obtain ⟨x, hx, hw⟩ := isWL_head (z := z.cps.toList) (by rw [l1]; omega)
        simp only [rd, gx, dv]
        refine str_ix (by decide) (by omega) hz fun x' hx' => ?_
        cases hx.symm.trans hx'
        rw [dIn1]
        refine s_for ?_
        simp only [rd, gx, ri, D.its]
        refine ⟨fun i Γ => ∃ j', Γ = [s, .ow c, b, .im (.str z), .im (.bl (inS Lt x && (z.cps.toList.take i).all (inS Sg))), f, g, i_, j'], ⟨j, by simp [inS]⟩, ?_, ?_⟩
        · rintro n d Γ hd ⟨j', rfl⟩
          obtain ⟨y, hy, rfl⟩ := strDs_get hd
          simp only [gx, ri]
          refine s_if ?_
          simp only [rd, gx]
          rw [dNin1]
          refine ite_b (fun e5 => s_set ?_) fun e5 => s_next ⟨.im (.str ⟨#[y]⟩), ?_⟩
          · simp only [rd, gx]
            refine ⟨.im (.str ⟨#[y]⟩), ?_⟩
            have : inS Sg y = false := by simpa [inS] using e5
            rw [List.take_add_one, hy]
            simp [this]
          · have : inS Sg y = true := by simpa [inS] using e5
            rw [List.take_add_one, hy]
            simp [this]
        · rintro Γ ⟨j', rfl⟩
          rw [strDs_length, show z.cps.size = z.cps.toList.length from rfl, List.take_length]
          have : isW (.str z) = (inS Lt x && z.cps.toList.all (inS Sg)) := by
            show isWL z.cps.toList = _
            rw [hw, l1]
            have a1 : decide (1 ≤ z.length) = true := decide_eq_true (by omega)
            have a2 : decide (z.length ≤ 8) = true := decide_eq_true (by omega)
            rw [a1, a2]
            simp
          rw [← this]
          exact last _ _ _ _
      · have : isW (.str z) = false := by
          have := of_decide_eq_false e2
          simp only [isW, isWL, l1]
          simp
          omega
        rw [e2, ← this]
        exact last _ _ _ _
    · simp only [rd, gx, D.truth]
      have : isW (.str z) = false := by
        have := of_decide_eq_false e1
        simp only [isW, isWL, l1]
        simp
        omega
      refine iteF (s_next ?_)
      rw [← this]
      exact last _ _ _ _

theorem cut_le (z : Str) (lo hi : Option Int) : (L2.cutS z lo hi).length ≤ z.length := by
  unfold L2.cutS
  show (List.toArray _).size ≤ _
  rw [List.size_toArray, List.length_take, List.length_drop]
  have : z.cps.toList.length = z.length := rfl
  omega
theorem law_ok {ms : List Int} {Φ : RD → Option Cl → Prop} {R : Str → Option (List (Str × D)) → Option Cl → Prop} (h : Φ (.im (.bl true)) none) : S_law [.im (.ro (ms.map .int))] Φ R := by
  refine s_body (Γ := [.im _, .un, .un, .un, .un, .un, .un, .un, .un]) rfl rfl rfl rfl (s_seq (s_setO ?_))
  simp only [tCallO, rd, gx]
  refine ⟨rfl, draws_ok fun c hc => ?_⟩
  simp only [gx]
  refine s_seq (s_set ?_)
  simp only [tCallB, tSlB, rd, gx]
  refine ⟨rfl, rfl, take_ok hc (by decide) fun r c hc h0 h1 => ?_⟩
  simp only [gx, RD.d]
  refine s_seq (s_set ?_)
  simp only [rd, gx]
  refine s_seq (s_if ?_)
  simp only [rd, gx, dv]
  have q3 : ∀ (c : Cl) (d : D) (b e f g i j : SD), WV d → (r = 3 → Ns c) → T_law_13 (fun c pl Γ => R c pl (bcOf none Γ)) ⟨fun Γ => Φ (.im .non) (bcOf none Γ), fun r Γ => Φ r (bcOf none Γ), fun _ => False, fun _ => False⟩ [b, .ow c, .im (.int r), .im d, e, f, g, i, j] := by
    intro c d b e f g i j hd hn
    refine s_seq (s_if ?_)
    simp only [rd, gx, dv]
    refine ite_b (fun e3 => s_set ?_) fun e3 => s_next (law_tail hd h)
    simp only [rd, gx, dv, tCallB, tSlB]
    have hr3 : r = 3 := of_decide_eq_true e3
    refine ⟨⟨by decide, by decide, by decide⟩, by decide, by decide, by decide, by decide, by decide, rfl, rfl, take_ok (hn hr3) (by decide) fun r c hc h0 h1 => ?_⟩
    simp only [gx, RD.d, Cl.d, dIx]
    obtain ⟨x, hx, hx2⟩ := atI_int (xs := [D.non, .bl true, .bl false, .int 0, .int 7, .int (-1), .int (10 ^ Int.toNat 30), .tup [.str "a"], .lst [.str "a"], .lst [], .tup [], .dct []]) h0 h1
    refine ⟨x, hx, law_tail (.inl ?_) h⟩
    have hm := List.mem_of_getElem? hx2
    simp only [List.mem_cons, List.not_mem_nil, or_false] at hm
    rcases hm with rfl | rfl | rfl | rfl | rfl | rfl | rfl | rfl | rfl | rfl | rfl | rfl <;> exact ⟨_, rfl, by decide⟩
  have q2 : ∀ (c : Cl) (z : Str) (b e f g i j : SD), Ns c → (r = 2 → 0 < z.length) → z.length ≤ 100 → T_law_10 (fun c pl Γ => R c pl (bcOf none Γ)) ⟨fun Γ => Φ (.im .non) (bcOf none Γ), fun r Γ => Φ r (bcOf none Γ), fun _ => False, fun _ => False⟩ [b, .ow c, .im (.int r), .im (.str z), e, f, g, i, j] := by
    intro c z b e f g i j hc hz hl
    refine s_seq (s_if ?_)
    simp only [rd, gx, dv]
    refine ite_b (fun e2 => s_seq (s_set ?_)) fun e2 => s_next (q3 _ _ _ _ _ _ _ _ (.inr ⟨z, rfl, small (by omega)⟩) fun _ => hc)
    have hp := hz (of_decide_eq_true e2)
    simp only [rd, gx, dv, tCallB, tSlB]
    refine ⟨small (by omega), rfl, rfl, take_ok hc (by omega) fun r c hc h0 h1 => ?_⟩
    simp only [gx, RD.d]
    refine s_set ?_
    simp only [rd, gx, dv, tCallB, tSlB, dSl, D.asInt]
    refine ⟨small (by omega), rfl, rfl, take_ok hc (by decide) fun r2 c hc h0 h1 => ?_⟩
    simp only [gx, RD.d]
    refine str_ix h0 h1 (by decide +kernel) fun x _ => ?_
    have l1 : (⟨#[x]⟩ : Str).length = 1 := rfl
    have l2 := cut_le z none (some r)
    have l3 := cut_le z (some (r + 1)) none
    simp only [rd, gx, dv, dSl, D.asInt]
    refine ⟨small (by omega), small (by omega), small (by rw [slen_app]; omega), q3 _ _ _ _ _ _ _ _ (.inr ⟨_, rfl, small (by rw [slen_app, slen_app]; omega)⟩) fun _ => hc⟩
  have q1 : ∀ (c : Cl) (z : Str) (b e f g i j : SD), Ns c → z.length ≤ 100 → T_law_6 (fun c pl Γ => R c pl (bcOf none Γ)) ⟨fun Γ => Φ (.im .non) (bcOf none Γ), fun r Γ => Φ r (bcOf none Γ), fun _ => False, fun _ => False⟩ [b, .ow c, .im (.int r), .im (.str z), e, f, g, i, j] := by
    intro c z b e f g i j hc hl
    refine s_seq (s_if ?_)
    simp only [rd, gx, dv]
    have go : T_law_7 (fun c pl Γ => R c pl (bcOf none Γ)) ⟨T_law_10 (fun c pl Γ => R c pl (bcOf none Γ)) ⟨fun Γ => Φ (.im .non) (bcOf none Γ), fun r Γ => Φ r (bcOf none Γ), fun _ => False, fun _ => False⟩, fun r Γ => Φ r (bcOf none Γ), fun _ => False, fun _ => False⟩ [b, .ow c, .im (.int r), .im (.str z), e, f, g, i, j] := by
      refine s_seq (s_set ?_)
      simp only [rd, gx, dv, tCallB, tSlB]
      refine ⟨rfl, rfl, take_ok hc (by decide) fun r2 c hc h0 h1 => ?_⟩
      simp only [gx, RD.d]
      refine str_ix h0 h1 (by decide +kernel) fun x _ => ?_
      refine s_for ?_
      simp only [rd, gx, ri, dv, tCallB, tSlB]
      refine ⟨rfl, rfl, take_ok hc (by decide) fun r3 c hc h0 h1 => ?_⟩
      simp only [gx, RD.d, ri]
      refine ⟨by omega, by omega, fun n Γ => ∃ c z g', Ns c ∧ Γ = [b, .ow c, .im (.int r), .im (.str z), e, f, g', i, j] ∧ z.length = 1 + n, ⟨c, _, g, hc, rfl, rfl⟩, ?_, ?_⟩
      · rintro n d Γ hd ⟨c, z, g', hc, rfl, hz⟩
        obtain ⟨hn, rfl⟩ := range_get hd
        simp only [gx, ri]
        refine s_set ?_
        simp only [rd, gx, dv, tCallB, tSlB]
        refine ⟨rfl, rfl, take_ok hc (by decide) fun r4 c hc h0 h1 => ?_⟩
        simp only [gx, RD.d]
        refine str_ix h0 h1 (by decide +kernel) fun y _ => ?_
        have l1 : (⟨#[y]⟩ : Str).length = 1 := rfl
        simp only [gx, dv]
        exact ⟨small (by omega), c, _, _, hc, rfl, by rw [slen_app]; omega⟩
      · rintro Γ ⟨c, z, g', hc, rfl, hz⟩
        rw [rangeDs_length] at hz
        exact q2 _ _ _ _ _ _ _ _ hc (fun _ => by omega) (by omega)
    refine ite_b (fun e1 => iteTT go) fun e1 => ite_b (fun e2 => go) fun e2 => s_next (q2 _ _ _ _ _ _ _ _ hc (fun e => ?_) hl)
    exact absurd e (of_decide_eq_false e2)
  refine ite_b (fun e0 => s_set ?_) fun e0 => s_next (q1 _ _ _ _ _ _ _ _ hc (by decide))
  simp only [rd, gx, dv, tCallB, tSlB]
  refine ⟨rfl, rfl, take_ok hc (by decide) fun r2 c hc h0 h1 => ?_⟩
  simp only [gx, RD.d, rd]
  refine ⟨rfl, rfl, text_ok hc h0 (by omega) fun z c hc hz => ?_⟩
  simp only [gx, RD.d]
  exact q1 _ _ _ _ _ _ _ _ hc (by omega)
end Vl

namespace Vl
open PySem PySem.Spec PyProof.Rows L2

/-! ### the row -/
def top (i : Nat) : Stmt := PySem.Challenge.pw_heldreads_k01_words.main.body.getD i (.Pass ⟨0, 0, 0, 0⟩)
abbrev s_is_word : Stmt := top 4
abbrev s_law_draws : Stmt := top 6
abbrev s_law_take : Stmt := top 7
abbrev s_law_text : Stmt := top 8
abbrev s_law : Stmt := top 9
structure Facts (K : PySem.W.Frag) (mg : Str → Option Value) : Prop where
  z_abs : mg "abs" = none
  z_bool : mg "bool" = none
  z_int : mg "int" = none
  z_isinstance : mg "isinstance" = none
  z_len : mg "len" = none
  z_min : mg "min" = none
  z_range : mg "range" = none
  z_str : mg "str" = none
  c_MOST_SIGNS : ∃ t, mg "MOST_SIGNS" = some (.int 8 t)
  c_LETTERS : ∃ t, mg "LETTERS" = some (.str "abcdefghijklmnopqrstuvwxyz" t)
  c_SIGNS : ∃ t, mg "SIGNS" = some (.str "abcdefghijklmnopqrstuvwxyz0123456789" t)
  g_is_word : mg "is_word" = some (.ref (He.ga K "is_word"))
  f_is_word : DefAt K "is_word" "is_word" s_is_word (He.ga K "is_word")
  g_law_draws : mg "_law_draws" = some (.ref (He.ga K "_law_draws"))
  f_law_draws : DefAt K "_law_draws" "_law_draws" s_law_draws (He.ga K "_law_draws")
  g_law_take : mg "_law_take" = some (.ref (He.ga K "_law_take"))
  f_law_take : DefAt K "_law_take" "_law_take" s_law_take (He.ga K "_law_take")
  g_law_text : mg "_law_text" = some (.ref (He.ga K "_law_text"))
  f_law_text : DefAt K "_law_text" "_law_text" s_law_text (He.ga K "_law_text")
section
variable {P : Program} {w : World} {K : PySem.W.Frag} {mg : Str → Option Value} {base : Heap}
theorem sc_is_word : FnScope ["value", "sign"] ["value"] (defScope s_is_word) := ⟨rfl, rfl, rfl, by decide +kernel, rfl, by decide +kernel, by decide +kernel⟩
theorem ok_is_word (T : Facts K mg) : Callee P w K mg base 1 (He.ga K "is_word") ["value"] S_is_word := by
  have sc := sc_is_word
  refine Callee.of none T.f_is_word sc (by decide) (fun _ _ _ _ _ _ us hl => match us, hl with | [_], _ => rfl) fun _ cdv A outer s H E hr => ?_
  exact (pfss_cons (pfs_if (pft_not (pft_tru (pf_isi (C := "str") T.z_isinstance T.z_str (pf_var 0))))
      (pfss_one (pfs_ret pf_bl))
      pfss_nil)
    (pfss_cons (pfs_if (pft_w (pfw_or (pft_lt (pf_len T.z_len (pfa_cons (pf_var 0) pfa_nil)) pf_int) (pfw_or1 (pft_gt (pf_len T.z_len (pfa_cons (pf_var 0) pfa_nil)) (pf_gint T.c_MOST_SIGNS)))))
      (pfss_one (pfs_ret pf_bl))
      pfss_nil)
    (pfss_cons (pfs_if (pft_notIn hr (pf_ix (pf_var 0) pf_int) (pf_gstr T.c_LETTERS))
      (pfss_one (pfs_ret pf_bl))
      pfss_nil)
    (pfss_cons (pfs_for (passes_of rfl) rfl (pfi_any (pf_var 0)) (pfg_name 1 (nbT (by decide)) sc.nd)
      (pfss_one (pfs_if (pft_notIn hr (pf_var 1) (pf_gstr T.c_SIGNS))
      (pfss_one (pfs_ret pf_bl))
      pfss_nil)))
    (pfss_one (pfs_ret pf_bl))))))
theorem sc_law_draws : FnScope ["_law_script", "_law_draws_here", "_law_place", "_law_cell", "_law_turn"] ["_law_script"] (defScope s_law_draws) := ⟨rfl, rfl, rfl, by decide +kernel, rfl, by decide +kernel, by decide +kernel⟩
theorem ok_law_draws (T : Facts K mg) : Callee P w K mg base 1 (He.ga K "_law_draws") ["_law_script"] S_law_draws := by
  have sc := sc_law_draws
  refine Callee.of none T.f_law_draws sc (by decide) (fun _ _ _ _ _ _ us hl => match us, hl with | [_], _ => rfl) fun _ cdv A outer s H E hr => ?_
  exact (pfss_cons (pfs_setO 1 (nbT (by decide)) sc.nd (po_lst pfa_nil))
    (pfss_cons (pfs_for (passes_of rfl) rfl (pfi_range1 T.z_range (pf_min2 rfl T.z_min (pfa_cons (pf_len T.z_len (pfa_cons (pf_var 0) pfa_nil)) (pfa_cons pf_int pfa_nil)))) (pfg_name 2 (nbT (by decide)) sc.nd)
      (pfss_cons (pfs_set 3 (nbT (by decide)) sc.nd (pf_abs T.z_abs (pfa_cons (pf_callInt T.z_int (pfa_cons (pf_ix (pf_var 0) (pf_var 2)) pfa_nil)) pfa_nil)))
    (pfss_cons (pfs_if (pft_lt (pf_var 3) (pf_pow pf_int pf_int))
      (pfss_cons (pfs_set 3 (nbT (by decide)) sc.nd (pf_mod (pf_callInt T.z_int (pfa_cons (pf_mul (pf_add (pf_mul pf_int (pf_var 3)) (pf_callInt T.z_int (pfa_cons (pf_lt (pf_ix (pf_var 0) (pf_var 2)) pf_int) pfa_nil))) (pf_add pf_int (pf_mul pf_int (pf_var 2)))) pfa_nil)) pf_int))
    (pfss_one (pfs_set 3 (nbT (by decide)) sc.nd (pf_mod (pf_callInt T.z_int (pfa_cons (pf_mul (pf_var 3) (pf_add (pf_var 3) pf_int)) pfa_nil)) pf_int))))
      pfss_nil)
    (pfss_one (pfs_for (passes_of rfl) rfl (pfi_range1 T.z_range pf_int) (pfg_name 4 (nbT (by decide)) sc.nd)
      (pfss_one (pfs_if (pft_w (pfw_or (pft_gt (pf_var 3) pf_int) (pfw_or1 (pft_eq hr (pf_var 4) pf_int))))
      (pfss_cons (pfs_expr (pf_append 1 (pf_mod (pf_callInt T.z_int (pfa_cons (pf_var 3) pfa_nil)) pf_int)))
    (pfss_one (pfs_set 3 (nbT (by decide)) sc.nd (pf_fdiv (pf_var 3) pf_int))))
      pfss_nil)))))))
    (pfss_one (pfs_retV 1 (nbT (by decide))))))
theorem sc_law_take : FnScope ["_law_draws_here", "_law_many"] ["_law_draws_here", "_law_many"] (defScope s_law_take) := ⟨rfl, rfl, rfl, by decide +kernel, rfl, by decide +kernel, by decide +kernel⟩
theorem ok_law_take (T : Facts K mg) : Callee P w K mg base 1 (He.ga K "_law_take") ["_law_draws_here", "_law_many"] S_law_take := by
  have sc := sc_law_take
  refine Callee.of (some 0) T.f_law_take sc (by decide) (fun _ _ _ _ _ _ us hl => match us, hl with | [_, _], _ => rfl) fun _ cdv A outer s H E hr => ?_
  exact (pfss_cons (pfs_if (pft_eq hr (pf_lenO 0 T.z_len) pf_int)
      (pfss_one (pfs_ret pf_int))
      pfss_nil)
    (pfss_one (pfs_ret (pf_mod (pf_callInt T.z_int (pfa_cons (pf_popAt 0 pf_int) pfa_nil)) (pf_var 1)))))
theorem sc_law_text : FnScope ["_law_draws_here", "_law_size", "_law_text_here", "_law_k", "_law_draw"] ["_law_draws_here", "_law_size"] (defScope s_law_text) := ⟨rfl, rfl, rfl, by decide +kernel, rfl, by decide +kernel, by decide +kernel⟩
theorem ok_law_text (T : Facts K mg) : Callee P w K mg base 2 (He.ga K "_law_text") ["_law_draws_here", "_law_size"] S_law_text := by
  have sc := sc_law_text
  have C_law_take := ok_law_take (P := P) (w := w) (base := base) T
  refine Callee.of (some 0) T.f_law_text sc (by decide) (fun _ _ _ _ _ _ us hl => match us, hl with | [_, _], _ => rfl) fun _ cdv A outer s H E hr => ?_
  exact (pfss_cons (pfs_set 2 (nbT (by decide)) sc.nd pf_str)
    (pfss_cons (pfs_for (passes_of rfl) rfl (pfi_range1 T.z_range (pf_var 1)) (pfg_name 3 (nbT (by decide)) sc.nd)
      (pfss_cons (pfs_set 4 (nbT (by decide)) sc.nd (pf_callBC 0 C_law_take tkS_ok hr (by decide) T.g_law_take (pfb_sl 0 (pfb_im pf_int pfb_nil))))
    (pfss_one (pfs_if (pft_lt (pf_var 4) pf_int)
      (pfss_one (pfs_set 2 (nbT (by decide)) sc.nd (pf_add (pf_var 2) (pf_ix pf_str (pf_mod (pf_callInt T.z_int (pfa_cons (pf_var 4) pfa_nil)) pf_int)))))
      (pfss_one (pfs_set 2 (nbT (by decide)) sc.nd (pf_add (pf_var 2) (pf_ix pf_str (pf_mod (pf_callInt T.z_int (pfa_cons (pf_var 4) pfa_nil)) pf_int)))))))))
    (pfss_one (pfs_ret (pf_var 2)))))
theorem sc_law : FnScope ["_law_script", "_law_draws_here", "_law_choice", "_law_value", "_law_right", "_law_actual", "_law_k", "_law_place", "_law_sign"] ["_law_script"] (defScope s_law) := ⟨rfl, rfl, rfl, by decide +kernel, rfl, by decide +kernel, by decide +kernel⟩
theorem ok_law (T : Facts K mg) {fd : FuncData} (F : FunD K "law" "law" (defArgs s_law) (defBody s_law) (defScope s_law) [] [] (He.ga K "law") fd) : FnV P w K mg base 3 (He.ga K "law") fd ["_law_script"] S_law := by
  have sc := sc_law
  have C_law_draws := ok_law_draws (P := P) (w := w) (base := base) T
  have C_law_take := ok_law_take (P := P) (w := w) (base := base) T
  have C_law_text := ok_law_text (P := P) (w := w) (base := base) T
  have C_is_word := ok_is_word (P := P) (w := w) (base := base) T
  refine FnV.of none F sc (by decide) fun _ cdv A outer s H E hr => ?_
  exact (pfss_cons (pfs_setO 1 (nbT (by decide)) sc.nd (po_callC C_law_draws tkS_ok hr (by decide) T.g_law_draws (pfa_cons (pf_var 0) pfa_nil)))
    (pfss_cons (pfs_set 2 (nbT (by decide)) sc.nd (pf_callBC 1 C_law_take tkS_ok hr (by decide) T.g_law_take (pfb_sl 1 (pfb_im pf_int pfb_nil))))
    (pfss_cons (pfs_set 3 (nbT (by decide)) sc.nd pf_str)
    (pfss_cons (pfs_if (pft_eq hr (pf_var 2) pf_int)
      (pfss_one (pfs_set 3 (nbT (by decide)) sc.nd (pf_callBC 1 C_law_text tkS_ok hr (by decide) T.g_law_text (pfb_sl 1 (pfb_im (pf_callBC 1 C_law_take tkS_ok hr (by decide) T.g_law_take (pfb_sl 1 (pfb_im pf_int pfb_nil))) pfb_nil)))))
      pfss_nil)
    (pfss_cons (pfs_if (pft_w (pfw_or (pft_eq hr (pf_var 2) pf_int) (pfw_or1 (pft_eq hr (pf_var 2) pf_int))))
      (pfss_cons (pfs_set 3 (nbT (by decide)) sc.nd (pf_ix pf_str (pf_callBC 1 C_law_take tkS_ok hr (by decide) T.g_law_take (pfb_sl 1 (pfb_im pf_int pfb_nil)))))
    (pfss_one (pfs_for (passes_of rfl) rfl (pfi_range1 T.z_range (pf_callBC 1 C_law_take tkS_ok hr (by decide) T.g_law_take (pfb_sl 1 (pfb_im pf_int pfb_nil)))) (pfg_name 6 (nbT (by decide)) sc.nd)
      (pfss_one (pfs_set 3 (nbT (by decide)) sc.nd (pf_add (pf_var 3) (pf_ix pf_str (pf_callBC 1 C_law_take tkS_ok hr (by decide) T.g_law_take (pfb_sl 1 (pfb_im pf_int pfb_nil))))))))))
      pfss_nil)
    (pfss_cons (pfs_if (pft_eq hr (pf_var 2) pf_int)
      (pfss_cons (pfs_set 7 (nbT (by decide)) sc.nd (pf_callBC 1 C_law_take tkS_ok hr (by decide) T.g_law_take (pfb_sl 1 (pfb_im (pf_len T.z_len (pfa_cons (pf_var 3) pfa_nil)) pfb_nil))))
    (pfss_one (pfs_set 3 (nbT (by decide)) sc.nd (pf_add (pf_add (pf_slice (pf_var 3) pfp_none (pfp_some (pf_var 7))) (pf_ix pf_str (pf_callBC 1 C_law_take tkS_ok hr (by decide) T.g_law_take (pfb_sl 1 (pfb_im pf_int pfb_nil))))) (pf_slice (pf_var 3) (pfp_some (pf_add (pf_var 7) pf_int)) pfp_none)))))
      pfss_nil)
    (pfss_cons (pfs_if (pft_eq hr (pf_var 2) pf_int)
      (pfss_one (pfs_set 3 (nbT (by decide)) sc.nd (pf_ix (pf_fz (po_lst (pfa_cons pf_non (pfa_cons pf_bl (pfa_cons pf_bl (pfa_cons pf_int (pfa_cons pf_int (pfa_cons (pf_neg pf_int) (pfa_cons (pf_pow pf_int pf_int) (pfa_cons (pf_tup (pfa_cons pf_str pfa_nil)) (pfa_cons (pf_fz (po_lst (pfa_cons pf_str pfa_nil))) (pfa_cons (pf_fz (po_lst pfa_nil)) (pfa_cons (pf_tup pfa_nil) (pfa_cons (pf_fz po_dict0) pfa_nil)))))))))))))) (pf_callBC 1 C_law_take tkS_ok hr (by decide) T.g_law_take (pfb_sl 1 (pfb_im pf_int pfb_nil))))))
      pfss_nil)
    (pfss_cons (pfs_set 4 (nbT (by decide)) sc.nd (pf_and (pf_isi (C := "str") T.z_isinstance T.z_str (pf_var 3)) (pf_one (pf_leLe pf_int (pf_len T.z_len (pfa_cons (pf_var 3) pfa_nil)) pf_int))))
    (pfss_cons (pfs_if (pft_tru (pf_var 4))
      (pfss_cons (pfs_set 4 (nbT (by decide)) sc.nd (pf_in hr (pf_ix (pf_var 3) pf_int) pf_str))
    (pfss_one (pfs_for (passes_of rfl) rfl (pfi_any (pf_var 3)) (pfg_name 8 (nbT (by decide)) sc.nd)
      (pfss_one (pfs_if (pft_notIn hr (pf_var 8) pf_str)
      (pfss_one (pfs_set 4 (nbT (by decide)) sc.nd pf_bl))
      pfss_nil)))))
      pfss_nil)
    (pfss_cons (pfs_set 5 (nbT (by decide)) sc.nd (pf_callC C_is_word tkS_ok hr (by decide) T.g_is_word (pfa_cons (pf_var 3) pfa_nil)))
    (pfss_one (pfs_ret (pf_and (pf_isi (C := "bool") T.z_isinstance T.z_bool (pf_var 5)) (pf_one (pf_eq hr (pf_var 5) (pf_var 4))))))))))))))))
end
/-! ### the head -/
def names0 : List PySem.Str := ["LETTERS", "SIGNS", "MOST_SIGNS", "is_word", "_law_draws", "_law_take", "_law_text"]
def names : List PySem.Str := names0
def d_is_word : He.DefD := ⟨("is_word", none), "is_word", "is_word", defArgs s_is_word, defBody s_is_word, defScope s_is_word, [], []⟩
def d_law_draws : He.DefD := ⟨("_law_draws", none), "_law_draws", "_law_draws", defArgs s_law_draws, defBody s_law_draws, defScope s_law_draws, [], []⟩
def d_law_take : He.DefD := ⟨("_law_take", none), "_law_take", "_law_take", defArgs s_law_take, defBody s_law_take, defScope s_law_take, [], []⟩
def d_law_text : He.DefD := ⟨("_law_text", none), "_law_text", "_law_text", defArgs s_law_text, defBody s_law_text, defScope s_law_text, [], []⟩
def d_law : He.DefD := ⟨("law", none), "law", "law", defArgs s_law, defBody s_law, defScope s_law, [], []⟩
def fn : List He.DefD := [d_is_word, d_law_draws, d_law_take, d_law_text, d_law]
def fa : List He.Fa := [.free "abs", .free "bool", .free "int", .free "isinstance", .free "len", .free "min", .free "range", .free "str", .int "MOST_SIGNS" (8), .str "LETTERS" "abcdefghijklmnopqrstuvwxyz", .str "SIGNS" "abcdefghijklmnopqrstuvwxyz0123456789", .glo "is_word", .glo "_law_draws", .glo "_law_take", .glo "_law_text", .glo "law"]
abbrev R0 : PySem.W.OpenRow := PySem.W.OpenLaw.row PySem.Challenge.rw_heldreads_k01_words
abbrev hk : PySem.W.Hook := He.hookD 4 fa fn
def ob (s : PySem.W.SharedT) : He.AlD := He.obsDG 4 fa fn (HandSHeadRun.getT s)
theorem ob_eq (s : PySem.W.SharedT) : ob s = hk.obs s.abs := He.obsDG_eq (HandSHeadRun.getT_eq s)
theorem run (w : World) : HandSHeadRun.RunEq R0 (PySem.W.view R0.prog [9]) hk ob 4000 names w := by
  intro os
  kernel_rfl
theorem mkF {K : PySem.W.Frag} {h : Heap} {mg : Str → Option Value} (X : K.In h) (G : h.Ns mainGlobals mg) (c : He.SaysD fa fn K) : Facts K mg := by
  constructor
  · exact He.free_ok X G (c.fact 0 (f := .free "abs") rfl)
  · exact He.free_ok X G (c.fact 1 (f := .free "bool") rfl)
  · exact He.free_ok X G (c.fact 2 (f := .free "int") rfl)
  · exact He.free_ok X G (c.fact 3 (f := .free "isinstance") rfl)
  · exact He.free_ok X G (c.fact 4 (f := .free "len") rfl)
  · exact He.free_ok X G (c.fact 5 (f := .free "min") rfl)
  · exact He.free_ok X G (c.fact 6 (f := .free "range") rfl)
  · exact He.free_ok X G (c.fact 7 (f := .free "str") rfl)
  · exact He.int_ok X G (c.fact 8 (f := .int "MOST_SIGNS" (8)) rfl)
  · exact He.str_ok X G (c.fact 9 (f := .str "LETTERS" "abcdefghijklmnopqrstuvwxyz") rfl)
  · exact He.str_ok X G (c.fact 10 (f := .str "SIGNS" "abcdefghijklmnopqrstuvwxyz0123456789") rfl)
  · exact He.glo_ok X G (c.fact 11 (f := .glo "is_word") rfl)
  · exact c.def_ 0 (d := d_is_word) rfl
  · exact He.glo_ok X G (c.fact 12 (f := .glo "_law_draws") rfl)
  · exact c.def_ 1 (d := d_law_draws) rfl
  · exact He.glo_ok X G (c.fact 13 (f := .glo "_law_take") rfl)
  · exact c.def_ 2 (d := d_law_take) rfl
  · exact He.glo_ok X G (c.fact 14 (f := .glo "_law_text") rfl)
  · exact c.def_ 3 (d := d_law_text) rfl
theorem facts {P : Program} {w : World} {K : PySem.W.Frag} {h : Heap} {mg : Str → Option Value} {f : Addr} (X : K.In h) (G : h.Ns mainGlobals mg) (hfa : mg ("law" : Str) = some (.ref f)) (c : He.SaysD fa fn K) :
    ∃ fd : FuncData, (∀ (s : Shared) (v : Value), BindsTo s fd ⟨[v], []⟩ [("_law_script", v)]) ∧ ∀ base : Heap, K.In base → base.Ns mainGlobals mg → FnOk P w K mg base (L2.CX P w) 3 f fd ["_law_script"] (liftSp K 1 S_law) := by
  obtain ⟨fd, F⟩ := c.def_ 4 (d := d_law) rfl
  have e := hfa.symm.trans (He.glo_ok X G (c.fact 15 (f := .glo "law") rfl))
  cases e
  have b := FunD.bindsA (ps := ["_law_script"]) F fun _ _ _ _ _ _ us hl => match us, hl with | [_], _ => rfl
  exact ⟨fd, fun s v => b s [v] rfl, fun base _ _ => ok_law (mkF X G c) F⟩
end Vl
open PySem PySem.W PySem.Calls PyProof.Rows
theorem PySem.Challenge.cw_heldreads_k01_words_holds : PySem.Challenge.rw_heldreads_k01_words.Holds := by
  w_on; o_law
  refine HandSHeadRun.head_any (r := OpenLaw.row PySem.Challenge.rw_heldreads_k01_words) (q := view (OpenLaw.row PySem.Challenge.rw_heldreads_k01_words).prog [9]) (H := Vl.hk) (ob := Vl.ob) (M := 4000) (loose := Vl.names) (d := HandSHeadRun.topDef (OpenLaw.row PySem.Challenge.rw_heldreads_k01_words).prog 9) (kwd := []) Vl.ob_eq
    (by kernel_rfl) (fun s => by kernel_rfl) Vl.run (by kernel_rfl) (by kernel_rfl) (by kernel_rfl) (by rfl) (by first | assumption | decide +kernel) (by decide +kernel) ⟨rfl, rfl, rfl, rfl, rfl, by decide +kernel⟩ ?hw ?hc
  case hw => w_witness2
  case hc =>
    refine L2.walk_ofE (l := PySem.Challenge.rw_heldreads_k01_words) (n := 63) (k := 3) (x := "_law_script") (CX := Vl.CXw (PySem.Challenge.rw_heldreads_k01_words).prog) rfl (by decide) (by kernel_rfl) ⟨rfl, by decide, by decide⟩ ?F Vl.cxw_no
    intro w mg fa h Y G hmg0
    obtain ⟨K, KX, c⟩ := Y
    have hmg : mg ("law" : PySem.Str) = some (.ref fa) := by
      have e : (HandSHeadRun.topDef (OpenLaw.row PySem.Challenge.rw_heldreads_k01_words).prog 9).name = ("law" : PySem.Str) := by kernel_rfl
      rw [← e]
      exact hmg0
    obtain ⟨fd, hb, hF⟩ := Vl.facts (P := (PySem.Challenge.rw_heldreads_k01_words).prog) (w := w) KX G hmg c
    exact ⟨K, fd, Vl.liftSp K 1 Vl.S_law, KX, hb, Vl.top_sp (fun ms Φ R hl h => Vl.law_ok h), fun base h1 h2 => Vl.FnOk.w (hF base h1 h2)⟩
