import PyProof.Rows.All
import Wide.All
import OpenK.AllK
import Wide.FinOn
import HandS.ForMost
import HandS.ForExc
import HandS.Wide
import HandS.IsInst
import HandS.TupAny
import HandS.HeadHook2
import HandS.EndBits
import HandS.HeadEnd
import HandS.Head2
import HandS.WordsDict
import PySem.Challenge.RW_clockyard_k10_bounds_told
set_option Elab.async false
set_option linter.all false
set_option maxRecDepth 100000
set_option maxHeartbeats 4000000
/-! PURE LAYER. Data, what stands for it, what an expression hands back. -/
namespace PL
open PySem PySem.Spec PyProof.Rows L2
inductive D where
  | non | bl (b : Bool) | int (i : Int) | str (s : Str)
  | lst (xs : List D) | tup (xs : List D) | dic (kvs : List (Key × D)) | obj (c : Str) (fs : List (Str × D))
abbrev MG := Str → Option Value
mutual
inductive Rep (K : PySem.W.Frag) (mg : MG) (G : Hp) : V → D → Prop
  | non : Rep K mg G .non .non
  | bl (b : Bool) : Rep K mg G (.bl b) (.bl b)
  | int (i : Int) : Rep K mg G (.int i) (.int i)
  | str (s : Str) : Rep K mg G (.str s) (.str s)
  | lst {a : Addr} {vs : List V} {ds : List D} : SqL K G a vs → RepA K mg G vs ds → Rep K mg G (.ref a) (.lst ds)
  | tup {a : Addr} {vs : List V} {ds : List D} : SqT K G a vs → RepA K mg G vs ds → Rep K mg G (.ref a) (.tup ds)
  | dic {a : Addr} {kvs : List (Key × V)} {ds : List (Key × D)} : G a = some (.dK kvs) → RepD K mg G kvs ds → Rep K mg G (.ref a) (.dic ds)
  | obj {a C dx : Addr} {c : Str} {fs : List (Str × V)} {ds : List (Str × D)} : G a = some (.ins C dx fs) → mg c = some (.ref C) → RepF K mg G fs ds → Rep K mg G (.ref a) (.obj c ds)
inductive RepA (K : PySem.W.Frag) (mg : MG) (G : Hp) : List V → List D → Prop
  | nil : RepA K mg G [] []
  | cons {v : V} {vs : List V} {d : D} {ds : List D} : Rep K mg G v d → RepA K mg G vs ds → RepA K mg G (v :: vs) (d :: ds)
inductive RepD (K : PySem.W.Frag) (mg : MG) (G : Hp) : List (Key × V) → List (Key × D) → Prop
  | nil : RepD K mg G [] []
  | cons {k : Key} {v : V} {vs : List (Key × V)} {d : D} {ds : List (Key × D)} : Rep K mg G v d → RepD K mg G vs ds → RepD K mg G ((k, v) :: vs) ((k, d) :: ds)
inductive RepF (K : PySem.W.Frag) (mg : MG) (G : Hp) : List (Str × V) → List (Str × D) → Prop
  | nil : RepF K mg G [] []
  | cons {k : Str} {v : V} {vs : List (Str × V)} {d : D} {ds : List (Str × D)} : Rep K mg G v d → RepF K mg G vs ds → RepF K mg G ((k, v) :: vs) ((k, d) :: ds)
end
theorem Same.tup {K : PySem.W.Frag} {H H' : Hp} {a : Addr} {xs : List V} (e : Same H H') (h : SqT K H a xs) : SqT K H' a xs := by
  rcases h with (h | ⟨o, h⟩) | h
  · exact .inl (.inl (e _ _ h))
  · exact .inl (.inr ⟨o, e _ _ h⟩)
  · exact .inr h
section
variable {K : PySem.W.Frag} {mg : MG} {G G' : Hp}
mutual
theorem Rep.mono (s : Same G G') : ∀ {v : V} {d : D}, Rep K mg G v d → Rep K mg G' v d
  | _, _, .non => .non
  | _, _, .bl b => .bl b
  | _, _, .int i => .int i
  | _, _, .str x => .str x
  | _, _, .lst h r => .lst (s.seq h) (RepA.mono s r)
  | _, _, .tup h r => .tup (Same.tup s h) (RepA.mono s r)
  | _, _, .dic h r => .dic (s _ _ h) (RepD.mono s r)
  | _, _, .obj h m r => .obj (s _ _ h) m (RepF.mono s r)
theorem RepA.mono (s : Same G G') : ∀ {v : List V} {d : List D}, RepA K mg G v d → RepA K mg G' v d
  | _, _, .nil => .nil
  | _, _, .cons h r => .cons (Rep.mono s h) (RepA.mono s r)
theorem RepD.mono (s : Same G G') : ∀ {v : List (Key × V)} {d : List (Key × D)}, RepD K mg G v d → RepD K mg G' v d
  | _, _, .nil => .nil
  | _, _, .cons h r => .cons (Rep.mono s h) (RepD.mono s r)
theorem RepF.mono (s : Same G G') : ∀ {v : List (Str × V)} {d : List (Str × D)}, RepF K mg G v d → RepF K mg G' v d
  | _, _, .nil => .nil
  | _, _, .cons h r => .cons (Rep.mono s h) (RepF.mono s r)
end
end
/-! what is known: G (nobody changes it) within H (all that is tracked) -/
structure Ext (G H G' H' : Hp) : Prop where
  gg : Same G G'
  hh : Same H H'
  sub : Same G' H'
  old : ∀ a, H a ≠ none → G' a = G a
theorem Ext.refl {G H : Hp} (s : Same G H) : Ext G H G H := ⟨fun _ _ h => h, fun _ _ h => h, s, fun _ _ => rfl⟩
theorem Ext.trans {G H G1 H1 G2 H2 : Hp} (a : Ext G H G1 H1) (b : Ext G1 H1 G2 H2) : Ext G H G2 H2 :=
  ⟨fun c o h => b.gg c o (a.gg c o h), fun c o h => b.hh c o (a.hh c o h), b.sub, fun c h => by
    have h1 : H1 c ≠ none := by
      cases e : H c with
      | none => exact absurd e h
      | some o => rw [a.hh c o e]; exact fun z => nomatch z
    rw [b.old c h1, a.old c h]⟩
/-- a new object that nobody changes -/
theorem Ext.new {G H : Hp} {p : Addr} {o : HO} (s : Same G H) (h : H p = none) : Ext G H (upd G p o) (upd H p o) :=
  ⟨fun b u e => by rw [upd_ne (ne_of_none e (s.free h))]; exact e, fun b u e => by rw [upd_ne (ne_of_none e h)]; exact e,
    fun b u e => by
      by_cases hb : b = p
      · subst hb; rw [upd_same] at e; rw [upd_same]; exact e
      · rw [upd_ne hb] at e; rw [upd_ne hb]; exact s b u e,
    fun a ha => upd_ne fun z => ha (z ▸ h)⟩
/-- a new object that is one's own -/
theorem Ext.own {G H : Hp} {p : Addr} {o : HO} (s : Same G H) (h : H p = none) : Ext G H G (upd H p o) :=
  ⟨fun _ _ e => e, fun b u e => by rw [upd_ne (ne_of_none e h)]; exact e, fun b u e => by rw [upd_ne (ne_of_none (s b u e) h)]; exact s b u e, fun _ _ => rfl⟩
/-- an own object is given up -/
theorem Ext.give {G H : Hp} {p : Addr} {o : HO} {H0 : Hp} {G0 : Hp} (x : Ext G0 H0 G H) (h : H p = some o) (g : G p = none) (n : H0 p = none) : Ext G0 H0 (upd G p o) H :=
  ⟨fun b u e => by
      have e1 := x.gg b u e
      rw [upd_ne fun z => by rw [z, g] at e1; cases e1]; exact e1, x.hh,
    fun b u e => by
      by_cases hb : b = p
      · subst hb; rw [upd_same] at e; cases e; exact h
      · rw [upd_ne hb] at e; exact x.sub b u e,
    fun a ha => by rw [upd_ne fun z => ha (by rw [z]; exact n)]; exact x.old a ha⟩

/-! slots and results -/
inductive Sl where
  | no | fz (d : D) | ow (d : D)
inductive Rs where
  | fz (d : D) | ow (d : D) | al (d : D)
abbrev Ev := List Sl
structure Ex where
  cls : Str
  fs : Option (List (Str × D)) := none
inductive R (α : Type) where
  | ok (a : α) | ex (x : Ex) | stuck
def R.bind {α β : Type} (x : R α) (f : α → R β) : R β := match x with
  | .ok a => f a
  | .ex x => .ex x
  | .stuck => .stuck
instance : Monad R where
  pure := R.ok
  bind := R.bind
/-! a limit of the model: nothing is reckoned of its truth -/
open Classical in
noncomputable def need {α : Type} (c : Prop) (r : R α) : R α := if c then r else .stuck
theorem need_pos {α : Type} {c : Prop} {r : R α} (h : c) : need c r = r := if_pos h
theorem need_cs {α : Type} (c : Prop) (r : R α) : (c ∧ need c r = r) ∨ need c r = .stuck := by
  by_cases h : c
  · exact .inl ⟨h, if_pos h⟩
  · exact .inr (if_neg h)
def OwnAt (K : PySem.W.Frag) (mg : MG) (G H : Hp) (a : Addr) : D → Prop
  | .lst ds => ∃ vs, H a = some (.lst vs) ∧ RepA K mg G vs ds
  | .dic ds => ∃ vs, H a = some (.dK vs) ∧ RepD K mg G vs ds
  | _ => False
def ResR (K : PySem.W.Frag) (mg : MG) (H0 G H : Hp) (v : V) : Rs → Prop
  | .fz d => Rep K mg G v d
  | .ow d => ∃ a, v = .ref a ∧ H0 a = none ∧ G a = none ∧ OwnAt K mg G H a d
  | .al d => ∃ a, v = .ref a ∧ G a = none ∧ OwnAt K mg G H a d
def Rs.d : Rs → D
  | .fz d => d
  | .ow d => d
  | .al d => d
/-- to be read -/
def Rd1 (K : PySem.W.Frag) (mg : MG) (G H : Hp) (v : V) (d : D) : Prop := Rep K mg G v d ∨ ∃ a, v = .ref a ∧ G a = none ∧ OwnAt K mg G H a d
theorem ResR.rd {K : PySem.W.Frag} {mg : MG} {H0 G H : Hp} {v : V} : ∀ {r : Rs}, ResR K mg H0 G H v r → Rd1 K mg G H v r.d
  | .fz _, h => .inl h
  | .ow _, ⟨a, e, _, g, o⟩ => .inr ⟨a, e, g, o⟩
  | .al _, h => .inr h
theorem OwnAt.mono {K : PySem.W.Frag} {mg : MG} {G H G' H' : Hp} {a : Addr} (g : Same G G') (h : Same H H') : ∀ {d : D}, OwnAt K mg G H a d → OwnAt K mg G' H' a d
  | .lst _, ⟨vs, e, r⟩ => ⟨vs, h _ _ e, RepA.mono g r⟩
  | .dic _, ⟨vs, e, r⟩ => ⟨vs, h _ _ e, RepD.mono g r⟩
theorem OwnAt.here {K : PySem.W.Frag} {mg : MG} {G H : Hp} {a : Addr} : ∀ {d : D}, OwnAt K mg G H a d → H a ≠ none
  | .lst _, ⟨vs, e, r⟩ => fun z => by rw [e] at z; cases z
  | .dic _, ⟨vs, e, r⟩ => fun z => by rw [e] at z; cases z
/-- an own thing as a thing that nobody changes -/
theorem OwnAt.give {K : PySem.W.Frag} {mg : MG} {G H : Hp} {a : Addr} (g : G a = none) : ∀ {d : D}, OwnAt K mg G H a d → ∃ o, H a = some o ∧ Rep K mg (upd G a o) (.ref a) d := fun {d} h => by
  have mo : ∀ o, Same G (upd G a o) := fun o b u e => by rw [upd_ne (ne_of_none e g)]; exact e
  cases d with
  | lst ds => obtain ⟨vs, e, r⟩ := h; exact ⟨_, e, .lst (SqL.of upd_same) (RepA.mono (mo _) r)⟩
  | dic ds => obtain ⟨vs, e, r⟩ := h; exact ⟨_, e, .dic upd_same (RepD.mono (mo _) r)⟩
  | _ => exact h.elim
theorem Rd1.ext {K : PySem.W.Frag} {mg : MG} {G H G' H' : Hp} {v : V} {d : D} (x : Ext G H G' H') : Rd1 K mg G H v d → Rd1 K mg G' H' v d
  | .inl h => .inl (Rep.mono x.gg h)
  | .inr ⟨a, e, g, o⟩ => .inr ⟨a, e, by rw [x.old a o.here]; exact g, o.mono x.gg x.hh⟩
theorem ResR.ext {K : PySem.W.Frag} {mg : MG} {H0 G H G' H' : Hp} {v : V} (x : Ext G H G' H') : ∀ {r : Rs}, ResR K mg H0 G H v r → ResR K mg H0 G' H' v r
  | .fz _, h => Rep.mono x.gg h
  | .ow _, ⟨a, e, n, g, o⟩ => ⟨a, e, n, by rw [x.old a o.here]; exact g, o.mono x.gg x.hh⟩
  | .al _, ⟨a, e, g, o⟩ => ⟨a, e, by rw [x.old a o.here]; exact g, o.mono x.gg x.hh⟩
/-- all slots but nothing of who owns what: what an expression asks -/
def SlR (K : PySem.W.Frag) (mg : MG) (G H : Hp) (o : Option (Option V)) : Sl → Prop
  | .no => True
  | .fz d => ∃ v, o = some (some v) ∧ Rep K mg G v d
  | .ow d => ∃ a, o = some (some (.ref a)) ∧ G a = none ∧ OwnAt K mg G H a d
def CorE (K : PySem.W.Frag) (mg : MG) (G H : Hp) (env : Ev) (σ : L2.St) : Prop := ∀ (i : Nat) (s : Sl), env[i]? = some s → SlR K mg G H σ[i]? s
theorem SlR.ext {K : PySem.W.Frag} {mg : MG} {G H G' H' : Hp} {o : Option (Option V)} (x : Ext G H G' H') : ∀ {s : Sl}, SlR K mg G H o s → SlR K mg G' H' o s
  | .no, h => trivial
  | .fz _, ⟨v, e, h⟩ => ⟨v, e, Rep.mono x.gg h⟩
  | .ow _, ⟨a, e, g, o⟩ => ⟨a, e, by rw [x.old a o.here]; exact g, o.mono x.gg x.hh⟩
theorem CorE.ext {K : PySem.W.Frag} {mg : MG} {G H G' H' : Hp} {env : Ev} {σ : L2.St} (x : Ext G H G' H') (c : CorE K mg G H env σ) : CorE K mg G' H' env σ := fun i s e => (c i s e).ext x
/-! what an expression is worth -/
def ExP (mg : MG) (E : XK) (x : Ex) (H' : Hp) : Prop := x.fs = none ∧ ∀ u, mg x.cls = some u → E u none H'
def Post (K : PySem.W.Frag) (mg : MG) (E : XK) (G H : Hp) (Q : VK) : R Rs → Prop
  | .ok r => ∀ G' H' v, Ext G H G' H' → ResR K mg H G' H' v r → Q v H'
  | .ex x => x.fs = none ∧ ∀ u G' H', mg x.cls = some u → Ext G H G' H' → E u none H'
  | .stuck => False
theorem post_need {K : PySem.W.Frag} {mg : MG} {E : XK} {G H : Hp} {Q : VK} {c : Prop} {r : R Rs} (p : Post K mg E G H Q (need c r)) : c ∧ Post K mg E G H Q r := by
  rcases need_cs c r with ⟨h, e⟩ | e
  · rw [e] at p; exact ⟨h, p⟩
  · rw [e] at p; exact p.elim
def Pu (K : PySem.W.Frag) (mg : MG) (E : XK) (t : TE) (f : Ev → R Rs) : Prop := ∀ (G H : Hp) (env : Ev) (σ : L2.St) (Q : VK), Same G H → CorE K mg G H env σ → Post K mg E G H Q (f env) → t σ H Q
theorem Post.mono {K : PySem.W.Frag} {mg : MG} {E : XK} {G H G' H' : Hp} {Q : VK} (x : Ext G H G' H') : ∀ {r : R Rs}, (∀ r0, r = .ok r0 → ∀ G2 H2 v, Ext G' H' G2 H2 → ResR K mg H' G2 H2 v r0 → ResR K mg H G2 H2 v r0) → Post K mg E G H Q r → Post K mg E G' H' Q r
  | .ok r, k, h => fun G2 H2 v x2 rr => h G2 H2 v (x.trans x2) (k r rfl G2 H2 v x2 rr)
  | .ex _, k, h => ⟨h.1, fun u G2 H2 m x2 => h.2 u G2 H2 m (x.trans x2)⟩
theorem ResR.old {K : PySem.W.Frag} {mg : MG} {H H' G2 H2 : Hp} {v : V} (s : Same H H') : ∀ {r : Rs}, ResR K mg H' G2 H2 v r → ResR K mg H G2 H2 v r
  | .fz _, h => h
  | .ow _, ⟨a, e, n, g, o⟩ => ⟨a, e, s.free n, g, o⟩
  | .al _, h => h
theorem Post.fwd {K : PySem.W.Frag} {mg : MG} {E : XK} {G H G' H' : Hp} {Q : VK} (x : Ext G H G' H') {r : R Rs} (h : Post K mg E G H Q r) : Post K mg E G' H' Q r :=
  h.mono x fun _ _ _ _ _ _ rr => rr.old x.hh
/-- the judgement: the expression e is worth f -/
def PUE (X : Cx) (E : XK) (e : Expr) (f : Ev → R Rs) : Prop := ∃ t, PE X e t ∧ Pu X.K X.mg E t f
/-- frozen: an own new thing is given up, another's own thing stops -/
def fzR : R Rs → R D
  | .ok (.fz d) => .ok d
  | .ok (.ow d) => .ok d
  | .ok (.al _) => .stuck
  | .ex x => .ex x
  | .stuck => .stuck
def PostZ (K : PySem.W.Frag) (mg : MG) (E : XK) (G H : Hp) (Q : VK) : R D → Prop
  | .ok d => ∀ G' H' v, Ext G H G' H' → Rep K mg G' v d → Q v H'
  | .ex x => x.fs = none ∧ ∀ u G' H', mg x.cls = some u → Ext G H G' H' → E u none H'
  | .stuck => False
theorem PostZ.of {K : PySem.W.Frag} {mg : MG} {E : XK} {G H : Hp} {Q : VK} : ∀ {r : R Rs}, PostZ K mg E G H Q (fzR r) → Post K mg E G H Q r
  | .ok (.fz d), h => fun G' H' v x r => h G' H' v x r
  | .ok (.ow d), h => fun G' H' v x ⟨a, e, n, g, o⟩ => by
    subst e
    obtain ⟨u, hu, r⟩ := o.give g
    exact h _ H' _ (x.give hu g n) r
  | .ok (.al _), h => h.elim
  | .ex _, h => h
  | .stuck, h => h.elim
end PL

set_option Elab.async false
set_option linter.all false
set_option maxRecDepth 100000
set_option maxHeartbeats 4000000
/-! PURE LAYER, expressions. -/
namespace PL
open PySem PySem.Spec PyProof.Rows L2
section
variable {K : PySem.W.Frag} {mg : MG} {E : XK} {G H G' H' : Hp} {v w : V} {d e : D}
theorem Rd1.rep (h : Rd1 K mg G H v d) (hn : ∀ a, v ≠ .ref a) : Rep K mg G v d := by
  rcases h with h | ⟨a, e, _⟩
  · exact h
  · exact absurd e (hn a)
theorem Rd1.repH (s : Same G H) (h : Rd1 K mg G H v d) : Rep K mg H v d := by
  rcases h with h | ⟨a, e, _, o⟩
  · exact Rep.mono s h
  · subst e
    cases d with
    | lst ds => obtain ⟨vs, e, r⟩ := o; exact .lst (SqL.of e) (RepA.mono s r)
    | dic ds => obtain ⟨vs, e, r⟩ := o; exact .dic e (RepD.mono s r)
    | _ => exact o.elim
theorem Rd1.non (h : Rd1 K mg G H v .non) : v = .non := by
  rcases h with h | ⟨_, _, _, o⟩
  · cases h; rfl
  · exact o.elim
theorem Rd1.bl {b : Bool} (h : Rd1 K mg G H v (.bl b)) : v = .bl b := by
  rcases h with h | ⟨_, _, _, o⟩
  · cases h; rfl
  · exact o.elim
theorem Rd1.int {b : Int} (h : Rd1 K mg G H v (.int b)) : v = .int b := by
  rcases h with h | ⟨_, _, _, o⟩
  · cases h; rfl
  · exact o.elim
theorem Rd1.str {b : Str} (h : Rd1 K mg G H v (.str b)) : v = .str b := by
  rcases h with h | ⟨_, _, _, o⟩
  · cases h; rfl
  · exact o.elim
theorem Rd1.lst {ds : List D} (s : Same G H) (h : Rd1 K mg G H v (.lst ds)) : ∃ a vs, v = .ref a ∧ SqL K H a vs ∧ RepA K mg G vs ds := by
  rcases h with h | ⟨a, e, _, vs, o, r⟩
  · cases h with
    | lst h r => exact ⟨_, _, rfl, s.seq h, r⟩
  · exact ⟨a, vs, e, SqL.of o, r⟩
theorem Rd1.lst' {ds : List D} (s : Same G H) (h : Rd1 K mg G H v (.lst ds)) : ∃ a vs, v = .ref a ∧ SqL K H a vs ∧ True ∧ RepA K mg G vs ds := by
  obtain ⟨a, vs, e, h1, h2⟩ := h.lst s
  exact ⟨a, vs, e, h1, trivial, h2⟩
theorem Rd1.tup {ds : List D} (s : Same G H) (h : Rd1 K mg G H v (.tup ds)) : ∃ a vs, v = .ref a ∧ SqT K H a vs ∧ SqT K G a vs ∧ RepA K mg G vs ds := by
  rcases h with h | ⟨_, _, _, o⟩
  · cases h with
    | tup h r => exact ⟨_, _, rfl, Same.tup s h, h, r⟩
  · exact o.elim
theorem Rd1.dic {ds : List (Key × D)} (s : Same G H) (h : Rd1 K mg G H v (.dic ds)) : ∃ a vs, v = .ref a ∧ H a = some (.dK vs) ∧ RepD K mg G vs ds := by
  rcases h with h | ⟨a, e, _, vs, o, r⟩
  · cases h with
    | dic h r => exact ⟨_, _, rfl, s _ _ h, r⟩
  · exact ⟨a, vs, e, o, r⟩
theorem RepA.length : ∀ {vs : List V} {ds : List D}, RepA K mg G vs ds → vs.length = ds.length
  | _, _, .nil => rfl
  | _, _, .cons _ r => congrArg (· + 1) r.length
theorem RepA.get : ∀ {vs : List V} {ds : List D} {i : Nat} {d : D}, RepA K mg G vs ds → ds[i]? = some d → ∃ v, vs[i]? = some v ∧ Rep K mg G v d
  | _, _, i, d, .nil, h => by simp at h
  | _, _, 0, d, .cons h r, e => by simp at e; subst e; exact ⟨_, rfl, h⟩
  | _, _, i + 1, d, .cons h r, e => by
    obtain ⟨v, h1, h2⟩ := RepA.get (i := i) (d := d) r (by simpa using e)
    exact ⟨v, by simpa using h1, h2⟩
theorem RepA.getV : ∀ {vs : List V} {ds : List D} {i : Nat} {v : V}, RepA K mg G vs ds → vs[i]? = some v → ∃ d, ds[i]? = some d ∧ Rep K mg G v d
  | _, _, i, d, .nil, h => by simp at h
  | _, _, 0, d, .cons h r, e => by simp at e; subst e; exact ⟨_, rfl, h⟩
  | _, _, i + 1, d, .cons h r, e => by
    obtain ⟨v, h1, h2⟩ := RepA.getV (i := i) (v := d) r (by simpa using e)
    exact ⟨v, by simpa using h1, h2⟩
theorem RepA.append : ∀ {vs ws : List V} {ds es : List D}, RepA K mg G vs ds → RepA K mg G ws es → RepA K mg G (vs ++ ws) (ds ++ es)
  | _, _, _, _, .nil, s => s
  | _, _, _, _, .cons h r, s => .cons h (RepA.append r s)
theorem RepA.drop : ∀ {vs : List V} {ds : List D} (n : Nat), RepA K mg G vs ds → RepA K mg G (vs.drop n) (ds.drop n)
  | _, _, 0, h => h
  | _, _, _ + 1, .nil => .nil
  | _, _, n + 1, .cons _ r => RepA.drop n r
theorem RepA.take : ∀ {vs : List V} {ds : List D} (n : Nat), RepA K mg G vs ds → RepA K mg G (vs.take n) (ds.take n)
  | _, _, 0, h => .nil
  | _, _, _ + 1, .nil => .nil
  | _, _, n + 1, .cons h r => .cons h (RepA.take n r)

/-! ### the way from one expression to the next -/
theorem Pu.thn {t : TE} {f : Ev → R Rs} (ha : Pu K mg E t f) {k : Rs → R Rs} {env : Ev} {σ : L2.St} {Q Q' : VK} (s : Same G H) (c : CorE K mg G H env σ) (p : Post K mg E G H Q (R.bind (f env) k))
    (h : ∀ r G1 H1 v, f env = .ok r → Ext G H G1 H1 → ResR K mg H G1 H1 v r → Post K mg E G1 H1 Q (k r) → Q' v H1) : t σ H Q' := by
  refine ha G H env σ Q' s c ?_
  cases e : f env with
  | ok r =>
    rw [e] at p
    exact fun G1 H1 v x rr => h r G1 H1 v e x rr (Post.fwd x p)
  | ex x =>
    rw [e] at p
    exact p
  | stuck =>
    rw [e] at p
    exact p.elim

def xVar (i : Nat) : Ev → R Rs := fun env => match env[i]? with
  | some (.fz d) => .ok (.fz d)
  | some (.ow d) => .ok (.al d)
  | _ => .stuck
theorem Pu.var (i : Nat) : Pu K mg E (tVar i) (xVar i) := by
  intro G H env σ Q s c p
  unfold xVar at p
  cases e : env[i]? with
  | none => rw [e] at p; exact p.elim
  | some sl =>
    rw [e] at p
    have q := c i sl e
    cases sl with
    | no => exact p.elim
    | fz d =>
      obtain ⟨v, h1, h2⟩ := q
      exact ⟨v, h1, p G H v (Ext.refl s) h2⟩
    | ow d =>
      obtain ⟨a, h1, h2, h3⟩ := q
      exact ⟨.ref a, h1, p G H (.ref a) (Ext.refl s) ⟨a, rfl, h2, h3⟩⟩
def xC (d : D) : Ev → R Rs := fun _ => .ok (.fz d)
theorem Pu.c {d : D} {v : V} (h : ∀ G, Rep K mg G v d) : Pu K mg E (tC v) (xC d) := by
  intro G H env σ Q s c p
  exact p G H v (Ext.refl s) (h G)
def xUn (g : D → R Rs) (f : Ev → R Rs) : Ev → R Rs := fun env => R.bind (f env) fun r => g r.d
def xBin (g : D → D → R Rs) (f h : Ev → R Rs) : Ev → R Rs := fun env => R.bind (f env) fun r1 => R.bind (h env) fun r2 => g r1.d r2.d
/-- an operation by values does g -/
def POp (K : PySem.W.Frag) (mg : MG) (E : XK) (r : R2) (g : D → D → R Rs) : Prop := ∀ (G H : Hp) (v w : V) (d e : D) (Q : VK), Same G H → Rd1 K mg G H v d → Rd1 K mg G H w e → Post K mg E G H Q (g d e) → r v w H Q
def POp1 (K : PySem.W.Frag) (mg : MG) (E : XK) (r : V → Hp → VK → Prop) (g : D → R Rs) : Prop := ∀ (G H : Hp) (v : V) (d : D) (Q : VK), Same G H → Rd1 K mg G H v d → Post K mg E G H Q (g d) → r v H Q
theorem Pu.bin {ta tb : TE} {f h : Ev → R Rs} {r : R2} {g : D → D → R Rs} (o : POp K mg E r g) (ha : Pu K mg E ta f) (hb : Pu K mg E tb h) : Pu K mg E (tOp r ta tb) (xBin g f h) := by
  intro G H env σ Q s c p
  refine ha.thn s c p fun r1 G1 H1 v e1 x1 rr1 p1 => ?_
  refine hb.thn x1.sub (c.ext x1) p1 fun r2 G2 H2 w e2 x2 rr2 p2 => ?_
  exact o G2 H2 v w _ _ Q x2.sub (rr1.rd.ext x2) rr2.rd p2
theorem Pu.un {ta : TE} {f : Ev → R Rs} {r : V → Hp → VK → Prop} {g : D → R Rs} (o : POp1 K mg E r g) (ha : Pu K mg E ta f) : Pu K mg E (tUn r ta) (xUn g f) := by
  intro G H env σ Q s c p
  refine ha.thn s c p fun r1 G1 H1 v e1 x1 rr1 p1 => ?_
  exact o G1 H1 v _ Q x1.sub rr1.rd p1

/-! ### tests -/
def PostT (mg : MG) (E : XK) (G H : Hp) (Q : Bool → Hp → Prop) : R Bool → Prop
  | .ok b => ∀ G' H', Ext G H G' H' → Q b H'
  | .ex x => x.fs = none ∧ ∀ u G' H', mg x.cls = some u → Ext G H G' H' → E u none H'
  | .stuck => False
def PuT (K : PySem.W.Frag) (mg : MG) (E : XK) (t : TT) (f : Ev → R Bool) : Prop := ∀ (G H : Hp) (env : Ev) (σ : L2.St) (Q : Bool → Hp → Prop), Same G H → CorE K mg G H env σ → PostT mg E G H Q (f env) → t σ H Q
theorem PostT.fwd {Q : Bool → Hp → Prop} (x : Ext G H G' H') : ∀ {r : R Bool}, PostT mg E G H Q r → PostT mg E G' H' Q r
  | .ok b, h => fun G2 H2 x2 => h G2 H2 (x.trans x2)
  | .ex _, h => ⟨h.1, fun u G2 H2 m x2 => h.2 u G2 H2 m (x.trans x2)⟩
/-- a bool of a value that must be one -/
def asB : D → R Bool
  | .bl b => .ok b
  | _ => .stuck
def xB (f : Ev → R Rs) : Ev → R Bool := fun env => R.bind (f env) fun r => asB r.d
theorem PuT.of {t : TE} {f : Ev → R Rs} (h : Pu K mg E t f) : PuT K mg E (tB t) (xB f) := by
  intro G H env σ Q s c p
  refine h G H env σ _ s c ?_
  unfold xB at p
  cases e : f env with
  | ok r =>
    rw [e] at p
    intro G1 H1 v x rr
    have q := rr.rd
    cases hd : r.d with
    | bl b =>
      rw [hd] at q
      have p' : PostT mg E G H Q (asB r.d) := p
      rw [hd] at p'
      exact ⟨b, q.bl, p' G1 H1 x⟩
    | _ =>
      have p' : PostT mg E G H Q (asB r.d) := p
      rw [hd] at p'
      exact p'.elim
  | ex x => rw [e] at p; exact p
  | stuck => rw [e] at p; exact p.elim
theorem PuT.thn {t : TT} {f : Ev → R Bool} (ha : PuT K mg E t f) {env : Ev} {σ : L2.St} {Q' : Bool → Hp → Prop} (s : Same G H) (c : CorE K mg G H env σ)
    (h : ∀ b G1 H1, f env = .ok b → Ext G H G1 H1 → Q' b H1) (hx : ∀ x, f env = .ex x → x.fs = none ∧ ∀ u G' H', mg x.cls = some u → Ext G H G' H' → E u none H') (hs : f env ≠ .stuck) : t σ H Q' := by
  refine ha G H env σ Q' s c ?_
  cases e : f env with
  | ok b => exact fun G1 H1 x => h b G1 H1 e x
  | ex x => exact hx x e
  | stuck => exact absurd e hs
def xAnd (f g : Ev → R Bool) : Ev → R Bool := fun env => R.bind (f env) fun b => if b = true then g env else .ok false
def xOr (f g : Ev → R Bool) : Ev → R Bool := fun env => R.bind (f env) fun b => if b = true then .ok true else g env
def xNot (f : Ev → R Bool) : Ev → R Bool := fun env => R.bind (f env) fun b => .ok (!b)
theorem PuT.and {t u : TT} {f g : Ev → R Bool} (ha : PuT K mg E t f) (hb : PuT K mg E u g) : PuT K mg E (tAnd t u) (xAnd f g) := by
  intro G H env σ Q s c p
  unfold xAnd at p
  refine ha.thn s c (fun b G1 H1 e x => ?_) (fun x e => by rw [e] at p; exact p) (fun e => by rw [e] at p; exact p)
  rw [e] at p
  cases b with
  | true => rw [if_pos rfl]; exact hb G1 H1 env σ Q x.sub (c.ext x) (PostT.fwd x p)
  | false => rw [if_neg Bool.false_ne_true]; exact p G1 H1 x
theorem PuT.or {t u : TT} {f g : Ev → R Bool} (ha : PuT K mg E t f) (hb : PuT K mg E u g) : PuT K mg E (tOr t u) (xOr f g) := by
  intro G H env σ Q s c p
  unfold xOr at p
  refine ha.thn s c (fun b G1 H1 e x => ?_) (fun x e => by rw [e] at p; exact p) (fun e => by rw [e] at p; exact p)
  rw [e] at p
  cases b with
  | true => rw [if_pos rfl]; exact p G1 H1 x
  | false => rw [if_neg Bool.false_ne_true]; exact hb G1 H1 env σ Q x.sub (c.ext x) (PostT.fwd x p)
theorem PuT.not {t : TT} {f : Ev → R Bool} (ha : PuT K mg E t f) : PuT K mg E (tNot t) (xNot f) := by
  intro G H env σ Q s c p
  unfold xNot at p
  refine ha.thn s c (fun b G1 H1 e x => ?_) (fun x e => by rw [e] at p; exact p) (fun e => by rw [e] at p; exact p)
  rw [e] at p
  exact p G1 H1 x
/-- tests as values -/
def xV (f : Ev → R Bool) : Ev → R Rs := fun env => R.bind (f env) fun b => .ok (.fz (.bl b))
def xAndV (f g : Ev → R Rs) : Ev → R Rs := fun env => R.bind (xB f env) fun b => if b = true then g env else .ok (.fz (.bl false))
def xOrV (f g : Ev → R Rs) : Ev → R Rs := fun env => R.bind (xB f env) fun b => if b = true then .ok (.fz (.bl true)) else g env
def xNotV (f : Ev → R Rs) : Ev → R Rs := fun env => R.bind (xB f env) fun b => .ok (.fz (.bl (!b)))
theorem Pu.andV {ta tb : TE} {f g : Ev → R Rs} (ha : Pu K mg E ta f) (hb : Pu K mg E tb g) : Pu K mg E (tAndV ta tb) (xAndV f g) := by
  intro G H env σ Q s c p
  unfold xAndV at p
  refine PuT.of ha G H env σ (fun b H1 => if b = true then tb σ H1 Q else Q (.bl false) H1) s c ?_
  cases e : xB f env with
  | ok b =>
    intro G1 H1 x
    rw [e] at p
    have p' : Post K mg E G H Q (if b = true then g env else .ok (.fz (.bl false))) := p
    cases b with
    | true => rw [if_pos rfl]; rw [if_pos rfl] at p'; exact hb G1 H1 env σ Q x.sub (c.ext x) (Post.fwd x p')
    | false => rw [if_neg Bool.false_ne_true]; rw [if_neg Bool.false_ne_true] at p'; exact p' G1 H1 _ x (.bl false)
  | ex x => rw [e] at p; exact p
  | stuck => rw [e] at p; exact p.elim
theorem Pu.orV {ta tb : TE} {f g : Ev → R Rs} (ha : Pu K mg E ta f) (hb : Pu K mg E tb g) : Pu K mg E (tOrV ta tb) (xOrV f g) := by
  intro G H env σ Q s c p
  unfold xOrV at p
  refine PuT.of ha G H env σ (fun b H1 => if b = true then Q (.bl true) H1 else tb σ H1 Q) s c ?_
  cases e : xB f env with
  | ok b =>
    intro G1 H1 x
    rw [e] at p
    have p' : Post K mg E G H Q (if b = true then .ok (.fz (.bl true)) else g env) := p
    cases b with
    | true => rw [if_pos rfl]; rw [if_pos rfl] at p'; exact p' G1 H1 _ x (.bl true)
    | false => rw [if_neg Bool.false_ne_true]; rw [if_neg Bool.false_ne_true] at p'; exact hb G1 H1 env σ Q x.sub (c.ext x) (Post.fwd x p')
  | ex x => rw [e] at p; exact p
  | stuck => rw [e] at p; exact p.elim
theorem Pu.notV {ta : TE} {f : Ev → R Rs} (ha : Pu K mg E ta f) : Pu K mg E (tNotV ta) (xNotV f) := by
  intro G H env σ Q s c p
  unfold xNotV at p
  refine PuT.of ha G H env σ (fun b H1 => Q (.bl (!b)) H1) s c ?_
  cases e : xB f env with
  | ok b => rw [e] at p; exact fun G1 H1 x => p G1 H1 _ x (.bl (!b))
  | ex x => rw [e] at p; exact p
  | stuck => rw [e] at p; exact p.elim
def xIf (c : Ev → R Bool) (f g : Ev → R Rs) : Ev → R Rs := fun env => R.bind (c env) fun b => if b = true then f env else g env
theorem Pu.ite {tc : TT} {ta tb : TE} {cf : Ev → R Bool} {f g : Ev → R Rs} (hc : PuT K mg E tc cf) (ha : Pu K mg E ta f) (hb : Pu K mg E tb g) : Pu K mg E (tIf tc ta tb) (xIf cf f g) := by
  intro G H env σ Q s c p
  unfold xIf at p
  refine hc.thn s c (fun b G1 H1 e x => ?_) (fun x e => by rw [e] at p; exact p) (fun e => by rw [e] at p; exact p)
  rw [e] at p
  have p' : Post K mg E G H Q (if b = true then f env else g env) := p
  cases b with
  | true => rw [if_pos rfl]; exact ha G1 H1 env σ Q x.sub (c.ext x) (Post.fwd x p')
  | false => rw [if_neg Bool.false_ne_true]; exact hb G1 H1 env σ Q x.sub (c.ext x) (Post.fwd x p')

/-! ### rows of arguments: given up (RepA), or read -/
def PostA (K : PySem.W.Frag) (mg : MG) (E : XK) (G H : Hp) (Q : List V → Hp → Prop) : R (List D) → Prop
  | .ok ds => ∀ G' H' vs, Ext G H G' H' → RepA K mg G' vs ds → Q vs H'
  | .ex x => x.fs = none ∧ ∀ u G' H', mg x.cls = some u → Ext G H G' H' → E u none H'
  | .stuck => False
def PuA (K : PySem.W.Frag) (mg : MG) (E : XK) (t : TA) (f : Ev → R (List D)) : Prop := ∀ (G H : Hp) (env : Ev) (σ : L2.St) (Q : List V → Hp → Prop), Same G H → CorE K mg G H env σ → PostA K mg E G H Q (f env) → t σ H Q
theorem PostA.fwd {Q : List V → Hp → Prop} (x : Ext G H G' H') : ∀ {r : R (List D)}, PostA K mg E G H Q r → PostA K mg E G' H' Q r
  | .ok b, h => fun G2 H2 vs x2 => h G2 H2 vs (x.trans x2)
  | .ex _, h => ⟨h.1, fun u G2 H2 m x2 => h.2 u G2 H2 m (x.trans x2)⟩
def xNil : Ev → R (List D) := fun _ => .ok []
def xCons (f : Ev → R Rs) (g : Ev → R (List D)) : Ev → R (List D) := fun env => R.bind (fzR (f env)) fun d => R.bind (g env) fun ds => .ok (d :: ds)
theorem PuA.nil : PuA K mg E tNil xNil := fun G H env σ Q s c p => p G H [] (Ext.refl s) .nil
theorem Pu.fz {t : TE} {f : Ev → R Rs} (ha : Pu K mg E t f) {env : Ev} {σ : L2.St} {Q : VK} (s : Same G H) (c : CorE K mg G H env σ) (p : PostZ K mg E G H Q (fzR (f env))) : t σ H Q :=
  ha G H env σ Q s c (PostZ.of p)
theorem PuA.cons {t : TE} {u : TA} {f : Ev → R Rs} {g : Ev → R (List D)} (ha : Pu K mg E t f) (hb : PuA K mg E u g) : PuA K mg E (tCons t u) (xCons f g) := by
  intro G H env σ Q s c p
  unfold xCons at p
  refine ha.fz s c ?_
  cases e : fzR (f env) with
  | ok d =>
    rw [e] at p
    have p' : PostA K mg E G H Q (R.bind (g env) fun ds => .ok (d :: ds)) := p
    intro G1 H1 v x1 r1
    refine hb G1 H1 env σ _ x1.sub (c.ext x1) ?_
    cases e2 : g env with
    | ok ds =>
      rw [e2] at p'
      exact fun G2 H2 vs x2 r2 => p' G2 H2 (v :: vs) (x1.trans x2) (.cons (Rep.mono x2.gg r1) r2)
    | ex x => rw [e2] at p'; exact ⟨p'.1, fun u G2 H2 m x2 => p'.2 u G2 H2 m (x1.trans x2)⟩
    | stuck => rw [e2] at p'; exact p'.elim
  | ex x => rw [e] at p; exact p
  | stuck => rw [e] at p; exact p.elim
/-- read -/
inductive RdA (K : PySem.W.Frag) (mg : MG) (G H : Hp) : List V → List D → Prop
  | nil : RdA K mg G H [] []
  | cons {v : V} {vs : List V} {d : D} {ds : List D} : Rd1 K mg G H v d → RdA K mg G H vs ds → RdA K mg G H (v :: vs) (d :: ds)
theorem RdA.repH (s : Same G H) : ∀ {vs : List V} {ds : List D}, RdA K mg G H vs ds → RepA K mg H vs ds
  | _, _, .nil => .nil
  | _, _, .cons h r => .cons (h.repH s) (RdA.repH s r)
def PostAr (K : PySem.W.Frag) (mg : MG) (E : XK) (G H : Hp) (Q : List V → Hp → Prop) : R (List D) → Prop
  | .ok ds => ∀ G' H' vs, Ext G H G' H' → RdA K mg G' H' vs ds → Q vs H'
  | .ex x => x.fs = none ∧ ∀ u G' H', mg x.cls = some u → Ext G H G' H' → E u none H'
  | .stuck => False
def PuAr (K : PySem.W.Frag) (mg : MG) (E : XK) (t : TA) (f : Ev → R (List D)) : Prop := ∀ (G H : Hp) (env : Ev) (σ : L2.St) (Q : List V → Hp → Prop), Same G H → CorE K mg G H env σ → PostAr K mg E G H Q (f env) → t σ H Q
def xConsR (f : Ev → R Rs) (g : Ev → R (List D)) : Ev → R (List D) := fun env => R.bind (f env) fun r => R.bind (g env) fun ds => .ok (r.d :: ds)
theorem PuAr.nil : PuAr K mg E tNil xNil := fun G H env σ Q s c p => p G H [] (Ext.refl s) .nil
theorem PuAr.cons {t : TE} {u : TA} {f : Ev → R Rs} {g : Ev → R (List D)} (ha : Pu K mg E t f) (hb : PuAr K mg E u g) : PuAr K mg E (tCons t u) (xConsR f g) := by
  intro G H env σ Q s c p
  unfold xConsR at p
  refine ha G H env σ _ s c ?_
  cases e : f env with
  | ok r =>
    rw [e] at p
    have p' : PostAr K mg E G H Q (R.bind (g env) fun ds => .ok (r.d :: ds)) := p
    intro G1 H1 v x1 r1
    refine hb G1 H1 env σ _ x1.sub (c.ext x1) ?_
    cases e2 : g env with
    | ok ds =>
      rw [e2] at p'
      exact fun G2 H2 vs x2 r2 => p' G2 H2 (v :: vs) (x1.trans x2) (.cons (r1.rd.ext x2) r2)
    | ex x => rw [e2] at p'; exact ⟨p'.1, fun u G2 H2 m x2 => p'.2 u G2 H2 m (x1.trans x2)⟩
    | stuck => rw [e2] at p'; exact p'.elim
  | ex x => rw [e] at p; exact p
  | stuck => rw [e] at p; exact p.elim

/-! ### the promise of a def -/
def spP (K : PySem.W.Frag) (mg : MG) (n : Nat) (m : List D → R Rs) : Sp := fun vs H Q E => vs.length = n ∧ ∃ G ds, Same G H ∧ RepA K mg G vs ds ∧ Post K mg E G H Q (m ds)
/-- own things lent: an answer that is no object -/
def scalR : R Rs → R Rs
  | .ok (.fz .non) => .ok (.fz .non)
  | .ok (.fz (.bl b)) => .ok (.fz (.bl b))
  | .ok (.fz (.int b)) => .ok (.fz (.int b))
  | .ok (.fz (.str b)) => .ok (.fz (.str b))
  | .ex x => .ex x
  | _ => .stuck
def xCall (n : Nat) (m : List D → R Rs) (dds : List D) (f : Ev → R (List D)) : Ev → R Rs := fun env => R.bind (f env) fun ds => if (ds ++ dds).length = n then m (ds ++ dds) else .stuck
def xLend (n : Nat) (m : List D → R Rs) (dds : List D) (f : Ev → R (List D)) : Ev → R Rs := fun env => R.bind (f env) fun ds => if (ds ++ dds).length = n then scalR (m (ds ++ dds)) else .stuck
/-- dvs: the defaults that fill up -/
theorem Pu.call {n : Nat} {m : List D → R Rs} {t : TA} {f : Ev → R (List D)} {dvs : List V} {dds : List D} (hd : ∀ G, RepA K mg G dvs dds) (ha : PuA K mg E t f) : Pu K mg E (tCall (spP K mg n m) dvs E t) (xCall n m dds f) := by
  intro G H env σ Q s c p
  refine ha G H env σ _ s c ?_
  unfold xCall at p
  cases e : f env with
  | ok ds =>
    rw [e] at p
    have p' : Post K mg E G H Q (if (ds ++ dds).length = n then m (ds ++ dds) else .stuck) := p
    intro G1 H1 vs x r
    have rr := RepA.append r (hd G1)
    by_cases hn : (ds ++ dds).length = n
    · rw [if_pos hn] at p'
      exact ⟨rr.length.trans hn, G1, ds ++ dds, x.sub, rr, Post.fwd x p'⟩
    · rw [if_neg hn] at p'
      exact p'.elim
  | ex x => rw [e] at p; exact p
  | stuck => rw [e] at p; exact p.elim
theorem Pu.lend {n : Nat} {m : List D → R Rs} {t : TA} {f : Ev → R (List D)} {dvs : List V} {dds : List D} (hd : ∀ G, RepA K mg G dvs dds) (ha : PuAr K mg E t f) : Pu K mg E (tCall (spP K mg n m) dvs E t) (xLend n m dds f) := by
  intro G H env σ Q s c p
  refine ha G H env σ _ s c ?_
  unfold xLend at p
  cases e : f env with
  | ok ds =>
    rw [e] at p
    have p' : Post K mg E G H Q (if (ds ++ dds).length = n then scalR (m (ds ++ dds)) else .stuck) := p
    intro G1 H1 vs x r
    have rr := RepA.append (r.repH x.sub) (hd H1)
    by_cases hn : (ds ++ dds).length = n
    · rw [if_pos hn] at p'
      refine ⟨rr.length.trans hn, H1, ds ++ dds, fun _ _ z => z, rr, ?_⟩
      have up : ∀ {G2 H2 : Hp}, Ext H1 H1 G2 H2 → Ext G H G1 H2 := fun x2 => x.trans ⟨fun _ _ z => z, x2.hh, fun b o z => x2.hh b o (x.sub b o z), fun _ _ => rfl⟩
      cases e3 : m (ds ++ dds) with
      | ok r0 =>
        rw [e3] at p'
        intro G2 H2 v x2 rv
        cases r0 with
        | fz d0 =>
          have rv' : Rep K mg G2 v d0 := rv
          cases d0 with
          | non => cases rv'; exact p' G1 H2 _ (up x2) .non
          | bl b => cases rv'; exact p' G1 H2 _ (up x2) (.bl b)
          | int b => cases rv'; exact p' G1 H2 _ (up x2) (.int b)
          | str b => cases rv'; exact p' G1 H2 _ (up x2) (.str b)
          | _ => exact p'.elim
        | ow d0 => exact p'.elim
        | al d0 => exact p'.elim
      | ex x0 => rw [e3] at p'; exact ⟨p'.1, fun u G2 H2 mu x2 => p'.2 u G1 H2 mu (up x2)⟩
      | stuck => rw [e3] at p'; exact p'.elim
    · rw [if_neg hn] at p'
      exact p'.elim
  | ex x => rw [e] at p; exact p
  | stuck => rw [e] at p; exact p.elim
/-! ### built-ins by values -/
def PCall (K : PySem.W.Frag) (mg : MG) (E : XK) (r : List V → Hp → VK → Prop) (g : List D → R Rs) : Prop := ∀ (G H : Hp) (vs : List V) (ds : List D) (Q : VK), Same G H → RdA K mg G H vs ds → Post K mg E G H Q (g ds) → r vs H Q
def xBlt (g : List D → R Rs) (f : Ev → R (List D)) : Ev → R Rs := fun env => R.bind (f env) g
theorem Pu.blt {t : TA} {f : Ev → R (List D)} {r : List V → Hp → VK → Prop} {g : List D → R Rs} (o : PCall K mg E r g) (ha : PuAr K mg E t f) : Pu K mg E (tCB r t) (xBlt g f) := by
  intro G H env σ Q s c p
  refine ha G H env σ _ s c ?_
  unfold xBlt at p
  cases e : f env with
  | ok ds =>
    rw [e] at p
    have p' : Post K mg E G H Q (g ds) := p
    exact fun G1 H1 vs x r => o G1 H1 vs ds Q x.sub r (Post.fwd x p')
  | ex x => rw [e] at p; exact p
  | stuck => rw [e] at p; exact p.elim
/-! ### displays -/
noncomputable def xTup (f : Ev → R (List D)) : Ev → R Rs := fun env => R.bind (f env) fun ds => need (ds.length ≤ 1000) (.ok (.fz (.tup ds)))
noncomputable def xLst (f : Ev → R (List D)) : Ev → R Rs := fun env => R.bind (f env) fun ds => need (ds.length ≤ 1000) (.ok (.ow (.lst ds)))
theorem Pu.tup {t : TA} {f : Ev → R (List D)} (ha : PuA K mg E t f) : Pu K mg E (tTup t) (xTup f) := by
  intro G H env σ Q s c p
  refine ha G H env σ _ s c ?_
  unfold xTup at p
  cases e : f env with
  | ok ds =>
    rw [e] at p
    have p0 : Post K mg E G H Q (need (ds.length ≤ 1000) (.ok (.fz (.tup ds)))) := p
    intro G1 H1 vs x r
    obtain ⟨hn, p'⟩ := post_need p0
    · skip
      refine ⟨Nat.le_of_lt (small1000 (by rw [r.length]; exact hn)), fun q hq => ?_⟩
      have xn := Ext.new (o := HO.tup vs) x.sub hq
      exact p' _ _ _ (x.trans xn) (.tup (SqT.of upd_same) (RepA.mono xn.gg r))
  | ex x => rw [e] at p; exact p
  | stuck => rw [e] at p; exact p.elim
theorem Pu.lst {t : TA} {f : Ev → R (List D)} (ha : PuA K mg E t f) : Pu K mg E (tLst t) (xLst f) := by
  intro G H env σ Q s c p
  refine ha G H env σ _ s c ?_
  unfold xLst at p
  cases e : f env with
  | ok ds =>
    rw [e] at p
    have p0 : Post K mg E G H Q (need (ds.length ≤ 1000) (.ok (.ow (.lst ds)))) := p
    intro G1 H1 vs x r
    obtain ⟨hn, p'⟩ := post_need p0
    · skip
      refine ⟨Nat.le_of_lt (small1000 (by rw [r.length]; exact hn)), fun q hq => ?_⟩
      have xn := Ext.own (o := HO.lst vs) x.sub hq
      exact p' _ _ _ (x.trans xn) ⟨q, rfl, x.hh.free hq, x.sub.free hq, vs, upd_same, r⟩
  | ex x => rw [e] at p; exact p
  | stuck => rw [e] at p; exact p.elim
end
end PL

set_option Elab.async false
set_option linter.all false
set_option maxRecDepth 100000
set_option maxHeartbeats 4000000
/-! PURE LAYER, statements. -/
namespace PL
open PySem PySem.Spec PyProof.Rows L2
inductive Out where
  | nx (env : Ev) | rt (r : Rs) | bk (env : Ev) | ct (env : Ev) | ex (x : Ex) | stuck
section
variable {K : PySem.W.Frag} {mg : MG} {E : XK} {G0 H0 G H G' H' : Hp} {v w : V} {d e : D} {env : Ev} {σ : L2.St}
/-- the slots at a statement: what is one's own is new since the def's start (G0, H0), and stands apart -/
structure CorS (K : PySem.W.Frag) (mg : MG) (G0 H0 G H : Hp) (env : Ev) (σ : L2.St) : Prop where
  ext : Ext G0 H0 G H
  sl : CorE K mg G H env σ
  len : σ.length = env.length
  new : ∀ (i : Nat) (d : D) (a : Addr), env[i]? = some (.ow d) → σ[i]? = some (some (.ref a)) → H0 a = none
  apart : ∀ (i j : Nat) (d e : D) (a : Addr), env[i]? = some (.ow d) → env[j]? = some (.ow e) → σ[i]? = some (some (.ref a)) → σ[j]? = some (some (.ref a)) → i = j
theorem CorS.ext' (c : CorS K mg G0 H0 G H env σ) (x : Ext G H G' H') : CorS K mg G0 H0 G' H' env σ :=
  ⟨c.ext.trans x, c.sl.ext x, c.len, c.new, c.apart⟩
theorem CorS.fz (c : CorS K mg G0 H0 G H env σ) (i : Nat) (r : Rep K mg G v d) : CorS K mg G0 H0 G H (env.set i (.fz d)) (σ.set i (some v)) := by
  have ne : ∀ {j : Nat} {e : D}, (env.set i (.fz d))[j]? = some (.ow e) → j ≠ i ∧ env[j]? = some (.ow e) := fun {j e} h => by
    by_cases hj : i = j
    · subst hj
      by_cases hlt : i < env.length
      · rw [List.getElem?_set_self hlt] at h; cases h
      · rw [List.getElem?_eq_none (by simpa using hlt)] at h; cases h
    · rw [List.getElem?_set_ne hj] at h
      exact ⟨Ne.symm hj, h⟩
  refine ⟨c.ext, fun j s h => ?_, by simpa using c.len, fun j e a h h2 => ?_, fun j k e e' a h1 h2 h3 h4 => ?_⟩
  · by_cases hj : i = j
    · subst hj
      by_cases hlt : i < env.length
      · rw [List.getElem?_set_self hlt] at h
        cases h
        exact ⟨v, List.getElem?_set_self (by rw [c.len]; exact hlt), r⟩
      · rw [List.getElem?_eq_none (by simpa using hlt)] at h; cases h
    · rw [List.getElem?_set_ne hj] at h
      rw [List.getElem?_set_ne hj]
      exact c.sl j s h
  · obtain ⟨hj, h'⟩ := ne h
    rw [List.getElem?_set_ne (Ne.symm hj)] at h2
    exact c.new j e a h' h2
  · obtain ⟨hj, h1'⟩ := ne h1
    obtain ⟨hk, h2'⟩ := ne h2
    rw [List.getElem?_set_ne (Ne.symm hj)] at h3
    rw [List.getElem?_set_ne (Ne.symm hk)] at h4
    exact c.apart j k e e' a h1' h2' h3 h4
/-- a new own thing, which no slot has -/
theorem CorS.ow {a : Addr} (c : CorS K mg G0 H0 G H env σ) (i : Nat) (n : H0 a = none) (g : G a = none) (o : OwnAt K mg G H a d) (ap : ∀ (j : Nat) (e : D), env[j]? = some (.ow e) → σ[j]? ≠ some (some (.ref a))) :
    CorS K mg G0 H0 G H (env.set i (.ow d)) (σ.set i (some (.ref a))) := by
  have cs : ∀ {j : Nat} {e : D}, (env.set i (.ow d))[j]? = some (.ow e) → (j = i ∧ i < env.length) ∨ (j ≠ i ∧ env[j]? = some (.ow e)) := fun {j e} h => by
    by_cases hj : i = j
    · subst hj
      by_cases hlt : i < env.length
      · exact .inl ⟨rfl, hlt⟩
      · rw [List.getElem?_eq_none (by simpa using hlt)] at h; cases h
    · rw [List.getElem?_set_ne hj] at h
      exact .inr ⟨Ne.symm hj, h⟩
  refine ⟨c.ext, fun j s h => ?_, by simpa using c.len, fun j e b h h2 => ?_, fun j k e e' b h1 h2 h3 h4 => ?_⟩
  · by_cases hj : i = j
    · subst hj
      by_cases hlt : i < env.length
      · rw [List.getElem?_set_self hlt] at h
        cases h
        exact ⟨a, List.getElem?_set_self (by rw [c.len]; exact hlt), g, o⟩
      · rw [List.getElem?_eq_none (by simpa using hlt)] at h; cases h
    · rw [List.getElem?_set_ne hj] at h
      rw [List.getElem?_set_ne hj]
      exact c.sl j s h
  · rcases cs h with ⟨rfl, hlt⟩ | ⟨hj, h'⟩
    · rw [List.getElem?_set_self (by rw [c.len]; exact hlt)] at h2
      cases h2
      exact n
    · rw [List.getElem?_set_ne (Ne.symm hj)] at h2
      exact c.new j e b h' h2
  · rcases cs h1 with ⟨rfl, hlt⟩ | ⟨hj, h1'⟩
    · rw [List.getElem?_set_self (by rw [c.len]; exact hlt)] at h3
      cases h3
      rcases cs h2 with ⟨rfl, _⟩ | ⟨hk, h2'⟩
      · rfl
      · rw [List.getElem?_set_ne (Ne.symm hk)] at h4
        exact absurd h4 (ap k _ h2')
    · rw [List.getElem?_set_ne (Ne.symm hj)] at h3
      rcases cs h2 with ⟨rfl, hlt⟩ | ⟨hk, h2'⟩
      · rw [List.getElem?_set_self (by rw [c.len]; exact hlt)] at h4
        cases h4
        exact absurd h3 (ap j _ h1')
      · rw [List.getElem?_set_ne (Ne.symm hk)] at h4
        exact c.apart j k e e' b h1' h2' h3 h4
theorem CorS.no (c : CorS K mg G0 H0 G H env σ) (i : Nat) : CorS K mg G0 H0 G H (env.set i .no) (σ.set i none) := by
  have ne : ∀ {j : Nat} {e : D}, (env.set i .no)[j]? = some (.ow e) → j ≠ i ∧ env[j]? = some (.ow e) := fun {j e} h => by
    by_cases hj : i = j
    · subst hj
      by_cases hlt : i < env.length
      · rw [List.getElem?_set_self hlt] at h; cases h
      · rw [List.getElem?_eq_none (by simpa using hlt)] at h; cases h
    · rw [List.getElem?_set_ne hj] at h
      exact ⟨Ne.symm hj, h⟩
  refine ⟨c.ext, fun j s h => ?_, by simpa using c.len, fun j e a h h2 => ?_, fun j k e e' a h1 h2 h3 h4 => ?_⟩
  · by_cases hj : i = j
    · subst hj
      by_cases hlt : i < env.length
      · rw [List.getElem?_set_self hlt] at h
        cases h
        trivial
      · rw [List.getElem?_eq_none (by simpa using hlt)] at h; cases h
    · rw [List.getElem?_set_ne hj] at h
      rw [List.getElem?_set_ne hj]
      exact c.sl j s h
  · obtain ⟨hj, h'⟩ := ne h
    rw [List.getElem?_set_ne (Ne.symm hj)] at h2
    exact c.new j e a h' h2
  · obtain ⟨hj, h1'⟩ := ne h1
    obtain ⟨hk, h2'⟩ := ne h2
    rw [List.getElem?_set_ne (Ne.symm hj)] at h3
    rw [List.getElem?_set_ne (Ne.symm hk)] at h4
    exact c.apart j k e e' a h1' h2' h3 h4

/-- what is to hold at a statement's ends; G: what nobody changes, at its start -/
def PostS (K : PySem.W.Frag) (mg : MG) (E : XK) (G0 H0 G : Hp) (D : Ends) : Out → Prop
  | .nx env => ∀ G' H' σ', Same G G' → CorS K mg G0 H0 G' H' env σ' → D.nx σ' H'
  | .bk env => ∀ G' H' σ', Same G G' → CorS K mg G0 H0 G' H' env σ' → D.bk σ' H'
  | .ct env => ∀ G' H' σ', Same G G' → CorS K mg G0 H0 G' H' env σ' → D.ct σ' H'
  | .rt r => ∀ G' H' v, Same G G' → Ext G0 H0 G' H' → ResR K mg H0 G' H' v r → D.rt v H'
  | .ex x => x.fs = none ∧ ∀ u G' H', mg x.cls = some u → Ext G0 H0 G' H' → E u none H'
  | .stuck => False
def Pus (K : PySem.W.Frag) (mg : MG) (E : XK) (t : TS) (g : Ev → Out) : Prop := ∀ (G0 H0 G H : Hp) (env : Ev) (σ : L2.St) (D : Ends), CorS K mg G0 H0 G H env σ → PostS K mg E G0 H0 G D (g env) → t D σ H
theorem PostS.fwd {D : Ends} (s : Same G G') : ∀ {o : Out}, PostS K mg E G0 H0 G D o → PostS K mg E G0 H0 G' D o
  | .nx _, h => fun G2 H2 σ2 s2 c => h G2 H2 σ2 (fun a o z => s2 a o (s a o z)) c
  | .bk _, h => fun G2 H2 σ2 s2 c => h G2 H2 σ2 (fun a o z => s2 a o (s a o z)) c
  | .ct _, h => fun G2 H2 σ2 s2 c => h G2 H2 σ2 (fun a o z => s2 a o (s a o z)) c
  | .rt _, h => fun G2 H2 v s2 x r => h G2 H2 v (fun a o z => s2 a o (s a o z)) x r
  | .ex _, h => h
def sNext : Ev → Out := fun env => .nx env
def sSeq (f g : Ev → Out) : Ev → Out := fun env => match f env with
  | .nx env' => g env'
  | o => o
theorem Pus.next : Pus K mg E tNext sNext := fun G0 H0 G H env σ D c p => p G H σ (fun _ _ z => z) c
theorem Pus.seq {t u : TS} {f g : Ev → Out} (ha : Pus K mg E t f) (hb : Pus K mg E u g) : Pus K mg E (tSeq t u) (sSeq f g) := by
  intro G0 H0 G H env σ D c p
  refine ha G0 H0 G H env σ _ c ?_
  unfold sSeq at p
  cases e : f env with
  | nx env' =>
    rw [e] at p
    exact fun G' H' σ' s c' => hb G0 H0 G' H' env' σ' D c' (PostS.fwd s p)
  | rt r => rw [e] at p; exact p
  | bk r => rw [e] at p; exact p
  | ct r => rw [e] at p; exact p
  | ex x => rw [e] at p; exact p
  | stuck => rw [e] at p; exact p
def sBreak : Ev → Out := fun env => .bk env
def sCont : Ev → Out := fun env => .ct env
theorem Pus.brk : Pus K mg E tBreak sBreak := fun G0 H0 G H env σ D c p => p G H σ (fun _ _ z => z) c
theorem Pus.cont : Pus K mg E tCont sCont := fun G0 H0 G H env σ D c p => p G H σ (fun _ _ z => z) c
/-- from a def's ends to an expression's -/
theorem CorS.exx (c : CorS K mg G0 H0 G H env σ) {x : Ex} {Q : VK} (h : x.fs = none ∧ ∀ u G' H', mg x.cls = some u → Ext G0 H0 G' H' → E u none H') : Post K mg E G H Q (.ex x) :=
  ⟨h.1, fun u G' H' m x' => h.2 u G' H' m (c.ext.trans x')⟩
def sOf (r : R Rs) (k : Rs → Out) : Out := match r with
  | .ok r => k r
  | .ex x => .ex x
  | .stuck => .stuck
theorem Pu.sthn {t : TE} {f : Ev → R Rs} (ha : Pu K mg E t f) {k : Rs → Out} {D : Ends} {Q' : VK} (c : CorS K mg G0 H0 G H env σ) (p : PostS K mg E G0 H0 G D (sOf (f env) k))
    (h : ∀ r G1 H1 v, f env = .ok r → Ext G H G1 H1 → ResR K mg H G1 H1 v r → PostS K mg E G0 H0 G D (k r) → Q' v H1) : t σ H Q' := by
  refine ha G H env σ Q' c.ext.sub c.sl ?_
  cases e : f env with
  | ok r => rw [e] at p; exact fun G1 H1 v x rr => h r G1 H1 v e x rr p
  | ex x => rw [e] at p; exact c.exx p
  | stuck => rw [e] at p; exact p.elim
def sSet (i : Nat) (f : Ev → R Rs) : Ev → Out := fun env => sOf (f env) fun r => match r with
  | .fz d => .nx (env.set i (.fz d))
  | .ow d => .nx (env.set i (.ow d))
  | .al _ => .stuck
theorem CorS.apartNew (c : CorS K mg G0 H0 G H env σ) {a : Addr} (n : H a = none) : ∀ (j : Nat) (e : D), env[j]? = some (.ow e) → σ[j]? ≠ some (some (.ref a)) := fun j e h z => by
  obtain ⟨b, h1, _, o⟩ := c.sl j _ h
  rw [z] at h1
  cases h1
  exact o.here n
theorem Pus.set {i : Nat} {te : TE} {f : Ev → R Rs} (ha : Pu K mg E te f) : Pus K mg E (tAsg te (gName i)) (sSet i f) := by
  intro G0 H0 G H env σ D c p
  refine ha.sthn c p fun r G1 H1 v e x rr p1 => ?_
  cases r with
  | fz d => exact p1 G1 H1 _ x.gg ((c.ext' x).fz i rr)
  | ow d =>
    obtain ⟨a, e1, n, g, o⟩ := rr
    subst e1
    exact p1 G1 H1 _ x.gg ((c.ext' x).ow i (c.ext.hh.free n) g o (c.apartNew n))
  | al d => exact p1.elim
/-- an expression whose value is dropped -/
def sDrop (f : Ev → R Rs) : Ev → Out := fun env => sOf (f env) fun _ => .nx env
theorem Pus.drop {te : TE} {f : Ev → R Rs} (ha : Pu K mg E te f) : Pus K mg E (tDrop te) (sDrop f) := by
  intro G0 H0 G H env σ D c p
  exact ha.sthn c p fun r G1 H1 v e x rr p1 => p1 G1 H1 _ x.gg (c.ext' x)
def sRet (f : Ev → R Rs) : Ev → Out := fun env => sOf (f env) fun r => match r with
  | .al _ => .stuck
  | r => .rt r
theorem Pus.ret {te : TE} {f : Ev → R Rs} (ha : Pu K mg E te f) : Pus K mg E (tRet te) (sRet f) := by
  intro G0 H0 G H env σ D c p
  refine ha.sthn c p fun r G1 H1 v e x rr p1 => ?_
  cases r with
  | fz d => exact p1 G1 H1 v x.gg (c.ext.trans x) rr
  | ow d => exact p1 G1 H1 v x.gg (c.ext.trans x) (ResR.old (r := .ow d) c.ext.hh rr)
  | al d => exact p1.elim
def sRetN : Ev → Out := fun _ => .rt (.fz .non)
theorem Pus.retN : Pus K mg E tRetN sRetN := fun G0 H0 G H env σ D c p => p G H .non (fun _ _ z => z) c.ext .non
/-- return x, x a name -/
def sRetV (i : Nat) : Ev → Out := fun env => match env[i]? with
  | some (.fz d) => .rt (.fz d)
  | some (.ow d) => .rt (.ow d)
  | _ => .stuck
theorem Pus.retV (i : Nat) : Pus K mg E (tRet (tVar i)) (sRetV i) := by
  intro G0 H0 G H env σ D c p
  unfold sRetV at p
  cases e : env[i]? with
  | none => rw [e] at p; exact p.elim
  | some sl =>
    rw [e] at p
    have q := c.sl i sl e
    cases sl with
    | no => exact p.elim
    | fz d =>
      obtain ⟨v, h1, h2⟩ := q
      exact ⟨v, h1, p G H v (fun _ _ z => z) c.ext h2⟩
    | ow d =>
      obtain ⟨a, h1, h2, h3⟩ := q
      exact ⟨_, h1, p G H _ (fun _ _ z => z) c.ext ⟨a, rfl, c.new i d a e h1, h2, h3⟩⟩
def sIf (c : Ev → R Bool) (f g : Ev → Out) : Ev → Out := fun env => match c env with
  | .ok b => if b = true then f env else g env
  | .ex x => .ex x
  | .stuck => .stuck
theorem Pus.ite {tc : TT} {t u : TS} {cf : Ev → R Bool} {f g : Ev → Out} (hc : PuT K mg E tc cf) (ha : Pus K mg E t f) (hb : Pus K mg E u g) : Pus K mg E (tIfS tc t u) (sIf cf f g) := by
  intro G0 H0 G H env σ D c p
  unfold sIf at p
  refine hc.thn c.ext.sub c.sl (fun b G1 H1 e x => ?_) (fun x e => by rw [e] at p; exact c.exx (Q := fun _ _ => True) p) (fun e => by rw [e] at p; exact p)
  rw [e] at p
  have p' : PostS K mg E G0 H0 G D (if b = true then f env else g env) := p
  cases b with
  | true => rw [if_pos rfl]; exact ha G0 H0 G1 H1 env σ D (c.ext' x) (PostS.fwd x.gg p')
  | false => rw [if_neg Bool.false_ne_true]; exact hb G0 H0 G1 H1 env σ D (c.ext' x) (PostS.fwd x.gg p')
/-- an own thing is given up where it stands -/
def frzAt (i : Nat) (env : Ev) : Ev := match env[i]? with
  | some (.ow d) => env.set i (.fz d)
  | _ => env
theorem CorS.frz (c : CorS K mg G0 H0 G H env σ) (i : Nat) : ∃ G', Same G G' ∧ CorS K mg G0 H0 G' H (frzAt i env) σ := by
  unfold frzAt
  cases e : env[i]? with
  | none => exact ⟨G, fun _ _ z => z, c⟩
  | some sl =>
    cases sl with
    | no => exact ⟨G, fun _ _ z => z, c⟩
    | fz d => exact ⟨G, fun _ _ z => z, c⟩
    | ow d =>
      obtain ⟨a, h1, h2, h3⟩ := c.sl i _ e
      obtain ⟨o, ho, r⟩ := h3.give h2
      have n := c.new i d a e h1
      have hlt := (List.getElem?_eq_some_iff.mp e).1
      have mo : Same G (upd G a o) := fun b u z => by rw [upd_ne (ne_of_none z h2)]; exact z
      refine ⟨upd G a o, mo, c.ext.give ho h2 n, fun j s h => ?_, by simpa using c.len, fun j e2 b h h' => ?_, fun j k e1 e2 b q1 q2 q3 q4 => ?_⟩
      · by_cases hj : i = j
        · subst hj
          rw [List.getElem?_set_self hlt] at h
          cases h
          exact ⟨_, h1, r⟩
        · rw [List.getElem?_set_ne hj] at h
          have q := c.sl j s h
          cases s with
          | no => trivial
          | fz d' => obtain ⟨v, z1, z2⟩ := q; exact ⟨v, z1, Rep.mono mo z2⟩
          | ow d' =>
            obtain ⟨b, z1, z2, z3⟩ := q
            have nb : b ≠ a := fun z => hj (c.apart i j d d' a e h h1 (by rw [z] at z1; exact z1))
            exact ⟨b, z1, by rw [upd_ne nb]; exact z2, z3.mono mo fun _ _ z => z⟩
      · have hj : i ≠ j := fun z => by subst z; rw [List.getElem?_set_self hlt] at h; cases h
        rw [List.getElem?_set_ne hj] at h
        exact c.new j e2 b h h'
      · have hj : i ≠ j := fun z => by subst z; rw [List.getElem?_set_self hlt] at q1; cases q1
        have hk : i ≠ k := fun z => by subst z; rw [List.getElem?_set_self hlt] at q2; cases q2
        rw [List.getElem?_set_ne hj] at q1
        rw [List.getElem?_set_ne hk] at q2
        exact c.apart j k e1 e2 b q1 q2 q3 q4
def sFrz (i : Nat) (g : Ev → Out) : Ev → Out := fun env => g (frzAt i env)
theorem Pus.frz (i : Nat) {t : TS} {g : Ev → Out} (h : Pus K mg E t g) : Pus K mg E t (sFrz i g) := by
  intro G0 H0 G H env σ D c p
  obtain ⟨G', s, c'⟩ := c.frz i
  exact h G0 H0 G' H _ σ D c' (PostS.fwd s p)
/-! ### targets -/
/-- what a target takes a value apart into: slots and data -/
def setL (env : Ev) : List (Nat × D) → Ev
  | [] => env
  | (i, d) :: r => setL (env.set i (.fz d)) r
def setV (σ : L2.St) : List (Nat × V) → L2.St
  | [] => σ
  | (i, v) :: r => setV (σ.set i (some v)) r
inductive RepT (K : PySem.W.Frag) (mg : MG) (G : Hp) : List (Nat × V) → List (Nat × D) → Prop
  | nil : RepT K mg G [] []
  | cons {i : Nat} {v : V} {d : D} {vs : List (Nat × V)} {ds : List (Nat × D)} : Rep K mg G v d → RepT K mg G vs ds → RepT K mg G ((i, v) :: vs) ((i, d) :: ds)
theorem RepT.append : ∀ {vs ws : List (Nat × V)} {ds es : List (Nat × D)}, RepT K mg G vs ds → RepT K mg G ws es → RepT K mg G (vs ++ ws) (ds ++ es)
  | _, _, _, _, .nil, s => s
  | _, _, _, _, .cons h r, s => .cons h (RepT.append r s)
theorem CorS.setL : ∀ {vs : List (Nat × V)} {ds : List (Nat × D)} {env : Ev} {σ : L2.St}, CorS K mg G0 H0 G H env σ → RepT K mg G vs ds → CorS K mg G0 H0 G H (PL.setL env ds) (setV σ vs)
  | _, _, _, _, c, .nil => c
  | _, _, _, _, c, .cons (i := i) h r => CorS.setL (env := List.set _ i _) (σ := List.set _ i _) (c.fz i h) r
theorem setV_append : ∀ (vs ws : List (Nat × V)) (σ : L2.St), setV σ (vs ++ ws) = setV (setV σ vs) ws
  | [], _, _ => rfl
  | (i, v) :: r, ws, σ => setV_append r ws (σ.set i (some v))
def PuG (K : PySem.W.Frag) (mg : MG) (t : TG) (put : D → Option (List (Nat × D))) : Prop := ∀ (G H : Hp) (σ : L2.St) (v : V) (d : D) (l : List (Nat × D)) (Q : L2.St → Hp → Prop), Same G H → Rep K mg G v d → put d = some l →
  (∀ vs, RepT K mg G vs l → Q (setV σ vs) H) → t v σ H Q
def PuGs (K : PySem.W.Frag) (mg : MG) (t : TGs) (put : List D → Option (List (Nat × D))) : Prop := ∀ (G H : Hp) (σ : L2.St) (vs : List V) (ds : List D) (l : List (Nat × D)) (Q : L2.St → Hp → Prop), Same G H → RepA K mg G vs ds → put ds = some l →
  (∀ ws, RepT K mg G ws l → Q (setV σ ws) H) → t vs σ H Q
def gN (i : Nat) : D → Option (List (Nat × D)) := fun d => some [(i, d)]
def gNil' : List D → Option (List (Nat × D)) := fun ds => match ds with
  | [] => some []
  | _ => none
def gCons' (p : D → Option (List (Nat × D))) (q : List D → Option (List (Nat × D))) : List D → Option (List (Nat × D)) := fun ds => match ds with
  | d :: r => match p d, q r with
    | some a, some b => some (a ++ b)
    | _, _ => none
  | [] => none
def gT (n : Nat) (q : List D → Option (List (Nat × D))) : D → Option (List (Nat × D)) := fun d => match d with
  | .tup ds => if ds.length = n then q ds else none
  | _ => none
theorem PuG.name (i : Nat) : PuG K mg (gName i) (gN i) := fun G H σ v d l Q s r e h => by
  cases e
  exact h [(i, v)] (.cons r .nil)
theorem PuGs.nil : PuGs K mg gNil gNil' := fun G H σ vs ds l Q s r e h => by
  cases r with
  | nil => cases e; exact ⟨rfl, h [] .nil⟩
  | cons _ _ => cases e
theorem PuGs.cons {t : TG} {u : TGs} {p : D → Option (List (Nat × D))} {q : List D → Option (List (Nat × D))} (ha : PuG K mg t p) (hb : PuGs K mg u q) : PuGs K mg (gCons t u) (gCons' p q) := fun G H σ vs ds l Q s r e h => by
  cases r with
  | nil => cases e
  | cons r1 r2 =>
    rename_i v vs d ds
    unfold gCons' at e
    dsimp only at e
    cases e1 : p d with
    | none => rw [e1] at e; cases e
    | some a =>
      cases e2 : q ds with
      | none => rw [e1, e2] at e; cases e
      | some b =>
        rw [e1, e2] at e
        cases e
        refine ⟨v, vs, rfl, ha G H σ v d a _ s r1 e1 fun ws rw_ => hb G H _ vs ds b _ s r2 e2 fun ws2 rw2 => ?_⟩
        rw [← setV_append]
        exact h _ (rw_.append rw2)
theorem PuG.tup {n : Nat} {t : TGs} {q : List D → Option (List (Nat × D))} (h : PuGs K mg t q) : PuG K mg (gTup K n t) (gT n q) := fun G H σ v d l Q s r e k => by
  unfold gT at e
  cases d with
  | tup ds =>
    have e' : (if ds.length = n then q ds else none) = some l := e
    cases r with
    | tup hs ra =>
      by_cases hn : ds.length = n
      · rw [if_pos hn] at e'
        exact ⟨_, _, rfl, Same.tup s hs, ra.length.trans hn, h G H σ _ ds l Q s ra e' k⟩
      · rw [if_neg hn] at e'; cases e'
  | _ => cases e
/-- a, b = e -/
def sAsg (put : D → Option (List (Nat × D))) (f : Ev → R Rs) : Ev → Out := fun env => match fzR (f env) with
  | .ok d => match put d with
    | some l => .nx (setL env l)
    | none => .stuck
  | .ex x => .ex x
  | .stuck => .stuck
theorem Pus.asg {te : TE} {tg : TG} {f : Ev → R Rs} {put : D → Option (List (Nat × D))} (ha : Pu K mg E te f) (hg : PuG K mg tg put) : Pus K mg E (tAsg te tg) (sAsg put f) := by
  intro G0 H0 G H env σ D c p
  unfold sAsg at p
  refine ha.fz c.ext.sub c.sl ?_
  cases e : fzR (f env) with
  | ok d =>
    rw [e] at p
    have p' : PostS K mg E G0 H0 G D (match put d with | some l => Out.nx (setL env l) | none => Out.stuck) := p
    intro G1 H1 v x r
    cases e2 : put d with
    | none => rw [e2] at p'; exact p'.elim
    | some l =>
      rw [e2] at p'
      exact hg G1 H1 σ v d l _ x.sub r e2 fun vs rt => p' G1 H1 _ x.gg ((c.ext' x).setL rt)
  | ex x => rw [e] at p; exact c.exx (Q := fun _ _ => True) p
  | stuck => rw [e] at p; exact p.elim
/-! ### loops -/
/-- J walks over ds as long as all of G stands -/
structure Wks (K : PySem.W.Frag) (mg : MG) (J : It) (G : Hp) (ds : List D) : Prop where
  go : ∀ i H, i < ds.length → Same G H → J.go i H
  stop : ∀ H, Same G H → J.stop ds.length H
  yld : ∀ i G1 H1 x H' d, Same G G1 → Same G1 H1 → ds[i]? = some d → J.yld i H1 x H' → ∃ G', Ext G1 H1 G' H' ∧ Rep K mg G' x d
def PostI (K : PySem.W.Frag) (mg : MG) (E : XK) (G H : Hp) (R' : It → Hp → Prop) : R (List D) → Prop
  | .ok ds => ∀ G' H' J, Ext G H G' H' → Wks K mg J G' ds → R' J H'
  | .ex x => x.fs = none ∧ ∀ u G' H', mg x.cls = some u → Ext G H G' H' → E u none H'
  | .stuck => False
def PuI (K : PySem.W.Frag) (mg : MG) (E : XK) (wi : TI) (f : Ev → R (List D)) : Prop := ∀ (G H : Hp) (env : Ev) (σ : L2.St) (R' : It → Hp → Prop), Same G H → CorE K mg G H env σ → PostI K mg E G H R' (f env) → wi σ H R'
def forL (put : D → Option (List (Nat × D))) (body : Ev → Out) : List D → Ev → Out
  | [], env => .nx env
  | d :: ds, env => match put d with
    | none => .stuck
    | some l => match body (setL env l) with
      | .nx env' => forL put body ds env'
      | .ct env' => forL put body ds env'
      | .bk env' => .nx env'
      | .rt r => .rt r
      | .ex x => .ex x
      | .stuck => .stuck
def sFor (put : D → Option (List (Nat × D))) (f : Ev → R (List D)) (body : Ev → Out) : Ev → Out := fun env => match f env with
  | .ok ds => forL put body ds env
  | .ex x => .ex x
  | .stuck => .stuck
theorem Pus.for_ {wi : TI} {tg : TG} {tb : TS} {f : Ev → R (List D)} {put : D → Option (List (Nat × D))} {body : Ev → Out} (hi : PuI K mg E wi f) (hg : PuG K mg tg put) (hb : Pus K mg E tb body) : Pus K mg E (tFor wi tg tb) (sFor put f body) := by
  intro G0 H0 G H env σ D c p
  unfold sFor at p
  refine hi G H env σ _ c.ext.sub c.sl ?_
  cases e : f env with
  | ok ds =>
    rw [e] at p
    have p' : PostS K mg E G0 H0 G D (forL put body ds env) := p
    intro G1 H1 J x wk
    let Inv : Nat → L2.St → Hp → Prop := fun i σ2 H2 => ∃ G2 env2, Same G1 G2 ∧ CorS K mg G0 H0 G2 H2 env2 σ2 ∧ PostS K mg E G0 H0 G2 D (forL put body (ds.drop i) env2)
    refine ⟨fun i m σ2 H2 => m = ds.length - i ∧ i ≤ ds.length ∧ Inv i σ2 H2, ⟨ds.length, by simp, Nat.zero_le _, G1, env, fun _ _ z => z, c.ext' x, PostS.fwd x.gg p'⟩, ?_⟩
    rintro i m σ2 H2 ⟨rfl, hi2, G2, env2, s2, c2, p2⟩
    have s12 : Same G1 H2 := fun a o z => c2.ext.sub a o (s2 a o z)
    by_cases hlt : i < ds.length
    · refine .inr ⟨wk.go i H2 hlt s12, Inv (i + 1), fun σ' H' h' => ⟨ds.length - (i + 1), by omega, rfl, hlt, h'⟩, fun xv H3 hy => ?_⟩
      have hd : ds[i]? = some ds[i] := by simp [hlt]
      obtain ⟨G3, x3, r3⟩ := wk.yld i G2 H2 xv H3 ds[i] s2 c2.ext.sub hd hy
      have ed : ds.drop i = ds[i] :: ds.drop (i + 1) := (List.getElem_cons_drop hlt).symm
      rw [ed] at p2
      unfold forL at p2
      cases e2 : put ds[i] with
      | none => rw [e2] at p2; exact p2.elim
      | some l =>
        rw [e2] at p2
        refine hg G3 H3 σ2 xv ds[i] l _ x3.sub r3 e2 fun vs rt => ?_
        refine hb G0 H0 G3 H3 (setL env2 l) _ _ ((c2.ext' x3).setL rt) ?_
        have p3 := PostS.fwd x3.gg p2
        dsimp only at p3
        cases e3 : body (setL env2 l) with
        | nx env' => rw [e3] at p3; exact fun G' H' σ' s c' => ⟨G', env', fun a o z => s a o (x3.gg a o (s2 a o z)), c', PostS.fwd s p3⟩
        | ct env' => rw [e3] at p3; exact fun G' H' σ' s c' => ⟨G', env', fun a o z => s a o (x3.gg a o (s2 a o z)), c', PostS.fwd s p3⟩
        | bk env' => rw [e3] at p3; exact p3
        | rt r => rw [e3] at p3; exact p3
        | ex x => rw [e3] at p3; exact p3
        | stuck => rw [e3] at p3; exact p3
    · have ei : i = ds.length := by omega
      subst ei
      rw [List.drop_length] at p2
      exact .inl ⟨wk.stop H2 s12, p2 G2 H2 σ2 (fun _ _ z => z) c2⟩
  | ex x => rw [e] at p; exact c.exx (Q := fun _ _ => True) p
  | stuck => rw [e] at p; exact p.elim
/-! while: so many turns at most -/
def whF (cond : Ev → R Bool) (body : Ev → Out) : Nat → Ev → Out
  | 0, _ => .stuck
  | n + 1, env => match cond env with
    | .ok b => if b = true then (match body env with
      | .nx env' => whF cond body n env'
      | .ct env' => whF cond body n env'
      | .bk env' => .nx env'
      | .rt r => .rt r
      | .ex x => .ex x
      | .stuck => .stuck) else .nx env
    | .ex x => .ex x
    | .stuck => .stuck
open Classical in
noncomputable def sWh (cond : Ev → R Bool) (body : Ev → Out) : Ev → Out := fun env => if h : ∃ n, whF cond body n env ≠ .stuck then whF cond body (Classical.choose h) env else .stuck
theorem Pus.whileF {tc : TT} {tb : TS} {cond : Ev → R Bool} {body : Ev → Out} (hc : PuT K mg E tc cond) (hb : Pus K mg E tb body) (n : Nat) : Pus K mg E (tWhile tc tb) (whF cond body n) := by
  intro G0 H0 G H env σ D c p
  refine ⟨fun m σ2 H2 => ∃ G2 env2, Same G G2 ∧ CorS K mg G0 H0 G2 H2 env2 σ2 ∧ PostS K mg E G0 H0 G2 D (whF cond body m env2), ⟨n, G, env, fun _ _ z => z, c, p⟩, ?_⟩
  rintro m σ2 H2 ⟨G2, env2, s2, c2, p2⟩
  cases m with
  | zero => exact p2.elim
  | succ m =>
    unfold whF at p2
    refine hc.thn c2.ext.sub c2.sl (fun b G1 H1 e x => ?_) (fun x e => by rw [e] at p2; exact c2.exx (Q := fun _ _ => True) p2) (fun e => by rw [e] at p2; exact p2)
    rw [e] at p2
    cases b with
    | true =>
      rw [if_pos rfl]
      dsimp only at p2
      rw [if_pos rfl] at p2
      refine ⟨fun σ' H' => ∃ G3 env3, Same G G3 ∧ CorS K mg G0 H0 G3 H' env3 σ' ∧ PostS K mg E G0 H0 G3 D (whF cond body m env3), fun σ' H' h => ⟨m, Nat.lt_succ_self m, h⟩, ?_⟩
      refine hb G0 H0 G1 H1 env2 σ2 _ (c2.ext' x) ?_
      have p3 := PostS.fwd x.gg p2
      cases e3 : body env2 with
      | nx env' => rw [e3] at p3; exact fun G' H' σ' s c' => ⟨G', env', fun a o z => s a o (x.gg a o (s2 a o z)), c', PostS.fwd s p3⟩
      | ct env' => rw [e3] at p3; exact fun G' H' σ' s c' => ⟨G', env', fun a o z => s a o (x.gg a o (s2 a o z)), c', PostS.fwd s p3⟩
      | bk env' => rw [e3] at p3; exact p3
      | rt r => rw [e3] at p3; exact p3
      | ex x => rw [e3] at p3; exact p3
      | stuck => rw [e3] at p3; exact p3
    | false =>
      rw [if_neg Bool.false_ne_true]
      dsimp only at p2
      rw [if_neg Bool.false_ne_true] at p2
      exact p2 G1 H1 σ2 x.gg (c2.ext' x)
theorem Pus.while_ {tc : TT} {tb : TS} {cond : Ev → R Bool} {body : Ev → Out} (hc : PuT K mg E tc cond) (hb : Pus K mg E tb body) : Pus K mg E (tWhile tc tb) (sWh cond body) := by
  intro G0 H0 G H env σ D c p
  unfold sWh at p
  split at p
  · exact Pus.whileF hc hb _ G0 H0 G H env σ D c p
  · exact p.elim
theorem whF_more {cond : Ev → R Bool} {body : Ev → Out} : ∀ {n : Nat} {env : Ev}, whF cond body n env ≠ .stuck → whF cond body (n + 1) env = whF cond body n env
  | 0, _, h => absurd rfl h
  | n + 1, env, h => by
    have ih := fun env' => whF_more (cond := cond) (body := body) (n := n) (env := env')
    conv => lhs; unfold whF
    conv => rhs; unfold whF
    conv at h => unfold whF
    cases e : cond env with
    | ok b =>
      rw [e] at h
      cases b with
      | true =>
        simp only [if_true] at h ⊢
        cases e2 : body env with
        | nx env' => rw [e2] at h; exact ih env' h
        | ct env' => rw [e2] at h; exact ih env' h
        | bk env' => rfl
        | rt r => rfl
        | ex x => rfl
        | stuck => rfl
      | false => rfl
    | ex x => rfl
    | stuck => rfl
theorem whF_le {cond : Ev → R Bool} {body : Ev → Out} {n m : Nat} {env : Ev} (h : whF cond body n env ≠ .stuck) (l : n ≤ m) : whF cond body m env = whF cond body n env := by
  induction l with
  | refl => rfl
  | step _ ih => rw [whF_more (by rw [ih]; exact h), ih]
theorem sWh_of {cond : Ev → R Bool} {body : Ev → Out} {n : Nat} {env : Ev} {o : Out} (h : whF cond body n env = o) (ho : o ≠ .stuck) : sWh cond body env = o := by
  have hx : ∃ n, whF cond body n env ≠ .stuck := ⟨n, by rw [h]; exact ho⟩
  unfold sWh
  rw [dif_pos hx]
  have hc := Classical.choose_spec hx
  rcases Nat.le_total n (Classical.choose hx) with l | l
  · rw [whF_le (by rw [h]; exact ho) l, h]
  · rw [← whF_le hc l, h]
/-- the turn's equation: by it a while is reckoned -/
theorem sWh_step {cond : Ev → R Bool} {body : Ev → Out} {env env' : Ev} {o : Out} (hc : cond env = .ok true) (hb : body env = .nx env') (h : sWh cond body env' = o) (ho : o ≠ .stuck) : sWh cond body env = o := by
  unfold sWh at h
  split at h
  · rename_i hx
    refine sWh_of (n := Classical.choose hx + 1) ?_ ho
    unfold whF
    rw [hc]
    simp only [if_true]
    rw [hb]
    exact h
  · exact absurd h.symm ho
theorem sWh_end {cond : Ev → R Bool} {body : Ev → Out} {env : Ev} (hc : cond env = .ok false) : sWh cond body env = .nx env := by
  refine sWh_of (n := 1) ?_ (by intro z; cases z)
  unfold whF
  rw [hc]
  rfl
end
end PL

set_option Elab.async false
set_option linter.all false
set_option maxRecDepth 100000
set_option maxHeartbeats 4000000
/-! PURE LAYER, operations by values. -/
namespace PL
open PySem PySem.Spec PyProof.Rows L2
theorem opR_or {X : Cx} {f : Value → Value → Sem Value} {r r' : R2} (h : OpR X f r) (h' : OpR X f r') : OpR X f (fun x y H Q => r x y H Q ∨ r' x y H Q) := by
  intro pins s σ H x y v u Q I rx ry q
  rcases q with q | q
  · exact h pins s σ H x y v u Q I rx ry q
  · exact h' pins s σ H x y v u Q I rx ry q
theorem callR_or {X : Cx} {f : Value} {r r' : List V → Hp → VK → Prop} (h : CallR X f r) (h' : CallR X f r') : CallR X f (fun x H Q => r x H Q ∨ r' x H Q) := by
  intro pins s σ H xs us Q I rx q
  rcases q with q | q
  · exact h pins s σ H xs us Q I rx q
  · exact h' pins s σ H xs us Q I rx q
/-! ### + -/
def rCatL (K : PySem.W.Frag) : R2 := fun x y H Q => ∃ a b xs ys, x = .ref a ∧ y = .ref b ∧ SqL K H a xs ∧ SqL K H b ys ∧ xs.length + ys.length ≤ sizeLine ∧ ∀ p, H p = none → Q (.ref p) (upd H p (.lst (xs ++ ys)))
theorem op_catL {X : Cx} : OpR X (binaryOp .Add) (rCatL X.K) := by
  intro pins s σ H x y v u Q I rx ry h
  obtain ⟨l, b, xs, zs, rfl, rfl, hH, hB, hz, q⟩ := h
  cases rx
  cases ry
  obtain ⟨its, r, ⟨⟨cls, dd, data, sl⟩, n, ho, hc, hdd, hd⟩, z⟩ := I.list hH
  obtain ⟨its2, r2, ⟨⟨cls2, dd2, data2, sl2⟩, n2, ho2, hc2, hdd2, hd2⟩, z2⟩ := I.list hB
  simp only at hc hd hc2 hd2 hdd hdd2
  subst hc hd hc2 hd2
  have e1 := r.length
  have e2 := r2.length
  refine concat_meets ⟨_, ho, rfl⟩ ⟨_, ho2, rfl⟩ noFill_list_add seq_list_add PySem.F.slot_list_add PySem.F.entry_list_add (PySem.F.args_list_add_2 _ _) (list_addW l b its.toArray its2.toArray n n2 dd dd2 sl sl2 (by simp only [List.size_toArray]; omega)) ⟨ho, ho2, ?_⟩
  have ea : its.toArray ++ its2.toArray = (its ++ its2).toArray := by simp
  rw [ea]
  exact ⟨.ref _, _, I.lnew (t' := s.toks) (r.append r2) (by rw [List.length_append]; omega), rfl, q _ I.fresh⟩
/-! ### data as the library's data -/
mutual
def D.toPy : D → PyData
  | .non => .none
  | .bl b => .bool b
  | .int i => .int i
  | .str s => .str s
  | .lst xs => .list (D.toPyA xs)
  | .tup xs => .tuple (D.toPyA xs)
  | .dic _ => .none
  | .obj _ _ => .none
def D.toPyA : List D → List PyData
  | [] => []
  | x :: xs => D.toPy x :: D.toPyA xs
end
/-! comparable as data: plain (no dict, no object), not deeper than n -/
mutual
def D.pl : Nat → D → Bool
  | _, .non => true
  | _, .bl _ => true
  | _, .int _ => true
  | _, .str s => PyData.strOk s
  | 0, _ => false
  | n + 1, .lst xs => D.plA n xs
  | n + 1, .tup xs => D.plA n xs
  | _, .dic _ => false
  | _, .obj _ _ => false
def D.plA : Nat → List D → Bool
  | _, [] => true
  | n, x :: xs => D.pl n x && D.plA n xs
end
mutual
theorem D.pl_lay : ∀ {n : Nat} {d : D}, D.pl n d = true → (D.toPy d).canLay0 = true ∧ (D.toPy d).depth ≤ n
  | n, .non, h => by simp [D.toPy, PyData.canLay0, PyData.depth]
  | n, .bl _, h => by simp [D.toPy, PyData.canLay0, PyData.depth]
  | n, .int _, h => by simp [D.toPy, PyData.canLay0, PyData.depth]
  | n, .str s, h => by
    have h' : PyData.strOk s = true := by simpa [D.pl] using h
    simp [D.toPy, PyData.canLay0, PyData.depth, h']
  | 0, .lst xs, h => by simp [D.pl] at h
  | 0, .tup xs, h => by simp [D.pl] at h
  | 0, .dic xs, h => by simp [D.pl] at h
  | 0, .obj _ xs, h => by simp [D.pl] at h
  | n + 1, .lst xs, h => by
    have q := D.pl_layA (n := n) (ds := xs) (by simpa [D.pl] using h)
    simp only [D.toPy, PyData.canLay0, PyData.depth]
    exact ⟨q.1, by omega⟩
  | n + 1, .tup xs, h => by
    have q := D.pl_layA (n := n) (ds := xs) (by simpa [D.pl] using h)
    simp only [D.toPy, PyData.canLay0, PyData.depth]
    exact ⟨q.1, by omega⟩
  | n + 1, .dic xs, h => by simp [D.pl] at h
  | n + 1, .obj _ xs, h => by simp [D.pl] at h
theorem D.pl_layA : ∀ {n : Nat} {ds : List D}, D.plA n ds = true → PyData.canLayAll0 (D.toPyA ds) = true ∧ PyData.depthAll (D.toPyA ds) ≤ n
  | n, [], h => by simp [D.toPyA, PyData.canLayAll0, PyData.depthAll]
  | n, x :: xs, h => by
    simp only [D.plA, Bool.and_eq_true] at h
    have q1 := D.pl_lay h.1
    have q2 := D.pl_layA h.2
    simp only [D.toPyA, PyData.canLayAll0, PyData.depthAll, q1.1, q2.1, Bool.and_self, true_and]
    omega
end
theorem D.pl_shaped {d : D} (h : D.pl 60 d = true) : SeqAt.shaped (D.toPy d) = true := by
  have q := D.pl_lay h
  unfold SeqAt.shaped
  rw [q.1, Bool.true_and]
  exact decide_eq_true (by omega)
section
variable {K : PySem.W.Frag} {mg : MG} {E : XK} {G H : Hp} {v w : V} {d e : D}
mutual
theorem Rep.dp : ∀ {n : Nat} {v : V} {d : D}, D.pl n d = true → Rep K mg H v d → Dp K H v (D.toPy d)
  | _, _, _, _, .non => by simp only [D.toPy]; exact .non
  | _, _, _, _, .bl b => by simp only [D.toPy]; exact .bl b
  | _, _, _, _, .int b => by simp only [D.toPy]; exact .int b
  | _, _, _, _, .str b => by simp only [D.toPy]; exact .str b
  | 0, _, _, h, .lst _ _ => by simp [D.pl] at h
  | 0, _, _, h, .tup _ _ => by simp [D.pl] at h
  | n + 1, _, _, h, .lst s r => by
    simp only [D.toPy]
    exact .lst s (RepA.dp (n := n) (by simpa [D.pl] using h) r)
  | n + 1, _, _, h, .tup s r => by
    simp only [D.toPy]
    exact .tup s (RepA.dp (n := n) (by simpa [D.pl] using h) r)
  | 0, _, _, h, .dic _ _ => by simp [D.pl] at h
  | n + 1, _, _, h, .dic _ _ => by simp [D.pl] at h
  | 0, _, _, h, .obj _ _ _ => by simp [D.pl] at h
  | n + 1, _, _, h, .obj _ _ _ => by simp [D.pl] at h
theorem RepA.dp : ∀ {n : Nat} {v : List V} {d : List D}, D.plA n d = true → RepA K mg H v d → DpAll K H v (D.toPyA d)
  | _, _, _, _, .nil => by simp only [D.toPyA]; exact .nil
  | _, _, _, h, .cons r rs => by
    simp only [D.plA, Bool.and_eq_true] at h
    simp only [D.toPyA]
    exact .cons (Rep.dp h.1 r) (RepA.dp h.2 rs)
end
def eqB (d e : D) : Bool := PyData.eqv (D.toPy d) (D.toPy e)
def eqD (d e : D) : R Rs := if D.pl 60 d && D.pl 60 e then .ok (.fz (.bl (eqB d e))) else .stuck
def neD (d e : D) : R Rs := if D.pl 60 d && D.pl 60 e then .ok (.fz (.bl (!eqB d e))) else .stuck
theorem pop_eq : POp K mg E (rEqD K) eqD := by
  intro G H v w d e Q s h1 h2 p
  unfold eqD at p
  by_cases c : (D.pl 60 d && D.pl 60 e) = true
  · rw [if_pos c] at p
    rw [Bool.and_eq_true] at c
    exact ⟨_, _, Rep.dp c.1 (h1.repH s), Rep.dp c.2 (h2.repH s), D.pl_shaped c.1, D.pl_shaped c.2, p G H _ (Ext.refl s) (.bl _)⟩
  · rw [if_neg c] at p; exact p.elim
theorem pop_ne : POp K mg E (rNeD K) neD := by
  intro G H v w d e Q s h1 h2 p
  unfold neD at p
  by_cases c : (D.pl 60 d && D.pl 60 e) = true
  · rw [if_pos c] at p
    rw [Bool.and_eq_true] at c
    exact ⟨_, _, Rep.dp c.1 (h1.repH s), Rep.dp c.2 (h2.repH s), D.pl_shaped c.1, D.pl_shaped c.2, p G H _ (Ext.refl s) (.bl _)⟩
  · rw [if_neg c] at p; exact p.elim
/-! ### numbers -/
def int2 (g : Int → Int → R Rs) : D → D → R Rs := fun d e => match d, e with
  | .int i, .int j => g i j
  | _, _ => .stuck
def okI (i : Int) : R Rs := .ok (.fz (.int i))
def okB (b : Bool) : R Rs := .ok (.fz (.bl b))
def okS (b : Str) : R Rs := .ok (.fz (.str b))
theorem pop_int {r : R2} {g : Int → Int → R Rs} (h : ∀ G H i j Q, Same G H → Post K mg E G H Q (g i j) → r (.int i) (.int j) H Q) : POp K mg E r (int2 g) := by
  intro G H v w d e Q s h1 h2 p
  cases d <;> cases e <;> first
    | exact p.elim
    | (cases h1.int; cases h2.int; exact h G H _ _ Q s p)
theorem post_int {G H : Hp} {Q : VK} {i : Int} (s : Same G H) (p : Post K mg E G H Q (okI i)) : Q (.int i) H := p G H _ (Ext.refl s) (.int i)
theorem post_bl {G H : Hp} {Q : VK} {i : Bool} (s : Same G H) (p : Post K mg E G H Q (okB i)) : Q (.bl i) H := p G H _ (Ext.refl s) (.bl i)
theorem post_str {G H : Hp} {Q : VK} {i : Str} (s : Same G H) (p : Post K mg E G H Q (okS i)) : Q (.str i) H := p G H _ (Ext.refl s) (.str i)
theorem pop_or {r r' : R2} {g : D → D → R Rs} {c : D → D → Bool} (h : POp K mg E r (fun d e => if c d e then g d e else .stuck)) (h' : POp K mg E r' (fun d e => if c d e then .stuck else g d e)) : POp K mg E (fun x y H Q => r x y H Q ∨ r' x y H Q) g := by
  intro G H v w d e Q s h1 h2 p
  cases q : c d e with
  | true =>
    left
    refine h G H v w d e Q s h1 h2 ?_
    show Post K mg E G H Q (if c d e = true then g d e else .stuck)
    rw [if_pos q]; exact p
  | false =>
    right
    refine h' G H v w d e Q s h1 h2 ?_
    show Post K mg E G H Q (if c d e = true then .stuck else g d e)
    rw [if_neg (by rw [q]; exact Bool.false_ne_true)]; exact p
noncomputable def mulI (i j : Int) : R Rs := need (i.natAbs.log2 + j.natAbs.log2 < 1000000) (okI (i * j))
noncomputable def fdivI (i j : Int) : R Rs := need (0 < j ∧ j.natAbs.log2 < 9000) (okI (i / j))
noncomputable def modI (i j : Int) : R Rs := need (0 < j) (okI (i % j))
noncomputable def powI (i j : Int) : R Rs := need (0 ≤ j ∧ j ≤ 1000000 ∧ i.natAbs < 2 ^ 64) (okI (i ^ j.toNat))
noncomputable def addD : D → D → R Rs := fun d e => match d, e with
  | .int i, .int j => okI (i + j)
  | .str a, .str b => need (a.length + b.length ≤ sizeLine) (okS (a ++ b))
  | .tup a, .tup b => need (a.length + b.length ≤ sizeLine) (.ok (.fz (.tup (a ++ b))))
  | .lst a, .lst b => need (a.length + b.length ≤ sizeLine) (.ok (.ow (.lst (a ++ b))))
  | _, _ => .stuck
def rAddA (K : PySem.W.Frag) : R2 := fun x y H Q => (((∃ i j, x = .int i ∧ y = .int j ∧ Q (.int (i + j)) H) ∨ (∃ i j, x = .str i ∧ y = .str j ∧ i.length + j.length ≤ sizeLine ∧ Q (.str (i ++ j)) H)) ∨ rCatA K x y H Q) ∨ rCatL K x y H Q
theorem pop_add : POp K mg E (rAddA K) addD := by
  intro G H v w d e Q s h1 h2 p
  unfold addD at p
  cases d <;> cases e <;> first
    | exact p.elim
    | skip
  · cases h1.int; cases h2.int; exact .inl (.inl (.inl ⟨_, _, rfl, rfl, post_int s p⟩))
  · rename_i a b
    cases h1.str; cases h2.str
    obtain ⟨c, p⟩ := post_need p
    exact .inl (.inl (.inr ⟨_, _, rfl, rfl, c, post_str s p⟩))
  · rename_i a b
    obtain ⟨p1, vs, rfl, hs1, g1, r1⟩ := h1.lst' s
    obtain ⟨p2, ws, rfl, hs2, g2, r2⟩ := h2.lst' s
    obtain ⟨c, p⟩ := post_need p
    · skip
      refine .inr ⟨p1, p2, vs, ws, rfl, rfl, hs1, hs2, by rw [r1.length, r2.length]; exact c, fun q hq => ?_⟩
      exact p _ _ _ (Ext.own s hq) ⟨q, rfl, hq, s.free hq, _, upd_same, r1.append r2⟩
  · rename_i a b
    obtain ⟨p1, vs, rfl, hs1, g1, r1⟩ := h1.tup s
    obtain ⟨p2, ws, rfl, hs2, g2, r2⟩ := h2.tup s
    obtain ⟨c, p⟩ := post_need p
    · skip
      refine .inl (.inr ⟨p1, p2, vs, ws, rfl, rfl, hs1, hs2, by rw [r1.length, r2.length]; exact c, fun e => ?_, fun _ e => ?_, fun _ _ q hq => ?_⟩)
      · subst e
        cases r1
        exact p G H _ (Ext.refl s) (.tup g2 r2)
      · subst e
        cases r2
        rw [List.append_nil] at p
        exact p G H _ (Ext.refl s) (.tup g1 r1)
      · have xn := Ext.new (o := HO.tup (vs ++ ws)) s hq
        exact p _ _ _ xn (.tup (SqT.of upd_same) (RepA.mono xn.gg (r1.append r2)))
abbrev subD := int2 fun i j => okI (i - j)
noncomputable abbrev mulD := int2 mulI
noncomputable abbrev fdivD := int2 fdivI
noncomputable abbrev modD := int2 modI
noncomputable abbrev powD := int2 powI
abbrev ltI := int2 fun i j => okB (decide (i < j))
abbrev leI := int2 fun i j => okB (decide (i ≤ j))
abbrev gtI := int2 fun i j => okB (decide (j < i))
abbrev geI := int2 fun i j => okB (decide (j ≤ i))
theorem pop_sub : POp K mg E (rI0 fun i j => .int (i - j)) subD := pop_int fun G H i j Q s p => ⟨i, j, rfl, rfl, post_int s p⟩
theorem pop_mul : POp K mg E (rI CMulW fun i j => .int (i * j)) mulD := pop_int fun G H i j Q s p => by
  unfold mulI at p
  obtain ⟨c, p⟩ := post_need p
  exact ⟨i, j, rfl, rfl, c, post_int s p⟩
theorem pop_fdiv : POp K mg E (rI CDivW fun i j => .int (i / j)) fdivD := pop_int fun G H i j Q s p => by
  unfold fdivI at p
  obtain ⟨c, p⟩ := post_need p
  exact ⟨i, j, rfl, rfl, c, post_int s p⟩
theorem pop_mod : POp K mg E (rI (fun _ j => 0 < j) fun i j => .int (i % j)) modD := pop_int fun G H i j Q s p => by
  unfold modI at p
  obtain ⟨c, p⟩ := post_need p
  exact ⟨i, j, rfl, rfl, c, post_int s p⟩
theorem pop_pow : POp K mg E (rI CPow fun i j => .int (i ^ j.toNat)) powD := pop_int fun G H i j Q s p => by
  unfold powI at p
  obtain ⟨c, p⟩ := post_need p
  exact ⟨i, j, rfl, rfl, c, post_int s p⟩
theorem pop_lt : POp K mg E (rI0 fun i j => .bl (decide (i < j))) ltI := pop_int fun G H i j Q s p => ⟨i, j, rfl, rfl, post_bl s p⟩
theorem pop_le : POp K mg E (rI0 fun i j => .bl (decide (i ≤ j))) leI := pop_int fun G H i j Q s p => ⟨i, j, rfl, rfl, post_bl s p⟩
theorem pop_gt : POp K mg E (rI0 fun i j => .bl (decide (j < i))) gtI := pop_int fun G H i j Q s p => ⟨i, j, rfl, rfl, post_bl s p⟩
theorem pop_ge : POp K mg E (rI0 fun i j => .bl (decide (j ≤ i))) geI := pop_int fun G H i j Q s p => ⟨i, j, rfl, rfl, post_bl s p⟩
def negD (d : D) : R Rs := match d with
  | .int i => okI (-i)
  | _ => .stuck
theorem pop_neg : POp1 K mg E (rU fun i => .int (-i)) negD := by
  intro G H v d Q s h p
  cases d <;> first
    | exact p.elim
    | (cases h.int; exact ⟨_, rfl, post_int s p⟩)
/-! ### is None -/
def isND (d : D) : R Rs := okB (match d with | .non => true | _ => false)
def isNN (d : D) : R Rs := okB (match d with | .non => false | _ => true)
theorem rep_non : ∀ {d : D}, Rd1 K mg G H v d → (decide (v = .non)) = (match d with | .non => true | _ => false) := by
  intro d h
  rcases h with h | ⟨a, e, _, o⟩
  · cases h <;> simp
  · subst e
    cases d <;> first
      | exact o.elim
      | simp
theorem Pu.isN {ta : TE} {f : Ev → R Rs} (ha : Pu K mg E ta f) : Pu K mg E (tIsN ta) (xUn isND f) := by
  intro G H env σ Q s c p
  refine ha.thn s c p fun r G1 H1 v e x rr p1 => ?_
  have q := rep_non rr.rd
  show Q (.bl (decide (v = .non))) H1
  rw [q]
  exact post_bl x.sub p1
theorem Pu.notN {ta : TE} {f : Ev → R Rs} (ha : Pu K mg E ta f) : Pu K mg E (tNotN ta) (xUn isNN f) := by
  intro G H env σ Q s c p
  refine ha.thn s c p fun r G1 H1 v e x rr p1 => ?_
  have q := rep_non rr.rd
  show Q (.bl (!decide (v = .non))) H1
  rw [q]
  have e : (!(match r.d with | .non => true | _ => false)) = (match r.d with | .non => false | _ => true) := by cases r.d <;> rfl
  rw [e]
  exact post_bl x.sub p1
/-! ### isinstance by a built-in class -/
def kindD : D → Option String
  | .non => some "NoneType"
  | .bl _ => some "bool"
  | .int _ => some "int"
  | .str _ => some "str"
  | .lst _ => some "list"
  | .tup _ => some "tuple"
  | .dic _ => some "dict"
  | .obj _ _ => none
theorem tyx_seq {a : Addr} {xs : List V} (h : SqL K H a xs) : TyX K H (.ref a) (.type "list") := by
  rcases h with (h | ⟨o, h⟩) | ⟨o, its, n, h1, h2, _⟩
  · exact .base (.lst h)
  · exact .base (.frz h)
  · exact .kList h1 h2
theorem tyx_tup {a : Addr} {xs : List V} (h : SqT K H a xs) : TyX K H (.ref a) (.type "tuple") := by
  rcases h with (h | ⟨o, h⟩) | ⟨o, its, n, h1, h2, _⟩
  · exact .base (.tup h)
  · exact .fTuple h
  · exact .kTuple h1 h2
theorem kind_ok {k : String} (s : Same G H) (h : Rd1 K mg G H v d) (e : kindD d = some k) : TyX K H v (.type k) := by
  cases d with
  | non => cases e; cases h.non; exact .base .non
  | bl b => cases e; cases h.bl; exact .base (.bl b)
  | int b => cases e; cases h.int; exact .base (.int b)
  | str b => cases e; cases h.str; exact .base (.str b)
  | lst ds => cases e; obtain ⟨a, vs, rfl, q, _⟩ := h.lst s; exact tyx_seq q
  | tup ds => cases e; obtain ⟨a, vs, rfl, q, _⟩ := h.tup s; exact tyx_tup q
  | dic ds => cases e; obtain ⟨a, vs, rfl, q, _⟩ := h.dic s; exact .base (.dK q)
  | obj _ _ => cases e
def isiD (T : String) (d : D) : R Rs := match kindD d with
  | some k => match kitB k T with
    | some b => okB b
    | none => .stuck
  | none => .stuck
def tIsi (K : PySem.W.Frag) (T : String) (ta : TE) : TE := tCB (rIsi K) (tCons ta (tCons (tC (.ty T)) tNil))
theorem Pu.isi {T : String} {ta : TE} {f : Ev → R Rs} (ha : Pu K mg E ta f) : Pu K mg E (tIsi K T ta) (xUn (isiD T) f) := by
  intro G H env σ Q s c p
  refine ha.thn s c p fun r G1 H1 v e x rr p1 => ?_
  unfold isiD at p1
  cases e1 : kindD r.d with
  | none => rw [e1] at p1; exact p1.elim
  | some k =>
    rw [e1] at p1
    dsimp only at p1
    cases e2 : kitB k T with
    | none => rw [e2] at p1; exact p1.elim
    | some b =>
      rw [e2] at p1
      exact ⟨v, .ty T, .type k, .type T, b, rfl, .ty T, kind_ok x.sub rr.rd e1, kit_ty e2, post_bl x.sub p1⟩
/-! ### subscripts -/
noncomputable def ixD (d e : D) : R Rs := match d, e with
  | .lst ds, .int i => match atI ds i with
    | some x => .ok (.fz x)
    | none => .stuck
  | .tup ds, .int i => match atI ds i with
    | some x => .ok (.fz x)
    | none => .stuck
  | .str z, .int i => need (z.length ≤ sizeLine) (match atI z.cps.toList i with
    | some c => okS ⟨#[c]⟩
    | none => .stuck)
  | _, _ => .stuck
theorem atI_rep {vs : List V} {ds : List D} {i : Int} {x : D} (r : RepA K mg G vs ds) (h : atI ds i = some x) : ∃ v, atI vs i = some v ∧ Rep K mg G v x := by
  unfold atI at h ⊢
  rw [← r.length] at h
  cases e : ixN vs.length i with
  | none => rw [e] at h; cases h
  | some j =>
    rw [e] at h
    obtain ⟨v, q1, q2⟩ := r.get (show ds[j]? = some x from h)
    exact ⟨v, q1, q2⟩
theorem pop_ix : POp K mg E (rIx K) ixD := by
  intro G H v w d e Q s h1 h2 p
  unfold ixD at p
  cases d <;> cases e <;> first
    | exact p.elim
    | skip
  · rename_i z i
    cases h1.str; cases h2.int
    obtain ⟨c, p⟩ := post_need p
    · skip
      cases q : atI z.cps.toList i with
      | none => rw [q] at p; exact p.elim
      | some x => rw [q] at p; exact .inr (.inr ⟨z, i, x, rfl, rfl, c, q, post_str s p⟩)
  · rename_i ds i
    obtain ⟨a, vs, rfl, hs, r⟩ := h1.lst s
    cases h2.int
    dsimp only at p
    cases q : atI ds i with
    | none => rw [q] at p; exact p.elim
    | some x =>
      rw [q] at p
      obtain ⟨u, q1, q2⟩ := atI_rep r q
      exact .inl ⟨a, vs, i, u, rfl, rfl, hs, q1, p G H u (Ext.refl s) q2⟩
  · rename_i ds i
    obtain ⟨a, vs, rfl, hs, _, r⟩ := h1.tup s
    cases h2.int
    dsimp only at p
    cases q : atI ds i with
    | none => rw [q] at p; exact p.elim
    | some x =>
      rw [q] at p
      obtain ⟨u, q1, q2⟩ := atI_rep r q
      exact .inr (.inl ⟨a, vs, i, u, rfl, rfl, hs, q1, p G H u (Ext.refl s) q2⟩)
/-! ### len, abs, range -/
noncomputable def lenD : List D → R Rs := fun xs => match xs with
  | [.lst ds] => okI ds.length
  | [.tup ds] => okI ds.length
  | [.str s] => need (s.length ≤ sizeLine) (okI s.length)
  | [.dic ds] => okI ds.length
  | _ => .stuck
def absD : List D → R Rs := fun xs => match xs with
  | [.int i] => okI (if i < 0 then -i else i)
  | _ => .stuck
theorem RdA.one {vs : List V} (h : RdA K mg G H vs [d]) : ∃ v, vs = [v] ∧ Rd1 K mg G H v d := by
  cases h with
  | cons h r => cases r; exact ⟨_, rfl, h⟩
theorem RdA.two {vs : List V} (h : RdA K mg G H vs [d, e]) : ∃ v w, vs = [v, w] ∧ Rd1 K mg G H v d ∧ Rd1 K mg G H w e := by
  cases h with
  | cons h r => cases r with
    | cons h2 r => cases r; exact ⟨_, _, rfl, h, h2⟩
theorem pcall_abs : PCall K mg E (fun xs H Q => ∃ i, xs = [.int i] ∧ Q (.int (if i < 0 then -i else i)) H) absD := by
  intro G H vs ds Q s r p
  unfold absD at p
  split at p
  · obtain ⟨v, rfl, h⟩ := r.one
    cases h.int
    exact ⟨_, rfl, post_int s p⟩
  · exact p.elim
end
/-! ### what is walked -/
section
variable {K : PySem.W.Frag} {mg : MG} {E : XK} {G H : Hp} {v w : V} {d e : D}
def rngL (lo : Int) (n : Nat) : List D := (List.range n).map fun i : Nat => D.int (lo + (i : Int))
theorem rngL_len (lo : Int) (n : Nat) : (rngL lo n).length = n := by simp [rngL]
theorem rngL_get (lo : Int) (n i : Nat) (h : i < n) : (rngL lo n)[i]? = some (.int (lo + (i : Int))) := by
  unfold rngL
  rw [List.getElem?_map, List.getElem?_range h]
  rfl
theorem wks_range (lo : Int) (n : Nat) : Wks K mg (Itr lo n) G (rngL lo n) := by
  refine ⟨fun i H hi _ => ?_, fun H _ => ?_, fun i G1 H1 x H' d s1 s2 hd hy => ?_⟩
  · rw [rngL_len] at hi; exact hi
  · rw [rngL_len]; exact Nat.le_refl n
  · obtain ⟨e1, e2⟩ := hy
    subst e1 e2
    have hi : i < n := by
      have q := (List.getElem?_eq_some_iff.mp hd).1
      rw [rngL_len] at q; exact q
    rw [rngL_get lo n i hi] at hd
    cases hd
    exact ⟨G1, Ext.refl s2, .int _⟩
theorem wks_list {a : Addr} {vs : List V} {ds : List D} (h : SqL K G a vs) (r : RepA K mg G vs ds) : Wks K mg (Itl K a) G ds := by
  refine ⟨fun i H hi s => ?_, fun H s => ⟨vs, s.seq h, by rw [r.length]; exact Nat.le_refl _⟩, fun i G1 H1 x H' d s1 s2 hd hy => ?_⟩
  · have hv : i < vs.length := by rw [r.length]; exact hi
    exact ⟨vs, vs[i], s.seq h, by simp [hv]⟩
  · obtain ⟨e1, hy⟩ := hy
    subst e1
    obtain ⟨v, q1, q2⟩ := r.get hd
    have e := hy vs (s2.seq (s1.seq h))
    rw [q1] at e
    cases e
    exact ⟨G1, Ext.refl s2, Rep.mono s1 q2⟩
theorem wks_tup {a : Addr} {vs : List V} {ds : List D} (h : SqT K G a vs) (r : RepA K mg G vs ds) : Wks K mg (Itt K a) G ds := by
  refine ⟨fun i H hi s => ?_, fun H s => ⟨vs, Same.tup s h, by rw [r.length]; exact Nat.le_refl _⟩, fun i G1 H1 x H' d s1 s2 hd hy => ?_⟩
  · have hv : i < vs.length := by rw [r.length]; exact hi
    exact ⟨vs, vs[i], Same.tup s h, by simp [hv]⟩
  · obtain ⟨e1, hy⟩ := hy
    subst e1
    obtain ⟨v, q1, q2⟩ := r.get hd
    have e := hy vs (Same.tup s2 (Same.tup s1 h))
    rw [q1] at e
    cases e
    exact ⟨G1, Ext.refl s2, Rep.mono s1 q2⟩
noncomputable def iR1 (f : Ev → R (List D)) : Ev → R (List D) := fun env => R.bind (f env) fun ds => match ds with
  | [.int j] => need (-(2 ^ 62) ≤ j ∧ j < 2 ^ 62) (.ok (rngL 0 j.toNat))
  | _ => .stuck
noncomputable def iR2 (f : Ev → R (List D)) : Ev → R (List D) := fun env => R.bind (f env) fun ds => match ds with
  | [.int i, .int j] => need (-(2 ^ 62) ≤ i ∧ i < 2 ^ 62 ∧ -(2 ^ 62) ≤ j ∧ j < 2 ^ 62) (.ok (rngL i (j - i).toNat))
  | _ => .stuck
theorem PostI.fwd {G' H' : Hp} {R' : It → Hp → Prop} (x : Ext G H G' H') : ∀ {r : R (List D)}, PostI K mg E G H R' r → PostI K mg E G' H' R' r
  | .ok _, h => fun G2 H2 J x2 => h G2 H2 J (x.trans x2)
  | .ex _, h => ⟨h.1, fun u G2 H2 m x2 => h.2 u G2 H2 m (x.trans x2)⟩
theorem postI_need {R' : It → Hp → Prop} {c : Prop} {r : R (List D)} (p : PostI K mg E G H R' (need c r)) : c ∧ PostI K mg E G H R' r := by
  rcases need_cs c r with ⟨h, e⟩ | e
  · rw [e] at p; exact ⟨h, p⟩
  · rw [e] at p; exact p.elim
theorem PuI.rng1 {t : TA} {f : Ev → R (List D)} (ha : PuAr K mg E t f) : PuI K mg E (iRng1 t) (iR1 f) := by
  intro G H env σ R' s c p
  refine ha G H env σ _ s c ?_
  unfold iR1 at p
  cases e : f env with
  | ok ds =>
    rw [e] at p
    intro G1 H1 vs x r
    have p1 := PostI.fwd x p
    dsimp only [R.bind] at p1
    split at p1
    · rename_i j
      obtain ⟨v, rfl, h⟩ := r.one
      cases h.int
      obtain ⟨cc, p1⟩ := postI_need p1
      · exact ⟨j, rfl, cc.1, cc.2, p1 G1 H1 _ (Ext.refl x.sub) (wks_range 0 j.toNat)⟩
    · exact p1.elim
  | ex x => rw [e] at p; exact p
  | stuck => rw [e] at p; exact p.elim
theorem PuI.rng2 {t : TA} {f : Ev → R (List D)} (ha : PuAr K mg E t f) : PuI K mg E (iRng2 t) (iR2 f) := by
  intro G H env σ R' s c p
  refine ha G H env σ _ s c ?_
  unfold iR2 at p
  cases e : f env with
  | ok ds =>
    rw [e] at p
    intro G1 H1 vs x r
    have p1 := PostI.fwd x p
    dsimp only [R.bind] at p1
    split at p1
    · rename_i i j
      obtain ⟨v, w, rfl, h1, h2⟩ := r.two
      cases h1.int
      cases h2.int
      obtain ⟨cc, p1⟩ := postI_need p1
      · exact ⟨i, j, rfl, cc, p1 G1 H1 _ (Ext.refl x.sub) (wks_range i (j - i).toNat)⟩
    · exact p1.elim
  | ex x => rw [e] at p; exact p
  | stuck => rw [e] at p; exact p.elim
/-- over a list, a tuple (nobody's own) -/
def iL (f : Ev → R Rs) : Ev → R (List D) := fun env => R.bind (fzR (f env)) fun d => match d with
  | .lst ds => .ok ds
  | _ => .stuck
def iT (f : Ev → R Rs) : Ev → R (List D) := fun env => R.bind (fzR (f env)) fun d => match d with
  | .tup ds => .ok ds
  | _ => .stuck
theorem PuI.lst {t : TE} {f : Ev → R Rs} (ha : Pu K mg E t f) : PuI K mg E (iList K t) (iL f) := by
  intro G H env σ R' s c p
  unfold iL at p
  refine ha.fz s c ?_
  cases e : fzR (f env) with
  | ok d =>
    rw [e] at p
    intro G1 H1 v x r
    have p1 := PostI.fwd x p
    dsimp only [R.bind] at p1
    cases r <;> first
      | exact p1.elim
      | (rename_i a vs ds h r
         exact ⟨a, rfl, ⟨vs, x.sub.seq h⟩, p1 G1 H1 _ (Ext.refl x.sub) (wks_list h r)⟩)
  | ex x => rw [e] at p; exact p
  | stuck => rw [e] at p; exact p.elim
theorem PuI.tup {t : TE} {f : Ev → R Rs} (ha : Pu K mg E t f) : PuI K mg E (iTup K t) (iT f) := by
  intro G H env σ R' s c p
  unfold iT at p
  refine ha.fz s c ?_
  cases e : fzR (f env) with
  | ok d =>
    rw [e] at p
    intro G1 H1 v x r
    have p1 := PostI.fwd x p
    dsimp only [R.bind] at p1
    cases r <;> first
      | exact p1.elim
      | (rename_i a vs ds h r
         exact ⟨a, rfl, ⟨vs, Same.tup x.sub h⟩, p1 G1 H1 _ (Ext.refl x.sub) (wks_tup h r)⟩)
  | ex x => rw [e] at p; exact p
  | stuck => rw [e] at p; exact p.elim
end
end PL

set_option Elab.async false
set_option linter.all false
set_option maxRecDepth 100000
set_option maxHeartbeats 4000000
/-! PURE LAYER, by syntax. -/
namespace PL
open PySem PySem.Spec PyProof.Rows L2
def PUT (X : Cx) (E : XK) (e : Expr) (f : Ev → R Bool) : Prop := ∃ t, PT X e t ∧ PuT X.K X.mg E t f
def PUW (X : Cx) (E : XK) (e : Expr) (f : Ev → R Bool) : Prop := ∃ t, PW X e t ∧ PuT X.K X.mg E t f
def PUA (X : Cx) (E : XK) (es : List Expr) (f : Ev → R (List D)) : Prop := ∃ t, PA X es t ∧ PuA X.K X.mg E t f
def PUAr (X : Cx) (E : XK) (es : List Expr) (f : Ev → R (List D)) : Prop := ∃ t, PA X es t ∧ PuAr X.K X.mg E t f
def PUI (X : Cx) (E : XK) (tg iter : Expr) (f : Ev → R (List D)) : Prop := ∃ t, PI X tg iter t ∧ PuI X.K X.mg E t f
def PUG (X : Cx) (e : Expr) (p : D → Option (List (Nat × D))) : Prop := ∃ t, PG X e t ∧ PuG X.K X.mg t p
def PUGs (X : Cx) (n : Nat) (es : List Expr) (p : List D → Option (List (Nat × D))) : Prop := es.length = n ∧ ∃ t, PGs X es t ∧ PuGs X.K X.mg t p
def PUS (X : Cx) (E : XK) (s : Stmt) (g : Ev → Out) : Prop := ∃ t, PS X s t ∧ Pus X.K X.mg E t g
def PUSs (X : Cx) (E : XK) (s : List Stmt) (g : Ev → Out) : Prop := ∃ t, PSs X s t ∧ Pus X.K X.mg E t g
section
variable {X : Cx} {E : XK} {k : Nat} {a b c e o : Expr} {es rest : List Expr} {f g h : Ev → R Rs} {fa : Ev → R (List D)} {p q r : Ev → R Bool} {pos apos p1 p2 p3 : Pos} {x : Str}
/-! expressions -/
theorem u_var (i : Nat) (hN : X.N[i]? = some x := by rfl) (hv : Vis X.env.scope x := by first | exact Or.inl rfl | exact Or.inr (Or.inl rfl) | exact Or.inr (Or.inr rfl)) (hd : (x == ("__debug__" : Str)) = false := by decide)
    (hcd : (x == ("__classdict__" : Str)) = false := by decide) : PUE X E (.Name x pos) (xVar i) := ⟨_, pv i hN hv hd hcd, Pu.var i⟩
theorem u_int {i : Int} {j} : PUE X E (.Constant (.int i) j pos) (xC (.int i)) := ⟨_, pe_int, Pu.c fun _ => .int i⟩
theorem u_bl {i : Bool} {j} : PUE X E (.Constant (.bool i) j pos) (xC (.bl i)) := ⟨_, pe_bl, Pu.c fun _ => .bl i⟩
theorem u_non {j} : PUE X E (.Constant .none j pos) (xC .non) := ⟨_, pe_non, Pu.c fun _ => .non⟩
theorem u_str {i : Str} {j} : PUE X E (.Constant (.str i) j pos) (xC (.str i)) := ⟨_, pe_str, Pu.c fun _ => .str i⟩
/-- a module's name -/
def GlR (X : Cx) (x : Str) (d : D) : Prop := ∃ v u, X.mg x = some u ∧ RelV v u ∧ ∀ G, Rep X.K X.mg G v d
theorem u_glob {d : D} (hd : GlR X x d) (hg : Gl X x := by rfl) (hdb : (x == ("__debug__" : Str)) = false := by decide) : PUE X E (.Name x pos) (xC d) := by
  obtain ⟨v, u, h1, h2, h3⟩ := hd
  exact ⟨_, pe_glob hg h1 h2 hdb, Pu.c h3⟩
theorem u_op {op : Operator} {r : R2} {g : D → D → R Rs} (ho : OpR X (binaryOp op) r) (hp : POp X.K X.mg E r g) (ha : PUE X E a f) (hb : PUE X E b h) : PUE X E (.BinOp a op b pos) (xBin g f h) := by
  obtain ⟨ta, a1, a2⟩ := ha
  obtain ⟨tb, b1, b2⟩ := hb
  exact ⟨_, pe_op ho a1 b1, Pu.bin hp a2 b2⟩
theorem u_cmp {op : CmpOp} {r : R2} {g : D → D → R Rs} (ho : OpR X (compareOp op) r) (hp : POp X.K X.mg E r g) (ha : PUE X E a f) (hb : PUE X E b h) (hm : behindInMarks op b = false) : PUE X E (.Compare a [op] [b] pos) (xBin g f h) := by
  obtain ⟨ta, a1, a2⟩ := ha
  obtain ⟨tb, b1, b2⟩ := hb
  exact ⟨_, pe_cmpR ho a1 b1 hm, Pu.bin hp a2 b2⟩
theorem t_cmp {op : CmpOp} {r : R2} {g : D → D → R Rs} (ho : OpR X (compareOp op) r) (hp : POp X.K X.mg E r g) (ha : PUE X E a f) (hb : PUE X E b h) (hm : behindInMarks op b = false) : PUT X E (.Compare a [op] [b] pos) (xB (xBin g f h)) := by
  obtain ⟨ta, a1, a2⟩ := ha
  obtain ⟨tb, b1, b2⟩ := hb
  exact ⟨_, pt_cmpR ho a1 b1 hm, PuT.of (Pu.bin hp a2 b2)⟩
theorem u_add (ha : PUE X E a f) (hb : PUE X E b h) : PUE X E (.BinOp a .Add b pos) (xBin addD f h) := u_op (opR_or (opR_or (opR_or op_add op_add_str) op_catA) op_catL) pop_add ha hb
theorem u_sub (ha : PUE X E a f) (hb : PUE X E b h) : PUE X E (.BinOp a .Sub b pos) (xBin subD f h) := u_op op_sub pop_sub ha hb
theorem u_mul (ha : PUE X E a f) (hb : PUE X E b h) : PUE X E (.BinOp a .Mult b pos) (xBin mulD f h) := u_op op_mulW pop_mul ha hb
theorem u_fdiv (ha : PUE X E a f) (hb : PUE X E b h) : PUE X E (.BinOp a .FloorDiv b pos) (xBin fdivD f h) := u_op op_fdivW pop_fdiv ha hb
theorem u_mod (ha : PUE X E a f) (hb : PUE X E b h) : PUE X E (.BinOp a .Mod b pos) (xBin modD f h) := u_op op_mod pop_mod ha hb
theorem u_pow (ha : PUE X E a f) (hb : PUE X E b h) : PUE X E (.BinOp a .Pow b pos) (xBin powD f h) := u_op op_pow pop_pow ha hb
theorem u_neg (ha : PUE X E a f) : PUE X E (.UnaryOp .USub a pos) (xUn negD f) := by
  obtain ⟨ta, a1, a2⟩ := ha
  exact ⟨_, pe_un un_neg a1, Pu.un pop_neg a2⟩
theorem u_lt (ha : PUE X E a f) (hb : PUE X E b h) : PUE X E (.Compare a [.Lt] [b] pos) (xBin ltI f h) := u_cmp op_lt pop_lt ha hb (nomark _)
theorem u_le (ha : PUE X E a f) (hb : PUE X E b h) : PUE X E (.Compare a [.LtE] [b] pos) (xBin leI f h) := u_cmp op_le pop_le ha hb (nomark _)
theorem u_gt (ha : PUE X E a f) (hb : PUE X E b h) : PUE X E (.Compare a [.Gt] [b] pos) (xBin gtI f h) := u_cmp op_gt pop_gt ha hb (nomark _)
theorem u_ge (ha : PUE X E a f) (hb : PUE X E b h) : PUE X E (.Compare a [.GtE] [b] pos) (xBin geI f h) := u_cmp op_ge pop_ge ha hb (nomark _)
theorem u_eq (hr : Room k X.A) (ha : PUE X E a f) (hb : PUE X E b h) : PUE X E (.Compare a [.Eq] [b] pos) (xBin eqD f h) := u_cmp (op_eqD hr.units) pop_eq ha hb (nomark _)
theorem u_ne (hr : Room k X.A) (ha : PUE X E a f) (hb : PUE X E b h) : PUE X E (.Compare a [.NotEq] [b] pos) (xBin neD f h) := u_cmp (op_neD hr.units) pop_ne ha hb (nomark _)
theorem t_lt (ha : PUE X E a f) (hb : PUE X E b h) : PUT X E (.Compare a [.Lt] [b] pos) (xB (xBin ltI f h)) := t_cmp op_lt pop_lt ha hb (nomark _)
theorem t_le (ha : PUE X E a f) (hb : PUE X E b h) : PUT X E (.Compare a [.LtE] [b] pos) (xB (xBin leI f h)) := t_cmp op_le pop_le ha hb (nomark _)
theorem t_gt (ha : PUE X E a f) (hb : PUE X E b h) : PUT X E (.Compare a [.Gt] [b] pos) (xB (xBin gtI f h)) := t_cmp op_gt pop_gt ha hb (nomark _)
theorem t_ge (ha : PUE X E a f) (hb : PUE X E b h) : PUT X E (.Compare a [.GtE] [b] pos) (xB (xBin geI f h)) := t_cmp op_ge pop_ge ha hb (nomark _)
theorem t_eq (hr : Room k X.A) (ha : PUE X E a f) (hb : PUE X E b h) : PUT X E (.Compare a [.Eq] [b] pos) (xB (xBin eqD f h)) := t_cmp (op_eqD hr.units) pop_eq ha hb (nomark _)
theorem t_ne (hr : Room k X.A) (ha : PUE X E a f) (hb : PUE X E b h) : PUT X E (.Compare a [.NotEq] [b] pos) (xB (xBin neD f h)) := t_cmp (op_neD hr.units) pop_ne ha hb (nomark _)
theorem u_isN {j} (ha : PUE X E a f) : PUE X E (.Compare a [.Is] [.Constant .none j p1] pos) (xUn isND f) := by
  obtain ⟨ta, a1, a2⟩ := ha
  exact ⟨_, pe_cmp (pc_isN a1), Pu.isN a2⟩
theorem u_notN {j} (ha : PUE X E a f) : PUE X E (.Compare a [.IsNot] [.Constant .none j p1] pos) (xUn isNN f) := by
  obtain ⟨ta, a1, a2⟩ := ha
  exact ⟨_, pe_cmp (pc_notN a1), Pu.notN a2⟩
theorem t_isN {j} (ha : PUE X E a f) : PUT X E (.Compare a [.Is] [.Constant .none j p1] pos) (xB (xUn isND f)) := by
  obtain ⟨ta, a1, a2⟩ := ha
  exact ⟨_, pt_cmp (pc_isN a1), PuT.of (Pu.isN a2)⟩
theorem t_notN {j} (ha : PUE X E a f) : PUT X E (.Compare a [.IsNot] [.Constant .none j p1] pos) (xB (xUn isNN f)) := by
  obtain ⟨ta, a1, a2⟩ := ha
  exact ⟨_, pt_cmp (pc_notN a1), PuT.of (Pu.notN a2)⟩
/-! tests -/
theorem t_val (ha : PUE X E a f) (he : ∀ whole, isTrue a X.env whole = (do let v ← whole; standAt a.pos; holding [v] (truthy v)) := by intro _; rfl) : PUT X E a (xB f) := by
  obtain ⟨ta, a1, a2⟩ := ha
  exact ⟨_, pt_val a1 he, PuT.of a2⟩
theorem w_and1 (ha : PUT X E a p) : PUW X E (.BoolOp .And [a] pos) p := by
  obtain ⟨ta, a1, a2⟩ := ha
  exact ⟨_, pw_and1 a1, a2⟩
theorem w_or1 (ha : PUT X E a p) : PUW X E (.BoolOp .Or [a] pos) p := by
  obtain ⟨ta, a1, a2⟩ := ha
  exact ⟨_, pw_or1 a1, a2⟩
theorem w_and (ha : PUT X E a p) (hb : PUW X E (.BoolOp .And (b :: rest) pos) q) : PUW X E (.BoolOp .And (a :: b :: rest) pos) (xAnd p q) := by
  obtain ⟨ta, a1, a2⟩ := ha
  obtain ⟨tb, b1, b2⟩ := hb
  exact ⟨_, pw_and a1 b1, PuT.and a2 b2⟩
theorem w_or (ha : PUT X E a p) (hb : PUW X E (.BoolOp .Or (b :: rest) pos) q) : PUW X E (.BoolOp .Or (a :: b :: rest) pos) (xOr p q) := by
  obtain ⟨ta, a1, a2⟩ := ha
  obtain ⟨tb, b1, b2⟩ := hb
  exact ⟨_, pw_or a1 b1, PuT.or a2 b2⟩
theorem t_w (ha : PUW X E a p) : PUT X E a p := by
  obtain ⟨ta, a1, a2⟩ := ha
  exact ⟨_, a1.pt, a2⟩
theorem t_not (ha : PUT X E a p) : PUT X E (.UnaryOp .Not a pos) (xNot p) := by
  obtain ⟨ta, a1, a2⟩ := ha
  exact ⟨_, pt_not a1, PuT.not a2⟩
theorem u_one {op} (ha : PUE X E a f) : PUE X E (.BoolOp op [a] pos) f := by
  obtain ⟨ta, a1, a2⟩ := ha
  exact ⟨_, pe_one a1, a2⟩
theorem u_and (ha : PUE X E a f) (hb : PUE X E (.BoolOp .And (b :: rest) pos) g) : PUE X E (.BoolOp .And (a :: b :: rest) pos) (xAndV f g) := by
  obtain ⟨ta, a1, a2⟩ := ha
  obtain ⟨tb, b1, b2⟩ := hb
  exact ⟨_, pe_and a1 b1, Pu.andV a2 b2⟩
theorem u_or (ha : PUE X E a f) (hb : PUE X E (.BoolOp .Or (b :: rest) pos) g) : PUE X E (.BoolOp .Or (a :: b :: rest) pos) (xOrV f g) := by
  obtain ⟨ta, a1, a2⟩ := ha
  obtain ⟨tb, b1, b2⟩ := hb
  exact ⟨_, pe_or a1 b1, Pu.orV a2 b2⟩
theorem u_not (ha : PUE X E a f) : PUE X E (.UnaryOp .Not a pos) (xNotV f) := by
  obtain ⟨ta, a1, a2⟩ := ha
  exact ⟨_, pe_not a1, Pu.notV a2⟩
theorem u_ite (hc : PUT X E c p) (ha : PUE X E a f) (hb : PUE X E b g) : PUE X E (.IfExp c a b pos) (xIf p f g) := by
  obtain ⟨tc, c1, c2⟩ := hc
  obtain ⟨ta, a1, a2⟩ := ha
  obtain ⟨tb, b1, b2⟩ := hb
  exact ⟨_, pe_ifExp c1 a1 b1, Pu.ite c2 a2 b2⟩
/-! rows -/
theorem a_nil : PUA X E [] xNil := ⟨_, pa_nil, PuA.nil⟩
theorem a_cons (ha : PUE X E a f) (hb : PUA X E es fa) (hs : starEach (a :: es) X.env = (false, eval a X.env) :: starEach es X.env := by rfl) : PUA X E (a :: es) (xCons f fa) := by
  obtain ⟨ta, a1, a2⟩ := ha
  obtain ⟨tb, b1, b2⟩ := hb
  exact ⟨_, pa_cons a1 b1 hs, PuA.cons a2 b2⟩
theorem r_nil : PUAr X E [] xNil := ⟨_, pa_nil, PuAr.nil⟩
theorem r_cons (ha : PUE X E a f) (hb : PUAr X E es fa) (hs : starEach (a :: es) X.env = (false, eval a X.env) :: starEach es X.env := by rfl) : PUAr X E (a :: es) (xConsR f fa) := by
  obtain ⟨ta, a1, a2⟩ := ha
  obtain ⟨tb, b1, b2⟩ := hb
  exact ⟨_, pa_cons a1 b1 hs, PuAr.cons a2 b2⟩
theorem u_tup {x1} (ha : PUA X E es fa) : PUE X E (.Tuple es x1 pos) (xTup fa) := by
  obtain ⟨t, a1, a2⟩ := ha
  exact ⟨_, pe_tup a1, Pu.tup a2⟩
theorem u_lst (ha : PUA X E es fa) : PUE X E (.List es pos) (xLst fa) := by
  obtain ⟨t, a1, a2⟩ := ha
  exact ⟨_, pe_lst a1, Pu.lst a2⟩
theorem u_ix (ha : PUE X E a f) (hb : PUE X E b h) (hs : PlainIx b := by exact fun _ _ => rfl) : PUE X E (.Subscript a b pos) (xBin ixD f h) := by
  obtain ⟨ta, a1, a2⟩ := ha
  obtain ⟨tb, b1, b2⟩ := hb
  exact ⟨_, pe_ix ix_seq a1 b1 hs, Pu.bin pop_ix a2 b2⟩
/-! calls -/
structure Cal (P : Program) (w : World) (K : PySem.W.Frag) (mg : MG) (base : Heap) (k : Nat) (x : Str) (ps : List Str) (dds : List D) (m : List D → R Rs) : Prop where
  ex : ∃ (f : Addr) (fd : FuncData) (ds : List Value) (dvs : List V), FnOk P w K mg base (L2.CX P w) k f fd ps (spP K mg ps.length m) ∧ mg x = some (.ref f) ∧ PySem.W.keepIn K (.ref f) = true ∧ Binds K fd ps ds ∧ Vals dvs ds ∧ ∀ G, RepA K mg G dvs dds
theorem u_call {j : Nat} {ps : List Str} {dds : List D} {m : List D → R Rs} (C : Cal X.prog X.w X.K X.mg X.base j x ps dds m) (hr : Room k X.A) (hk : j ≤ k) (hx : Passes (L2.CX X.prog X.w) X E) (ha : PUA X E (e :: es) fa) (hg : Gl X x := by rfl)
    (hdb : (x == ("__debug__" : Str)) = false := by decide) (he : starEach (e :: es) X.env = (false, eval e X.env) :: starEach es X.env := by rfl) (hpl : (backTo pos (starEach es X.env)).any (·.1) = false := by rfl) :
    PUE X E (.Call (.Name x p1) (e :: es) [] pos) (xCall ps.length m dds fa) := by
  obtain ⟨t, a1, a2⟩ := ha
  obtain ⟨f, fd, ds, dvs, F, hm, kp, hb, hv, rp⟩ := C.ex
  exact ⟨_, pe_call (F.mono hk) hr hg hm kp hb hv hx a1 hdb he hpl, Pu.call rp a2⟩
theorem u_call0 {j : Nat} {ps : List Str} {dds : List D} {m : List D → R Rs} (C : Cal X.prog X.w X.K X.mg X.base j x ps dds m) (hr : Room k X.A) (hk : j ≤ k) (hx : Passes (L2.CX X.prog X.w) X E) (hg : Gl X x := by rfl)
    (hdb : (x == ("__debug__" : Str)) = false := by decide) : PUE X E (.Call (.Name x p1) [] [] pos) (xCall ps.length m dds xNil) := by
  obtain ⟨f, fd, ds, dvs, F, hm, kp, hb, hv, rp⟩ := C.ex
  exact ⟨_, pe_call0 (F.mono hk) hr hg hm kp hb hv hx hdb, Pu.call rp PuA.nil⟩
/-- own things are lent; the answer is no object -/
theorem u_lend {j : Nat} {ps : List Str} {dds : List D} {m : List D → R Rs} (C : Cal X.prog X.w X.K X.mg X.base j x ps dds m) (hr : Room k X.A) (hk : j ≤ k) (hx : Passes (L2.CX X.prog X.w) X E) (ha : PUAr X E (e :: es) fa) (hg : Gl X x := by rfl)
    (hdb : (x == ("__debug__" : Str)) = false := by decide) (he : starEach (e :: es) X.env = (false, eval e X.env) :: starEach es X.env := by rfl) (hpl : (backTo pos (starEach es X.env)).any (·.1) = false := by rfl) :
    PUE X E (.Call (.Name x p1) (e :: es) [] pos) (xLend ps.length m dds fa) := by
  obtain ⟨t, a1, a2⟩ := ha
  obtain ⟨f, fd, ds, dvs, F, hm, kp, hb, hv, rp⟩ := C.ex
  exact ⟨_, pe_call (F.mono hk) hr hg hm kp hb hv hx a1 hdb he hpl, Pu.lend rp a2⟩
theorem u_blt {id : String} {r : List V → Hp → VK → Prop} {g : List D → R Rs} (hc : CallR X (.builtin id) r) (hp : PCall X.K X.mg E r g) (hm : X.mg x = none) (hv : bootBuiltins x = some (.builtin id)) (ha : PUAr X E (e :: es) fa) (hg : Gl X x := by rfl) (hn : x ≠ "__name__" := by decide) (hdb : (x == ("__debug__" : Str)) = false := by decide)
    (he : starEach (e :: es) X.env = (false, eval e X.env) :: starEach es X.env := by rfl) (hpl : (backTo pos (starEach es X.env)).any (·.1) = false := by rfl) :
    PUE X E (.Call (.Name x p1) (e :: es) [] pos) (xBlt g fa) := by
  obtain ⟨t, a1, a2⟩ := ha
  exact ⟨_, pe_callB hc hg hm hv a1 hn hdb he hpl, Pu.blt hp a2⟩
theorem u_bty {T : String} {r : List V → Hp → VK → Prop} {g : List D → R Rs} (hc : CallR X (.type T) r) (hp : PCall X.K X.mg E r g) (hm : X.mg x = none) (hv : bootBuiltins x = some (.type T)) (ha : PUAr X E (e :: es) fa) (hg : Gl X x := by rfl) (hn : x ≠ "__name__" := by decide) (hdb : (x == ("__debug__" : Str)) = false := by decide)
    (he : starEach (e :: es) X.env = (false, eval e X.env) :: starEach es X.env := by rfl) (hpl : (backTo pos (starEach es X.env)).any (·.1) = false := by rfl) :
    PUE X E (.Call (.Name x p1) (e :: es) [] pos) (xBlt g fa) := by
  obtain ⟨t, a1, a2⟩ := ha
  exact ⟨_, pe_callTy hc hg hm hv a1 hn hdb he hpl, Pu.blt hp a2⟩
end
end PL

set_option Elab.async false
set_option linter.all false
set_option maxRecDepth 100000
set_option maxHeartbeats 4000000
/-! PURE LAYER, statements by syntax, defs, the head. -/
namespace PL
open PySem PySem.Spec PyProof.Rows L2
section
variable {X : Cx} {E : XK} {k : Nat} {a b c e tg iter : Expr} {es rest : List Expr} {f g h : Ev → R Rs} {fa : Ev → R (List D)} {p q r : Ev → R Bool} {pos apos p1 p2 p3 : Pos} {x : Str} {s : Stmt} {ss body orelse : List Stmt} {u v : Ev → Out} {put : D → Option (List (Nat × D))}
theorem ss_nil : PUSs X E [] sNext := ⟨_, pss_nil, Pus.next⟩
theorem ss_cons (ha : PUS X E s u) (hb : PUSs X E ss v) : PUSs X E (s :: ss) (sSeq u v) := by
  obtain ⟨t, a1, a2⟩ := ha
  obtain ⟨t', b1, b2⟩ := hb
  exact ⟨_, pss_cons a1 b1, Pus.seq a2 b2⟩
theorem ss_one (ha : PUS X E s u) : PUSs X E [s] u := by
  obtain ⟨t, a1, a2⟩ := ha
  exact ⟨_, pss_one a1, a2⟩
theorem s_doc {z j} : PUS X E (.Expr (.Constant (.str z) j p1) pos) sNext := ⟨_, ps_doc, Pus.next⟩
theorem s_pass : PUS X E (.Pass pos) sNext := ⟨_, ps_pass, Pus.next⟩
theorem s_brk : PUS X E (.Break pos) sBreak := ⟨_, ps_break, Pus.brk⟩
theorem s_cont : PUS X E (.Continue pos) sCont := ⟨_, ps_continue, Pus.cont⟩
theorem s_set (i : Nat) (nd : X.N.Nodup) (ha : PUE X E e f) (hi : X.N[i]? = some x := by rfl) (hx : X.env.scope.names.lookup x = some .local ∨ X.env.scope.names.lookup x = some .cell := by first | exact Or.inl rfl | exact Or.inr rfl) (hs : swapsWith e (some (.Name x p1)) pos.line X.env = pure false := by rfl)
    (hf : X.fn x = true ∨ X.env.scope.names.lookup x = some .local := by first | exact .inl rfl | exact .inr rfl) : PUS X E (.Assign [.Name x p1] e pos) (sSet i f) := by
  obtain ⟨t, a1, a2⟩ := ha
  exact ⟨_, ps_set nd hi hx a1 hs hf, Pus.set a2⟩
theorem s_asg (ha : PUE X E e f) (hg : PUG X tg put) (hs : swapsWithSole [tg] e pos.line X.env = pure false := by rfl) (hw : swappedStores [tg] e X.env = pure none := by rfl)
    (h1 : (assignEach [tg] X.env).map (·.2) = [assign tg X.env] := by rfl) : PUS X E (.Assign [tg] e pos) (sAsg put f) := by
  obtain ⟨t, a1, a2⟩ := ha
  obtain ⟨t', b1, b2⟩ := hg
  exact ⟨_, ps_asg a1 b1 hs hw h1, Pus.asg a2 b2⟩
theorem s_expr (ha : PUE X E e f) (hs : swapsWith e none pos.line X.env = pure false := by rfl) : PUS X E (.Expr e pos) (sDrop f) := by
  obtain ⟨t, a1, a2⟩ := ha
  exact ⟨_, ps_expr a1 hs, Pus.drop a2⟩
theorem s_ret (ha : PUE X E e f) : PUS X E (.Return (some e) pos) (sRet f) := by
  obtain ⟨t, a1, a2⟩ := ha
  exact ⟨_, ps_ret a1, Pus.ret a2⟩
theorem s_retN : PUS X E (.Return none pos) sRetN := ⟨_, ps_retN, Pus.retN⟩
theorem s_retV (i : Nat) (hN : X.N[i]? = some x := by rfl) (hv : Vis X.env.scope x := by first | exact Or.inl rfl | exact Or.inr (Or.inl rfl) | exact Or.inr (Or.inr rfl)) (hd : (x == ("__debug__" : Str)) = false := by decide)
    (hcd : (x == ("__classdict__" : Str)) = false := by decide) : PUS X E (.Return (some (.Name x p1)) pos) (sRetV i) := ⟨_, ps_ret (pv i hN hv hd hcd), Pus.retV i⟩
theorem s_if (hc : PUT X E c p) (ha : PUSs X E body u) (hb : PUSs X E orelse v) : PUS X E (.If c body orelse pos) (sIf p u v) := by
  obtain ⟨t, c1, c2⟩ := hc
  obtain ⟨ta, a1, a2⟩ := ha
  obtain ⟨tb, b1, b2⟩ := hb
  exact ⟨_, ps_if c1 a1 b1, Pus.ite c2 a2 b2⟩
theorem s_frz (i : Nat) (h : PUS X E s u) : PUS X E s (sFrz i u) := by
  obtain ⟨t, a1, a2⟩ := h
  exact ⟨_, a1, Pus.frz i a2⟩
theorem s_for (hp : PassesOwn (model X.prog X.w) X.A X.env X.xe) (hi : PUI X E tg iter fa) (hg : PUG X tg put) (hb : PUSs X E body u) (hc : X.calm = true := by rfl) (hs : ∀ x, foldedSetIterable iter X.env x = pure x := by intro _; rfl) :
    PUS X E (.For tg iter body [] pos) (sFor put fa u) := by
  obtain ⟨ti, i1, i2⟩ := hi
  obtain ⟨t, g1, g2⟩ := hg
  obtain ⟨tb, b1, b2⟩ := hb
  exact ⟨_, ps_for hp hc i1 g1 b1 hs, Pus.for_ i2 g2 b2⟩
theorem s_while (hp : PassesOwn (model X.prog X.w) X.A X.env X.xe) (hc : PUT X E c p) (hb : PUSs X E body u) : PUS X E (.While c body [] pos) (sWh p u) := by
  obtain ⟨t, c1, c2⟩ := hc
  obtain ⟨tb, b1, b2⟩ := hb
  exact ⟨_, ps_while hp c1 b1, Pus.while_ c2 b2⟩
/-! targets -/
theorem g_name (i : Nat) (nd : X.N.Nodup) (hi : X.N[i]? = some x := by rfl) (hx : Loc X.env.scope x := by first | exact Or.inl rfl | exact Or.inr rfl) (hf : X.fn x = true ∨ X.env.scope.names.lookup x = some .local := by first | exact .inl rfl | exact .inr rfl) : PUG X (.Name x pos) (gN i) :=
  ⟨_, pg_name nd hi hx hf, PuG.name i⟩
theorem gs_nil : PUGs X 0 [] gNil' := ⟨rfl, _, pgs_nil, PuGs.nil⟩
theorem gs_cons {n : Nat} {qq : List D → Option (List (Nat × D))} (ha : PUG X e put) (hb : PUGs X n es qq) (hs : (assignEach (e :: es) X.env).map (·.2) = assign e X.env :: (assignEach es X.env).map (·.2) := by rfl) : PUGs X (n + 1) (e :: es) (gCons' put qq) := by
  obtain ⟨t, a1, a2⟩ := ha
  obtain ⟨hl, t', b1, b2⟩ := hb
  exact ⟨congrArg (· + 1) hl, _, pgs_cons a1 b1 hs, PuGs.cons a2 b2⟩
theorem g_tup {n : Nat} {x1} {qq : List D → Option (List (Nat × D))} (h : PUGs X n es qq) (hc : X.calm = true := by rfl) (hn : (assignEach es X.env).length = n := by rfl) (hst : (assignEach es X.env).findIdx? (·.1) = none := by rfl) : PUG X (.Tuple es x1 pos) (gT n qq) := by
  obtain ⟨hl, t, a1, a2⟩ := h
  exact ⟨_, pg_tup hc a1 hn hst, PuG.tup a2⟩
/-! what is walked -/
theorem i_rng1 (ha : PUAr X E [a] fa) (hm : X.mg "range" = none) (hg : Gl X "range" := by rfl) (hs : starEach [a] X.env = [(false, eval a X.env)] := by rfl) : PUI X E tg (.Call (.Name "range" p1) [a] [] pos) (iR1 fa) := by
  obtain ⟨t, a1, a2⟩ := ha
  exact ⟨_, pi_range1 hg hm a1 hs, PuI.rng1 a2⟩
theorem i_rng2 (ha : PUAr X E [a, b] fa) (hm : X.mg "range" = none) (hg : Gl X "range" := by rfl) (hs : starEach [a, b] X.env = [(false, eval a X.env), (false, eval b X.env)] := by rfl) (hs2 : starEach [b] X.env = [(false, eval b X.env)] := by rfl) :
    PUI X E tg (.Call (.Name "range" p1) [a, b] [] pos) (iR2 fa) := by
  obtain ⟨t, a1, a2⟩ := ha
  exact ⟨_, pi_range2 hg hm a1 hs hs2, PuI.rng2 a2⟩
theorem i_lst (ha : PUE X E iter f) : PUI X E tg iter (iL f) := by
  obtain ⟨t, a1, a2⟩ := ha
  exact ⟨_, pi_list a1, PuI.lst a2⟩
theorem i_tup (ha : PUE X E iter f) : PUI X E tg iter (iT f) := by
  obtain ⟨t, a1, a2⟩ := ha
  exact ⟨_, pi_tup a1, PuI.tup a2⟩
/-! isinstance, len, abs -/
theorem u_isi (T : String) {tn : Str} (ha : PUE X E e f) (hm : X.mg "isinstance" = none) (hT : X.mg tn = none) (hv : bootBuiltins tn = some (.type T)) (hg : Gl X "isinstance" := by rfl) (hgT : Gl X tn := by rfl) (hnT : tn ≠ "__name__" := by decide) (hdT : (tn == ("__debug__" : Str)) = false := by decide)
    (hs1 : starEach [e, .Name tn p2] X.env = (false, eval e X.env) :: starEach [.Name tn p2] X.env := by rfl) (hs2 : starEach [.Name tn p2] X.env = (false, eval (.Name tn p2) X.env) :: starEach [] X.env := by rfl) (hpl : (backTo pos (starEach [.Name tn p2] X.env)).any (·.1) = false := by rfl) :
    PUE X E (.Call (.Name "isinstance" p1) [e, .Name tn p2] [] pos) (xUn (isiD T) f) := by
  obtain ⟨t, a1, a2⟩ := ha
  exact ⟨_, pe_callB call_isi hg hm (by decide +kernel) (pa_cons a1 (pa_cons (pe_bltn hgT hT hv (v := .ty T) rfl hnT hdT) pa_nil hs2) hs1) (by decide) (by decide) hs1 hpl, Pu.isi a2⟩
def rLen2 (K : PySem.W.Frag) : List V → Hp → VK → Prop := fun xs H Q => (∃ p ys, xs = [.ref p] ∧ (SqL K H p ys ∨ SqT K H p ys) ∧ Q (.int ys.length) H) ∨ ∃ x n, xs = [x] ∧ LenV K x H n ∧ Q (.int n) H
theorem call_len2 : CallR X (.builtin "len") (rLen2 X.K) := callR_or call_len_seq call_len
end
section
variable {K : PySem.W.Frag} {mg : MG} {E : XK} {G H : Hp} {v w : V} {d e : D}
theorem RepD.length : ∀ {vs : List (Key × V)} {ds : List (Key × D)}, RepD K mg G vs ds → vs.length = ds.length
  | _, _, .nil => rfl
  | _, _, .cons _ r => congrArg (· + 1) r.length
end
end PL

set_option Elab.async false
set_option linter.all false
set_option maxRecDepth 100000
set_option maxHeartbeats 4000000
/-! PURE LAYER, defs, the head. -/
namespace PL
open PySem PySem.Spec PyProof.Rows L2
section
variable {K : PySem.W.Frag} {mg : MG} {E : XK} {G H : Hp} {v w : V} {d e : D}
theorem lenV_ok (s : Same G H) : ∀ {d : D} {v : V}, Rd1 K mg G H v d → ∀ n : Int, (match d with
  | .lst ds => n = ds.length
  | .tup ds => n = ds.length
  | .str z => z.length ≤ sizeLine ∧ n = z.length
  | _ => False) → ∃ m : Nat, LenV K v H m ∧ n = m := by
  intro d v h n hn
  cases d with
  | lst ds => obtain ⟨a, vs, rfl, q, r⟩ := h.lst s; exact ⟨vs.length, .inl ⟨vs, q, rfl⟩, by rw [r.length]; exact hn⟩
  | tup ds => obtain ⟨a, vs, rfl, q, _, r⟩ := h.tup s; exact ⟨vs.length, .inr ⟨vs, q, rfl⟩, by rw [r.length]; exact hn⟩
  | str z => cases h.str; exact ⟨z.length, ⟨hn.1, rfl⟩, hn.2⟩
  | _ => exact hn.elim
theorem pcall_len : PCall K mg E (fun xs H Q => (∃ x n, xs = [x] ∧ LenV K x H n ∧ Q (.int n) H) ∨ ∃ d kvs, xs = [.ref d] ∧ H d = some (.dK kvs) ∧ Q (.int kvs.length) H) lenD := by
  intro G H vs ds Q s r p
  unfold lenD at p
  split at p
  · obtain ⟨v, rfl, h⟩ := r.one
    obtain ⟨m, h1, h2⟩ := lenV_ok s h _ rfl
    rw [h2] at p
    exact .inl ⟨v, m, rfl, h1, post_int s p⟩
  · obtain ⟨v, rfl, h⟩ := r.one
    obtain ⟨m, h1, h2⟩ := lenV_ok s h _ rfl
    rw [h2] at p
    exact .inl ⟨v, m, rfl, h1, post_int s p⟩
  · obtain ⟨v, rfl, h⟩ := r.one
    obtain ⟨c, p⟩ := post_need p
    obtain ⟨m, h1, h2⟩ := lenV_ok s h _ ⟨c, rfl⟩
    rw [h2] at p
    exact .inl ⟨v, m, rfl, h1, post_int s p⟩
  · obtain ⟨v, rfl, h⟩ := r.one
    obtain ⟨a, kvs, rfl, q, rr⟩ := h.dic s
    rw [← rr.length] at p
    exact .inr ⟨a, kvs, rfl, q, post_int s p⟩
  · exact p.elim
end
section
variable {X : Cx} {E : XK} {e : Expr} {es : List Expr} {fa : Ev → R (List D)} {pos p1 : Pos}
theorem u_len (hm : X.mg "len" = none) (ha : PUAr X E (e :: es) fa) (hg : Gl X "len" := by rfl) (he : starEach (e :: es) X.env = (false, eval e X.env) :: starEach es X.env := by rfl) (hpl : (backTo pos (starEach es X.env)).any (·.1) = false := by rfl) :
    PUE X E (.Call (.Name "len" p1) (e :: es) [] pos) (xBlt lenD fa) := u_blt (callR_or call_len call_lenD) pcall_len hm PySem.boot_len ha hg (by decide) (by decide) he hpl
theorem u_abs (hm : X.mg "abs" = none) (ha : PUAr X E (e :: es) fa) (hg : Gl X "abs" := by rfl) (he : starEach (e :: es) X.env = (false, eval e X.env) :: starEach es X.env := by rfl) (hpl : (backTo pos (starEach es X.env)).any (·.1) = false := by rfl) :
    PUE X E (.Call (.Name "abs" p1) (e :: es) [] pos) (xBlt absD fa) := u_blt call_abs pcall_abs hm (by decide +kernel) ha hg (by decide) (by decide) he hpl
end
/-! ### a def -/
def runB (nN : Nat) (g : Ev → Out) (ds : List D) : R Rs := match g (ds.map .fz ++ List.replicate (nN - ds.length) .no) with
  | .nx _ => .ok (.fz .non)
  | .rt r => .ok r
  | .ex x => .ex x
  | _ => .stuck
structure GoodX (X : Cx) (E : XK) (k : Nat) : Prop where
  nd : X.N.Nodup
  hr : Room k X.A
  hx : Passes (L2.CX X.prog X.w) X E
  po : PassesOwn (model X.prog X.w) X.A X.env X.xe
  tk : Takes X (fun cls d _ H => E cls d H)
theorem startE {K : PySem.W.Frag} {mg : MG} {G H : Hp} {N : List Str} {vs : List V} {ds : List D} (s : Same G H) (r : RepA K mg G vs ds) (hl : vs.length ≤ N.length) :
    CorS K mg G H G H (ds.map .fz ++ List.replicate (N.length - ds.length) .no) (start N vs) := by
  have el := r.length
  have noow : ∀ (i : Nat) (d : D), ¬ (ds.map Sl.fz ++ List.replicate (N.length - ds.length) .no)[i]? = some (.ow d) := fun i d h => by
    have m := List.mem_of_getElem? h
    rcases List.mem_append.mp m with m | m
    · obtain ⟨z, _, e⟩ := List.mem_map.mp m; cases e
    · have e := (List.mem_replicate.mp m).2; cases e
  refine ⟨Ext.refl s, fun i sl h => ?_, ?_, fun i d a h => absurd h (noow i d), fun i j d e a h => absurd h (noow i d)⟩
  · by_cases hi : i < ds.length
    · rw [List.getElem?_append_left (by simpa using hi), List.getElem?_map] at h
      have hd : ds[i]? = some ds[i] := by simp [hi]
      rw [hd] at h
      cases h
      obtain ⟨v, h1, h2⟩ := r.get hd
      refine ⟨v, ?_, h2⟩
      unfold L2.start
      rw [List.getElem?_append_left (by simpa [el] using hi), List.getElem?_map, h1]
      rfl
    · rw [List.getElem?_append_right (by simpa using hi)] at h
      have m := List.mem_of_getElem? h
      have e := (List.mem_replicate.mp m).2
      subst e
      trivial
  · unfold L2.start
    simp only [List.length_append, List.length_map, List.length_replicate]
    omega
theorem def_ok {P : Program} {w : World} {K : PySem.W.Frag} {mg : MG} {base : Heap} {x qual : Str} {params : Arguments} {body : List Stmt} {scope : Scope} {dvs : List V} {kws : List (Str × V)} {f : Addr} {fd : FuncData} {N ps : List Str} {k : Nat} {g : Ev → Out}
    (F : FunD K x qual params body scope dvs kws f fd) (S : FnScope N ps scope)
    (hb : ∀ (cdv : Value) (A : Around) (outer : List Env) (s : Shared) (H : Hp) (E : XK), GoodX (cxOf (L2.CX P w) P w K mg base N qual scope f cdv A outer s H E) E k → PUSs (cxOf (L2.CX P w) P w K mg base N qual scope f cdv A outer s H E) E body g) :
    FnOk P w K mg base (L2.CX P w) (k + 1) f fd ps (spP K mg ps.length (runB N.length g)) := by
  refine F.ok S (fun vs H Q E h => h.1) fun cdv A outer s H vs Q E hr hsp => ?_
  have tk : Takes (cxOf (L2.CX P w) P w K mg base N qual scope f cdv A outer s H E) (fun cls d _ H => E cls d H) := takes_of rfl rfl rfl rfl
  obtain ⟨t, h1, h2⟩ := hb cdv A outer s H E ⟨S.nd, hr, passes_call tk fun _ _ _ _ z => z, passes_of rfl, tk⟩
  refine ⟨t, h1, ?_⟩
  obtain ⟨hl, G, ds, sm, r, p⟩ := hsp
  have hN : ps.length ≤ N.length := by
    have e := congrArg List.length S.pre
    rw [List.length_take] at e
    omega
  refine h2 G H G H _ (start N vs) _ (startE sm r (by rw [hl]; exact hN)) ?_
  unfold runB at p
  cases e : g (ds.map .fz ++ List.replicate (N.length - ds.length) .no) with
  | nx env => rw [e] at p; exact fun G' H' σ' s' c => p G' H' _ c.ext .non
  | rt r => rw [e] at p; exact fun G' H' v s' x rr => p G' H' v x rr
  | ex x => rw [e] at p; exact p
  | bk env => rw [e] at p; exact p.elim
  | ct env => rw [e] at p; exact p.elim
  | stuck => rw [e] at p; exact p.elim
theorem cal_mk {P : Program} {w : World} {K : PySem.W.Frag} {mg : MG} {base : Heap} {x : Str} {ps : List Str} {k : Nat} {m : List D → R Rs} {f : Addr} {fd : FuncData} (F : FnOk P w K mg base (L2.CX P w) k f fd ps (spP K mg ps.length m)) (hm : mg x = some (.ref f)) (kp : PySem.W.keepIn K (.ref f) = true) (b : Binds K fd ps []) :
    Cal P w K mg base k x ps [] m := ⟨f, fd, [], [], F, hm, kp, b, .nil, fun _ => .nil⟩
theorem cal_mkD {P : Program} {w : World} {K : PySem.W.Frag} {mg : MG} {base : Heap} {x : Str} {ps : List Str} {k : Nat} {m : List D → R Rs} {f : Addr} {fd : FuncData} {dvs : List V} {dds : List D} (F : FnOk P w K mg base (L2.CX P w) k f fd ps (spP K mg ps.length m)) (hm : mg x = some (.ref f)) (kp : PySem.W.keepIn K (.ref f) = true) (b : ∃ ds, Vals dvs ds ∧ Binds K fd ps ds) (r : ∀ G, RepA K mg G dvs dds) :
    Cal P w K mg base k x ps dds m := by
  obtain ⟨ds, h1, h2⟩ := b
  exact ⟨f, fd, ds, dvs, F, hm, kp, h2, h1, r⟩
/-! ### the head's facts -/
def obsP (ps : List (PySem.W.Frag → Bool)) (fn : List He.DefD) (K : PySem.W.Frag) : He.AlD := ((ps.all fun p => p K) && fn.all fun d => d.ok K, fn.map fun d => He.fnW K d.at_)
def SaysP (ps : List (PySem.W.Frag → Bool)) (fn : List He.DefD) (K : PySem.W.Frag) : Prop := obsP ps fn K = He.valD fn
def obsPG (n : Nat) (ps : List (PySem.W.Frag → Bool)) (fn : List He.DefD) (g : Addr → Option Obj) : He.AlD := obsP ps fn (He.frG g (He.asD g n))
def hookP (n : Nat) (ps : List (PySem.W.Frag → Bool)) (fn : List He.DefD) : PySem.W.Hook where
  α := He.AlD
  obs := fun s => obsPG n ps fn s.heap.get?
  val := fun _ => He.valD fn
  says := fun _ h => ∃ K : PySem.W.Frag, K.In h ∧ SaysP ps fn K
  of := fun _ _ e => ⟨_, He.frG_in, e⟩
  keeps := fun _ _ _ ⟨K, hK, c⟩ k => ⟨K, PySem.W.Frag.In.keeps hK k, c⟩
theorem obsPG_eq {n : Nat} {ps : List (PySem.W.Frag → Bool)} {fn : List He.DefD} {g : Addr → Option Obj} {s : Shared} (h : ∀ a, g a = s.heap.get? a) : obsPG n ps fn g = (hookP n ps fn).obs s := by
  have e : g = s.heap.get? := funext h
  rw [e] <;> rfl
section
variable {ps : List (PySem.W.Frag → Bool)} {fn : List He.DefD} {K : PySem.W.Frag}
theorem SaysP.fact (c : SaysP ps fn K) (i : Nat) {p : PySem.W.Frag → Bool} (h : ps[i]? = some p := by rfl) : p K = true := by
  have c1 := (He.ba (show ((ps.all fun p => p K) && fn.all fun d => d.ok K) = true from congrArg (fun z : He.AlD => z.1) c)).1
  exact List.all_eq_true.mp c1 p (List.mem_of_getElem? h)
theorem SaysP.def_ (c : SaysP ps fn K) (i : Nat) {d : He.DefD} (h : fn[i]? = some d := by rfl) : ∃ fd, FunD K d.name d.qual d.params d.body d.scope (d.dvs K) (d.kws K) (He.fAd K d.at_) fd := by
  have c2 := (He.ba (show ((ps.all fun p => p K) && fn.all fun d => d.ok K) = true from congrArg (fun z : He.AlD => z.1) c)).2
  have e : fn.map (fun d => He.fnW K d.at_) = fn.map He.DefD.val := congrArg (fun z : He.AlD => z.2) c
  have e2 : (fn.map fun d => He.fnW K d.at_)[i]? = (fn.map He.DefD.val)[i]? := by rw [e]
  rw [List.getElem?_map, List.getElem?_map, h] at e2
  exact He.DefD.funD (Option.some.inj e2) (List.all_eq_true.mp c2 d (List.mem_of_getElem? h))
end
/-! ### the law's end -/
def spLaw (K : PySem.W.Frag) : Sp := fun vs H Q _ => ∃ (a : Addr) (ns : List Int), vs = [.ref a] ∧ SqL K H a (ns.map V.int) ∧ ns.length ≤ 63 ∧ (∀ z ∈ ns, Builtin.Int.intBits z ≤ 1048576) ∧ ∀ H', Q (.bl true) H'
theorem repA_ints {K : PySem.W.Frag} {mg : MG} {G : Hp} : ∀ ns : List Int, RepA K mg G (ns.map V.int) (ns.map D.int)
  | [] => .nil
  | n :: r => .cons (.int n) (repA_ints r)
/-- the mirror says True of every script -/
def LawD (m : List D → R Rs) : Prop := ∀ ns : List Int, ns.length ≤ 63 → (∀ z ∈ ns, Builtin.Int.intBits z ≤ 1048576) → m [.lst (ns.map D.int)] = .ok (.fz (.bl true))
theorem law_sp {P : Program} {w : World} {K : PySem.W.Frag} {mg : MG} {base : Heap} {k : Nat} {f : Addr} {fd : FuncData} {x : Str} {m : List D → R Rs} (F : FnOk P w K mg base (L2.CX P w) k f fd [x] (spP K mg 1 m)) (h : LawD m) :
    FnOk P w K mg base (L2.CX P w) k f fd [x] (spLaw K) := F.imp fun vs H Q E ⟨a, ns, e, hS, hl, hb, q⟩ => by
  subst e
  refine ⟨rfl, H, [.lst (ns.map D.int)], fun _ _ z => z, .cons (.lst hS (repA_ints ns)) .nil, ?_⟩
  rw [h ns hl hb]
  intro G' H' v x r
  cases r
  exact q H'
theorem walk_ofEB {l : PySem.W.OpenLaw} {k : Nat} {q : Program} {loose : List Str} {XP : (Str → Option Value) → Heap → Prop} {YP : World → Heap → Prop} {d : DefRec} {x : Str}
    (hn : l.most = some 63) (hdf : d.params.defaults = []) (hr : Room k callerA)
    (F : ∀ (w : World) (mg : Str → Option Value) (fa : Addr) (h : Heap), YP w h → h.Ns mainGlobals mg → mg d.name = some (.ref fa) →
      ∃ (K : PySem.W.Frag) (fd : FuncData), K.In h ∧ (∀ (s : Shared) (u : Value), BindsTo s fd ⟨[u], []⟩ [(x, u)]) ∧
        ∀ base : Heap, K.In base → base.Ns mainGlobals mg → FnOk l.prog w K mg base (L2.CX l.prog w) k fa fd [x] (spLaw K)) :
    PySem.W.WalkO q loose XP YP l.row.toRowW d [] (fun f vs => PySem.call f vs) := by
  refine Att.attach_callB hn hdf fun w s₀ s₁ mg mb fa o pm cd doc a vs ns G Y ho hd hcd hmg hobj hints hlen hbits hg => ?_
  obtain ⟨K, fd, KX, hb, hF⟩ := F w mg fa _ Y G.T.g hmg
  exact law_call KX G.T.g G.T.b G.T.builtins G.T.nolimit hg hobj hints (Nat.le_trans hlen (by decide)) hr hF hb (fun H hO hS => ⟨a, ns, rfl, hS, hlen, hbits, fun _ => rfl⟩) fun H e s' h => by
    obtain ⟨_, _, _, _, _, _, _, _, _, _, _, _, z⟩ := h
    exact z
end PL

set_option Elab.async false
set_option linter.all false
set_option maxRecDepth 100000
set_option maxHeartbeats 4000000
/-! PURE LAYER, reckoning: rules that open the mirror's words. -/
namespace PL
open PySem PySem.Spec PyProof.Rows L2
section
variable {α β : Type} {env env' : Ev} {f g h : Ev → R Rs} {fa : Ev → R (List D)} {p q : Ev → R Bool} {u v : Ev → Out} {d e : D} {r : Rs} {x : Ex}
@[simp] theorem bind_ok (a : α) (k : α → R β) : R.bind (.ok a) k = k a := rfl
@[simp] theorem bind_ex (x : Ex) (k : α → R β) : R.bind (.ex x) k = .ex x := rfl
@[simp] theorem bind_st (k : α → R β) : R.bind (.stuck) k = .stuck := rfl
@[simp] theorem fz_d : (Rs.fz d).d = d := rfl
@[simp] theorem ow_d : (Rs.ow d).d = d := rfl
@[simp] theorem al_d : (Rs.al d).d = d := rfl
@[simp] theorem fzR_fz : fzR (.ok (.fz d)) = .ok d := rfl
@[simp] theorem fzR_ow : fzR (.ok (.ow d)) = .ok d := rfl
@[simp] theorem fzR_al : fzR (.ok (.al d)) = .stuck := rfl
@[simp] theorem fzR_ex : fzR (.ex x) = .ex x := rfl
@[simp] theorem xC_ (d : D) : xC d env = .ok (.fz d) := rfl
@[simp] theorem sOf_ok (k : Rs → Out) : sOf (.ok r) k = k r := rfl
@[simp] theorem sOf_ex (k : Rs → Out) : sOf (.ex x) k = .ex x := rfl
@[simp] theorem asB_ (b : Bool) : asB (.bl b) = .ok b := rfl
theorem xV0 {s : Sl} {r : Ev} : xVar 0 (s :: r) = (match s with | .fz d => .ok (.fz d) | .ow d => .ok (.al d) | .no => .stuck) := by cases s <;> rfl
theorem xVS {i : Nat} {s : Sl} {r : Ev} : xVar (i + 1) (s :: r) = xVar i r := by simp [xVar]
@[simp] theorem okB_ (b : Bool) : okB b = .ok (.fz (.bl b)) := rfl
@[simp] theorem okI_ (b : Int) : okI b = .ok (.fz (.int b)) := rfl
@[simp] theorem okS_ (b : Str) : okS b = .ok (.fz (.str b)) := rfl
theorem kit_ii : kitB "int" "int" = some true := by decide +kernel
theorem kit_bi : kitB "bool" "int" = some true := by decide +kernel
theorem kit_bb : kitB "bool" "bool" = some true := by decide +kernel
theorem kit_ib : kitB "int" "bool" = some false := by decide +kernel
theorem kit_ni : kitB "NoneType" "int" = some false := by decide +kernel
theorem kit_nb : kitB "NoneType" "bool" = some false := by decide +kernel
theorem kit_si : kitB "str" "int" = some false := by decide +kernel
theorem kit_sb : kitB "str" "bool" = some false := by decide +kernel
theorem kit_ss : kitB "str" "str" = some true := by decide +kernel
theorem kit_is : kitB "int" "str" = some false := by decide +kernel
theorem kit_bs : kitB "bool" "str" = some false := by decide +kernel
theorem kit_ns : kitB "NoneType" "str" = some false := by decide +kernel
theorem kit_tt : kitB "tuple" "tuple" = some true := by decide +kernel
theorem kit_it : kitB "int" "tuple" = some false := by decide +kernel
theorem kit_bt : kitB "bool" "tuple" = some false := by decide +kernel
theorem kit_nt : kitB "NoneType" "tuple" = some false := by decide +kernel
theorem kit_st : kitB "str" "tuple" = some false := by decide +kernel
theorem kit_lt : kitB "list" "tuple" = some false := by decide +kernel
theorem kit_dt : kitB "dict" "tuple" = some false := by decide +kernel
theorem kit_ls : kitB "list" "str" = some false := by decide +kernel
theorem kit_ds : kitB "dict" "str" = some false := by decide +kernel
theorem kit_ts : kitB "tuple" "str" = some false := by decide +kernel
theorem kit_li : kitB "list" "int" = some false := by decide +kernel
theorem kit_di : kitB "dict" "int" = some false := by decide +kernel
theorem kit_ti : kitB "tuple" "int" = some false := by decide +kernel
theorem kit_lb : kitB "list" "bool" = some false := by decide +kernel
theorem kit_db : kitB "dict" "bool" = some false := by decide +kernel
theorem kit_tb : kitB "tuple" "bool" = some false := by decide +kernel
theorem kit_ll : kitB "list" "list" = some true := by decide +kernel
theorem kit_il : kitB "int" "list" = some false := by decide +kernel
theorem kit_nl : kitB "NoneType" "list" = some false := by decide +kernel
theorem kit_tl : kitB "tuple" "list" = some false := by decide +kernel
theorem kit_sl : kitB "str" "list" = some false := by decide +kernel
@[simp] theorem isi_ii (i : Int) : isiD "int" (.int i) = .ok (.fz (.bl true)) := by simp [isiD, kindD, kit_ii]
@[simp] theorem isi_ib (i : Int) : isiD "bool" (.int i) = .ok (.fz (.bl false)) := by simp [isiD, kindD, kit_ib]
@[simp] theorem isi_is (i : Int) : isiD "str" (.int i) = .ok (.fz (.bl false)) := by simp [isiD, kindD, kit_is]
@[simp] theorem isi_it (i : Int) : isiD "tuple" (.int i) = .ok (.fz (.bl false)) := by simp [isiD, kindD, kit_it]
@[simp] theorem isi_bi (i : Bool) : isiD "int" (.bl i) = .ok (.fz (.bl true)) := by simp [isiD, kindD, kit_bi]
@[simp] theorem isi_bb (i : Bool) : isiD "bool" (.bl i) = .ok (.fz (.bl true)) := by simp [isiD, kindD, kit_bb]
@[simp] theorem isi_bs (i : Bool) : isiD "str" (.bl i) = .ok (.fz (.bl false)) := by simp [isiD, kindD, kit_bs]
@[simp] theorem isi_bt (i : Bool) : isiD "tuple" (.bl i) = .ok (.fz (.bl false)) := by simp [isiD, kindD, kit_bt]
@[simp] theorem isi_ni : isiD "int" .non = .ok (.fz (.bl false)) := by simp [isiD, kindD, kit_ni]
@[simp] theorem isi_nb : isiD "bool" .non = .ok (.fz (.bl false)) := by simp [isiD, kindD, kit_nb]
@[simp] theorem isi_ns : isiD "str" .non = .ok (.fz (.bl false)) := by simp [isiD, kindD, kit_ns]
@[simp] theorem isi_nt : isiD "tuple" .non = .ok (.fz (.bl false)) := by simp [isiD, kindD, kit_nt]
@[simp] theorem isi_si (i : Str) : isiD "int" (.str i) = .ok (.fz (.bl false)) := by simp [isiD, kindD, kit_si]
@[simp] theorem isi_sb (i : Str) : isiD "bool" (.str i) = .ok (.fz (.bl false)) := by simp [isiD, kindD, kit_sb]
@[simp] theorem isi_ss (i : Str) : isiD "str" (.str i) = .ok (.fz (.bl true)) := by simp [isiD, kindD, kit_ss]
@[simp] theorem isi_st (i : Str) : isiD "tuple" (.str i) = .ok (.fz (.bl false)) := by simp [isiD, kindD, kit_st]
@[simp] theorem isi_ti (i : List D) : isiD "int" (.tup i) = .ok (.fz (.bl false)) := by simp [isiD, kindD, kit_ti]
@[simp] theorem isi_tb (i : List D) : isiD "bool" (.tup i) = .ok (.fz (.bl false)) := by simp [isiD, kindD, kit_tb]
@[simp] theorem isi_ts (i : List D) : isiD "str" (.tup i) = .ok (.fz (.bl false)) := by simp [isiD, kindD, kit_ts]
@[simp] theorem isi_tt (i : List D) : isiD "tuple" (.tup i) = .ok (.fz (.bl true)) := by simp [isiD, kindD, kit_tt]
@[simp] theorem isi_li (i : List D) : isiD "int" (.lst i) = .ok (.fz (.bl false)) := by simp [isiD, kindD, kit_li]
@[simp] theorem isi_lb (i : List D) : isiD "bool" (.lst i) = .ok (.fz (.bl false)) := by simp [isiD, kindD, kit_lb]
@[simp] theorem isi_ls (i : List D) : isiD "str" (.lst i) = .ok (.fz (.bl false)) := by simp [isiD, kindD, kit_ls]
@[simp] theorem isi_lt (i : List D) : isiD "tuple" (.lst i) = .ok (.fz (.bl false)) := by simp [isiD, kindD, kit_lt]
@[simp] theorem isi_di (i : List (Key × D)) : isiD "int" (.dic i) = .ok (.fz (.bl false)) := by simp [isiD, kindD, kit_di]
@[simp] theorem isi_db (i : List (Key × D)) : isiD "bool" (.dic i) = .ok (.fz (.bl false)) := by simp [isiD, kindD, kit_db]
@[simp] theorem isi_ds (i : List (Key × D)) : isiD "str" (.dic i) = .ok (.fz (.bl false)) := by simp [isiD, kindD, kit_ds]
@[simp] theorem isi_dt (i : List (Key × D)) : isiD "tuple" (.dic i) = .ok (.fz (.bl false)) := by simp [isiD, kindD, kit_dt]
/-! the words opened -/
def slR : Option Sl → R Rs
  | some (.fz d) => .ok (.fz d)
  | some (.ow d) => .ok (.al d)
  | _ => .stuck
@[simp] theorem xVar_ (i : Nat) : xVar i env = slR env[i]? := rfl
@[simp] theorem slR_fz : slR (some (.fz d)) = .ok (.fz d) := rfl
@[simp] theorem slR_ow : slR (some (.ow d)) = .ok (.al d) := rfl
@[simp] theorem xUn_ (g : D → R Rs) : xUn g f env = R.bind (f env) fun r => g r.d := rfl
@[simp] theorem xBin_ (g : D → D → R Rs) : xBin g f h env = R.bind (f env) fun r1 => R.bind (h env) fun r2 => g r1.d r2.d := rfl
@[simp] theorem xB_ : xB f env = R.bind (f env) fun r => asB r.d := rfl
@[simp] theorem xAnd_ : xAnd p q env = R.bind (p env) fun b => if b = true then q env else .ok false := rfl
@[simp] theorem xOr_ : xOr p q env = R.bind (p env) fun b => if b = true then .ok true else q env := rfl
@[simp] theorem xNot_ : xNot p env = R.bind (p env) fun b => .ok (!b) := rfl
@[simp] theorem xAndV_ : xAndV f g env = R.bind (xB f env) fun b => if b = true then g env else .ok (.fz (.bl false)) := rfl
@[simp] theorem xOrV_ : xOrV f g env = R.bind (xB f env) fun b => if b = true then .ok (.fz (.bl true)) else g env := rfl
@[simp] theorem xNotV_ : xNotV f env = R.bind (xB f env) fun b => .ok (.fz (.bl (!b))) := rfl
@[simp] theorem xIf_ : xIf p f g env = R.bind (p env) fun b => if b = true then f env else g env := rfl
@[simp] theorem xNil_ : xNil env = .ok [] := rfl
@[simp] theorem xCons_ : xCons f fa env = R.bind (fzR (f env)) fun d => R.bind (fa env) fun ds => .ok (d :: ds) := rfl
@[simp] theorem xConsR_ : xConsR f fa env = R.bind (f env) fun r => R.bind (fa env) fun ds => .ok (r.d :: ds) := rfl
@[simp] theorem xCall_ (n : Nat) (m : List D → R Rs) (dds : List D) : xCall n m dds fa env = R.bind (fa env) fun ds => if (ds ++ dds).length = n then m (ds ++ dds) else .stuck := rfl
@[simp] theorem xLend_ (n : Nat) (m : List D → R Rs) (dds : List D) : xLend n m dds fa env = R.bind (fa env) fun ds => if (ds ++ dds).length = n then scalR (m (ds ++ dds)) else .stuck := rfl
@[simp] theorem xBlt_ (g : List D → R Rs) : xBlt g fa env = R.bind (fa env) g := rfl
@[simp] theorem xTup_ : xTup fa env = R.bind (fa env) fun ds => need (ds.length ≤ 1000) (.ok (.fz (.tup ds))) := rfl
@[simp] theorem xLst_ : xLst fa env = R.bind (fa env) fun ds => need (ds.length ≤ 1000) (.ok (.ow (.lst ds))) := rfl
def Out.thn (o : Out) (g : Ev → Out) : Out := match o with
  | .nx e => g e
  | o => o
@[simp] theorem thn_nx (g : Ev → Out) : Out.thn (.nx env) g = g env := rfl
@[simp] theorem thn_rt (g : Ev → Out) : Out.thn (.rt r) g = .rt r := rfl
@[simp] theorem thn_ex (g : Ev → Out) : Out.thn (.ex x) g = .ex x := rfl
@[simp] theorem thn_bk (g : Ev → Out) : Out.thn (.bk env) g = .bk env := rfl
@[simp] theorem thn_ct (g : Ev → Out) : Out.thn (.ct env) g = .ct env := rfl
@[simp] theorem thn_st (g : Ev → Out) : Out.thn .stuck g = .stuck := rfl
@[simp] theorem sSeq_ : sSeq u v env = Out.thn (u env) v := by unfold sSeq Out.thn; cases u env <;> rfl
@[simp] theorem sNext_ : sNext env = .nx env := rfl
@[simp] theorem sBreak_ : sBreak env = .bk env := rfl
@[simp] theorem sCont_ : sCont env = .ct env := rfl
def rsSet (i : Nat) (env : Ev) : Rs → Out
  | .fz d => .nx (env.set i (.fz d))
  | .ow d => .nx (env.set i (.ow d))
  | .al _ => .stuck
@[simp] theorem sSet_ (i : Nat) : sSet i f env = sOf (f env) (rsSet i env) := by unfold sSet rsSet; rfl
@[simp] theorem rsSet_fz (i : Nat) : rsSet i env (.fz d) = .nx (env.set i (.fz d)) := rfl
@[simp] theorem rsSet_ow (i : Nat) : rsSet i env (.ow d) = .nx (env.set i (.ow d)) := rfl
@[simp] theorem sDrop_ : sDrop f env = sOf (f env) fun _ => .nx env := rfl
def rsRet : Rs → Out
  | .al _ => .stuck
  | r => .rt r
@[simp] theorem sRet_ : sRet f env = sOf (f env) rsRet := by unfold sRet rsRet; rfl
@[simp] theorem rsRet_fz : rsRet (.fz d) = .rt (.fz d) := rfl
@[simp] theorem rsRet_ow : rsRet (.ow d) = .rt (.ow d) := rfl
@[simp] theorem sRetN_ : sRetN env = .rt (.fz .non) := rfl
def slRet : Option Sl → Out
  | some (.fz d) => .rt (.fz d)
  | some (.ow d) => .rt (.ow d)
  | _ => .stuck
@[simp] theorem sRetV_ (i : Nat) : sRetV i env = slRet env[i]? := rfl
@[simp] theorem slRet_fz : slRet (some (.fz d)) = .rt (.fz d) := rfl
@[simp] theorem slRet_ow : slRet (some (.ow d)) = .rt (.ow d) := rfl
def ifT (b : R Bool) (x y : Out) : Out := match b with
  | .ok b => if b = true then x else y
  | .ex x => .ex x
  | .stuck => .stuck
@[simp] theorem sIf_ : sIf p u v env = ifT (p env) (u env) (v env) := by unfold sIf ifT; cases p env <;> rfl
@[simp] theorem ifT_ok (b : Bool) (x y : Out) : ifT (.ok b) x y = if b = true then x else y := rfl
@[simp] theorem ifT_ex (x y : Out) (z : Ex) : ifT (.ex z) x y = .ex z := rfl
def outR : Out → R Rs
  | .nx _ => .ok (.fz .non)
  | .rt r => .ok r
  | .ex x => .ex x
  | _ => .stuck
theorem runB_ (n : Nat) (ds : List D) : runB n u ds = outR (u (ds.map .fz ++ List.replicate (n - ds.length) .no)) := by unfold runB outR; cases u (ds.map .fz ++ List.replicate (n - ds.length) .no) <;> rfl
@[simp] theorem outR_nx : outR (.nx env) = .ok (.fz .non) := rfl
@[simp] theorem outR_rt : outR (.rt r) = .ok r := rfl
@[simp] theorem outR_ex : outR (.ex x) = .ex x := rfl
@[simp] theorem frzAt_ (i : Nat) : sFrz i u env = u (frzAt i env) := rfl
section
variable {c : Prop} [Decidable c]
@[simp] theorem bind_if (a b : R α) (k : α → R β) : R.bind (if c then a else b) k = if c then R.bind a k else R.bind b k := by split <;> rfl
@[simp] theorem thn_if (a b : Out) (k : Ev → Out) : Out.thn (if c then a else b) k = if c then Out.thn a k else Out.thn b k := by split <;> rfl
@[simp] theorem sOf_if (a b : R Rs) (k : Rs → Out) : sOf (if c then a else b) k = if c then sOf a k else sOf b k := by split <;> rfl
@[simp] theorem fzR_if (a b : R Rs) : fzR (if c then a else b) = if c then fzR a else fzR b := by split <;> rfl
@[simp] theorem ifT_if (a b : R Bool) (x y : Out) : ifT (if c then a else b) x y = if c then ifT a x y else ifT b x y := by split <;> rfl
@[simp] theorem outR_if (a b : Out) : outR (if c then a else b) = if c then outR a else outR b := by split <;> rfl
end
@[simp] theorem int2_ (g : Int → Int → R Rs) (i j : Int) : int2 g (.int i) (.int j) = g i j := rfl
@[simp] theorem add_ii (i j : Int) : addD (.int i) (.int j) = .ok (.fz (.int (i + j))) := rfl
@[simp] theorem add_ss (i j : Str) : addD (.str i) (.str j) = need (i.length + j.length ≤ sizeLine) (okS (i ++ j)) := rfl
@[simp] theorem add_tt (i j : List D) : addD (.tup i) (.tup j) = need (i.length + j.length ≤ sizeLine) (.ok (.fz (.tup (i ++ j)))) := rfl
@[simp] theorem add_ll (i j : List D) : addD (.lst i) (.lst j) = need (i.length + j.length ≤ sizeLine) (.ok (.ow (.lst (i ++ j)))) := rfl
@[simp] theorem neg_i (i : Int) : negD (.int i) = .ok (.fz (.int (-i))) := rfl
@[simp] theorem isN_n : isND .non = .ok (.fz (.bl true)) := rfl
@[simp] theorem isN_i (i : Int) : isND (.int i) = .ok (.fz (.bl false)) := rfl
@[simp] theorem isN_t (i : List D) : isND (.tup i) = .ok (.fz (.bl false)) := rfl
@[simp] theorem isN_l (i : List D) : isND (.lst i) = .ok (.fz (.bl false)) := rfl
@[simp] theorem isN_s (i : Str) : isND (.str i) = .ok (.fz (.bl false)) := rfl
@[simp] theorem isN_b (i : Bool) : isND (.bl i) = .ok (.fz (.bl false)) := rfl
@[simp] theorem isNN_n : isNN .non = .ok (.fz (.bl false)) := rfl
@[simp] theorem isNN_i (i : Int) : isNN (.int i) = .ok (.fz (.bl true)) := rfl
@[simp] theorem isNN_t (i : List D) : isNN (.tup i) = .ok (.fz (.bl true)) := rfl
@[simp] theorem isNN_l (i : List D) : isNN (.lst i) = .ok (.fz (.bl true)) := rfl
@[simp] theorem isNN_s (i : Str) : isNN (.str i) = .ok (.fz (.bl true)) := rfl
@[simp] theorem isNN_b (i : Bool) : isNN (.bl i) = .ok (.fz (.bl true)) := rfl
@[simp] theorem len_l (i : List D) : lenD [.lst i] = .ok (.fz (.int i.length)) := rfl
@[simp] theorem len_t (i : List D) : lenD [.tup i] = .ok (.fz (.int i.length)) := rfl
@[simp] theorem len_s (i : Str) : lenD [.str i] = need (i.length ≤ sizeLine) (.ok (.fz (.int i.length))) := rfl
@[simp] theorem abs_i (i : Int) : absD [.int i] = .ok (.fz (.int (if i < 0 then -i else i))) := rfl
/-! loops -/
theorem forL_inv0 {put : D → Option (List (Nat × D))} {body : Ev → Out} (I : Nat → Ev → Prop) : ∀ (ds : List D) (k : Nat) (env : Ev),
    (∀ i env d, ds[i]? = some d → I (k + i) env → ∃ l env', put d = some l ∧ (body (setL env l) = .nx env' ∨ body (setL env l) = .ct env') ∧ I (k + i + 1) env') → I k env → ∃ env', forL put body ds env = .nx env' ∧ I (k + ds.length) env'
  | [], k, env, _, h => ⟨env, rfl, h⟩
  | d :: ds, k, env, hs, h => by
    obtain ⟨l, env1, h1, h2, h3⟩ := hs 0 env d rfl h
    obtain ⟨env2, h4, h5⟩ := forL_inv0 I ds (k + 1) env1 (fun i env d hd hi => by
      obtain ⟨l, env', q1, q2, q3⟩ := hs (i + 1) env d hd (by rw [show k + (i + 1) = k + 1 + i by omega]; exact hi)
      exact ⟨l, env', q1, q2, by rw [show k + 1 + i + 1 = k + (i + 1) + 1 by omega]; exact q3⟩) h3
    refine ⟨env2, ?_, by rw [show k + (d :: ds).length = k + 1 + ds.length by simp; omega]; exact h5⟩
    unfold forL
    rw [h1]
    dsimp only
    rcases h2 with h2 | h2 <;> rw [h2] <;> exact h4
/-- a for whose every turn goes on -/
theorem forL_inv {put : D → Option (List (Nat × D))} {body : Ev → Out} (I : Nat → Ev → Prop) (ds : List D) (env : Ev)
    (hs : ∀ i env d, ds[i]? = some d → I i env → ∃ l env', put d = some l ∧ (body (setL env l) = .nx env' ∨ body (setL env l) = .ct env') ∧ I (i + 1) env') (h : I 0 env) : ∃ env', forL put body ds env = .nx env' ∧ I ds.length env' := by
  obtain ⟨env', h1, h2⟩ := forL_inv0 I ds 0 env (fun i env d hd hi => by rw [Nat.zero_add] at hi ⊢; exact hs i env d hd hi) h
  exact ⟨env', h1, by rw [Nat.zero_add] at h2; exact h2⟩
def forR (put : D → Option (List (Nat × D))) (body : Ev → Out) (env : Ev) : R (List D) → Out
  | .ok ds => forL put body ds env
  | .ex x => .ex x
  | .stuck => .stuck
@[simp] theorem sFor_ (put : D → Option (List (Nat × D))) (body : Ev → Out) : sFor put fa body env = forR put body env (fa env) := by unfold sFor forR; cases fa env <;> rfl
@[simp] theorem forR_ok (put : D → Option (List (Nat × D))) (body : Ev → Out) (ds : List D) : forR put body env (.ok ds) = forL put body ds env := rfl
@[simp] theorem forR_ex (put : D → Option (List (Nat × D))) (body : Ev → Out) : forR put body env (.ex x) = .ex x := rfl
noncomputable def rng1R (ds : List D) : R (List D) := match ds with
  | [.int j] => need (-(2 ^ 62) ≤ j ∧ j < 2 ^ 62) (.ok (rngL 0 j.toNat))
  | _ => .stuck
@[simp] theorem iR1_ : iR1 fa env = R.bind (fa env) rng1R := by unfold iR1 rng1R; rfl
theorem rng1_ (j : Int) (h0 : -(2 ^ 62) ≤ j := by omega) (h1 : j < 2 ^ 62 := by omega) : rng1R [.int j] = .ok (rngL 0 j.toNat) := by
  unfold rng1R
  dsimp only
  rw [need_pos ⟨h0, h1⟩]
theorem rngL_at {lo : Int} {n i : Nat} {d : D} (h : (rngL lo n)[i]? = some d) : i < n ∧ d = .int (lo + (i : Int)) := by
  have hi : i < n := by
    have q := (List.getElem?_eq_some_iff.mp h).1
    rw [rngL_len] at q; exact q
  rw [rngL_get lo n i hi] at h
  cases h
  exact ⟨hi, rfl⟩
@[simp] theorem gN_ (i : Nat) : gN i d = some [(i, d)] := rfl
@[simp] theorem setL_nil : setL env [] = env := rfl
@[simp] theorem setL_cons (i : Nat) (l : List (Nat × D)) : setL env ((i, d) :: l) = setL (env.set i (.fz d)) l := rfl
/-! subscripts -/
def atR : Option D → R Rs
  | some x => .ok (.fz x)
  | none => .stuck
@[simp] theorem ix_l (ds : List D) (i : Int) : ixD (.lst ds) (.int i) = atR (atI ds i) := by unfold ixD atR; rfl
@[simp] theorem ix_t (ds : List D) (i : Int) : ixD (.tup ds) (.int i) = atR (atI ds i) := by unfold ixD atR; rfl
@[simp] theorem atR_some (x : D) : atR (some x) = .ok (.fz x) := rfl
theorem atI_some {α : Type} {ds : List α} {i : Int} {j : Nat} {x : α} (e : i = (j : Int)) (h : ds[j]? = some x) : atI ds i = some x := by rw [e]; exact atI_nat h
/-! equality of small things -/
@[simp] theorem eq_ii (i j : Int) : eqD (.int i) (.int j) = .ok (.fz (.bl (decide (i = j)))) := by
  have e : (i == j) = decide (i = j) := by rw [Bool.eq_iff_iff]; simp
  simp [eqD, D.pl, eqB, D.toPy, PyData.eqv, e]
@[simp] theorem ne_ii (i j : Int) : neD (.int i) (.int j) = .ok (.fz (.bl (!decide (i = j)))) := by
  have e : (i == j) = decide (i = j) := by rw [Bool.eq_iff_iff]; simp
  simp [neD, D.pl, eqB, D.toPy, PyData.eqv, e]
@[simp] theorem eq_bb (i j : Bool) : eqD (.bl i) (.bl j) = .ok (.fz (.bl (i == j))) := by simp [eqD, D.pl, eqB, D.toPy, PyData.eqv]
@[simp] theorem ne_bb (i j : Bool) : neD (.bl i) (.bl j) = .ok (.fz (.bl (!(i == j)))) := by simp [neD, D.pl, eqB, D.toPy, PyData.eqv]
@[simp] theorem need_t {α : Type} {c : Prop} {r : R α} (h : c) : need c r = r := need_pos h
@[simp] theorem mod_ (i j : Int) (h : 0 < j) : modI i j = .ok (.fz (.int (i % j))) := by unfold modI; rw [need_pos h]; rfl
theorem fdiv_ (i j : Int) (h : 0 < j) (h2 : j.natAbs.log2 < 9000) : fdivI i j = .ok (.fz (.int (i / j))) := by unfold fdivI; rw [need_pos ⟨h, h2⟩]; rfl
theorem log2_small {i : Int} {n : Nat} (h : i.natAbs < 2 ^ n) (hn : 0 < n) : i.natAbs.log2 < n := PySem.Flt.log2_lt_of hn h
theorem mul_ (i j : Int) (a b : Nat) (ha : i.natAbs < 2 ^ a) (hb : j.natAbs < 2 ^ b) (h0 : 0 < a := by omega) (h1 : 0 < b := by omega) (h : a + b ≤ 1000000 := by omega) : mulI i j = .ok (.fz (.int (i * j))) := by
  have q : i.natAbs.log2 + j.natAbs.log2 < 1000000 := wide_mul ha hb h0 h1 h
  unfold mulI; rw [need_pos q]; rfl
end
end PL

set_option Elab.async false
set_option linter.all false
set_option maxRecDepth 100000
set_option maxHeartbeats 8000000
namespace Cy
open PySem PySem.Spec PyProof.Rows L2 PL
def top (i : Nat) : Stmt := PySem.Challenge.pw_clockyard_k10_bounds_told.main.body.getD i (.Pass ⟨0, 0, 0, 0⟩)
abbrev s__law_bound : Stmt := top 5
abbrev s__law_same : Stmt := top 7
abbrev s_sum_of : Stmt := top 1
abbrev s_is_tighter : Stmt := top 2
abbrev s__law_is_less : Stmt := top 6
abbrev s_least_of : Stmt := top 3
abbrev s__law_right : Stmt := top 8
abbrev s_law : Stmt := top 9
/-- _law_bound (0 _law_more, 1 _law_cell, 2 _law_mixed) -/
noncomputable def g__law_bound : Ev → Out :=
(sSeq (sSet 2 (xBin modD (xBin addD (xBin mulD (xVar 0) (xVar 0)) (xBin mulD (xC (.int 16807)) (xVar 0))) (xC (.int 2147483629))))
(sSeq (sIf (xB (xBin eqD (xBin modD (xVar 2) (xC (.int 4))) (xC (.int 0))))
(sRet (xC .non))
sNext)
(sSeq (sIf (xB (xBin eqD (xBin modD (xVar 2) (xC (.int 4))) (xC (.int 1))))
(sRet (xBin subD (xBin modD (xBin fdivD (xVar 2) (xC (.int 4))) (xC (.int 7))) (xC (.int 3))))
sNext)
(sRet (xBin subD (xBin modD (xBin addD (xVar 1) (xBin fdivD (xVar 2) (xC (.int 4)))) (xBin addD (xBin mulD (xC (.int 2)) (xBin powD (xC (.int 10)) (xC (.int 6)))) (xC (.int 1)))) (xBin powD (xC (.int 10)) (xC (.int 6))))))))
noncomputable def m__law_bound : List D → R Rs := runB 3 g__law_bound
/-- _law_same (0 _law_found, 1 _law_due) -/
noncomputable def g__law_same : Ev → Out :=
(sSeq (sIf (xB (xUn isND (xVar 1)))
(sRet (xUn isND (xVar 0)))
sNext)
(sRet (xAndV (xUn (isiD "int") (xVar 0)) (xAndV (xNotV (xUn (isiD "bool") (xVar 0))) (xBin eqD (xVar 0) (xVar 1))))))
noncomputable def m__law_same : List D → R Rs := runB 2 g__law_same
/-- sum_of (0 one, 1 other) -/
noncomputable def g_sum_of : Ev → Out :=
(sSeq (sIf (xOr (xB (xUn isND (xVar 0))) (xB (xUn isND (xVar 1))))
(sRet (xC .non))
sNext)
(sRet (xBin addD (xVar 0) (xVar 1))))
noncomputable def m_sum_of : List D → R Rs := runB 2 g_sum_of
/-- is_tighter (0 one, 1 other) -/
noncomputable def g_is_tighter : Ev → Out :=
(sSeq (sIf (xB (xUn isND (xVar 0)))
(sRet (xC (.bl false)))
sNext)
(sRet (xOrV (xUn isND (xVar 1)) (xBin ltI (xVar 0) (xVar 1)))))
noncomputable def m_is_tighter : List D → R Rs := runB 2 g_is_tighter
/-- _law_is_less (0 _law_one, 1 _law_other) -/
noncomputable def g__law_is_less : Ev → Out :=
(sSeq (sIf (xB (xUn isND (xVar 0)))
(sRet (xC (.bl false)))
sNext)
(sRet (xOrV (xUn isND (xVar 1)) (xBin ltI (xVar 0) (xVar 1)))))
noncomputable def m__law_is_less : List D → R Rs := runB 2 g__law_is_less
/-- least_of (0 one, 1 other) -/
noncomputable def g_least_of : Ev → Out :=
(sSeq (sIf (xB (xCall 2 m_is_tighter [] (xCons (xVar 1) (xCons (xVar 0) xNil))))
(sRetV 1)
sNext)
(sRetV 0))
noncomputable def m_least_of : List D → R Rs := runB 2 g_least_of
/-- _law_right (0 _law_one, 1 _law_other, 2 _law_due, 3 _law_found) -/
noncomputable def g__law_right : Ev → Out :=
(sSeq (sSet 2 (xC .non))
(sSeq (sIf (xAnd (xB (xUn isNN (xVar 0))) (xB (xUn isNN (xVar 1))))
(sSet 2 (xBin addD (xVar 0) (xVar 1)))
sNext)
(sSeq (sIf (xNot (xB (xCall 2 m__law_same [] (xCons (xCall 2 m_sum_of [] (xCons (xVar 0) (xCons (xVar 1) xNil))) (xCons (xVar 2) xNil)))))
(sRet (xC (.bl false)))
sNext)
(sSeq (sSet 3 (xCall 2 m_is_tighter [] (xCons (xVar 0) (xCons (xVar 1) xNil))))
(sSeq (sIf (xOr (xNot (xB (xUn (isiD "bool") (xVar 3)))) (xB (xBin neD (xVar 3) (xCall 2 m__law_is_less [] (xCons (xVar 0) (xCons (xVar 1) xNil))))))
(sRet (xC (.bl false)))
sNext)
(sSeq (sIf (xB (xCall 2 m__law_is_less [] (xCons (xVar 1) (xCons (xVar 0) xNil))))
(sRet (xCall 2 m__law_same [] (xCons (xCall 2 m_least_of [] (xCons (xVar 0) (xCons (xVar 1) xNil))) (xCons (xVar 1) xNil))))
sNext)
(sRet (xCall 2 m__law_same [] (xCons (xCall 2 m_least_of [] (xCons (xVar 0) (xCons (xVar 1) xNil))) (xCons (xVar 0) xNil))))))))))
noncomputable def m__law_right : List D → R Rs := runB 4 g__law_right
/-- law (0 _law_script, 1 _law_more, 2 _law_k, 3 _law_cell, 4 _law_one, 5 _law_other) -/
noncomputable def b_law_0 : Ev → Out :=
(sSeq (sSet 3 (xVar 2))
(sSeq (sIf (xB (xBin ltI (xVar 2) (xBlt lenD (xConsR (xVar 0) xNil))))
(sSet 3 (xBin ixD (xVar 0) (xVar 2)))
sNext)
(sSeq (sSet 1 (xBin modD (xBin addD (xBin addD (xBin addD (xBin mulD (xVar 1) (xC (.int 48271))) (xVar 3)) (xBin mulD (xC (.int 31)) (xVar 2))) (xC (.int 1))) (xC (.int 2147483647))))
(sSeq (sSet 4 (xCall 2 m__law_bound [] (xCons (xVar 1) (xCons (xVar 3) xNil))))
(sSeq (sSet 1 (xBin modD (xBin addD (xBin addD (xBin mulD (xVar 1) (xC (.int 69621))) (xVar 3)) (xC (.int 1))) (xC (.int 2147483647))))
(sSeq (sSet 5 (xCall 2 m__law_bound [] (xCons (xVar 1) (xCons (xVar 3) xNil))))
(sIf (xOr (xNot (xB (xCall 2 m__law_right [] (xCons (xVar 4) (xCons (xVar 5) xNil))))) (xOr (xNot (xB (xCall 2 m__law_right [] (xCons (xVar 5) (xCons (xVar 4) xNil))))) (xNot (xB (xCall 2 m__law_right [] (xCons (xVar 4) (xCons (xVar 4) xNil)))))))
(sRet (xC (.bl false)))
sNext)))))))
noncomputable def g_law : Ev → Out :=
(sSeq (sSet 1 (xC (.int 7)))
(sSeq (sFor (gN 2) (iR1 (xConsR (xBin addD (xBlt lenD (xConsR (xVar 0) xNil)) (xC (.int 6))) xNil))
b_law_0)
(sRet (xCall 2 m__law_right [] (xCons (xC .non) (xCons (xC .non) xNil))))))
noncomputable def m_law : List D → R Rs := runB 6 g_law
end Cy

set_option Elab.async false
set_option linter.all false
set_option maxRecDepth 100000
set_option maxHeartbeats 8000000
namespace Cy
open PySem PySem.Spec PyProof.Rows L2 PL
section
variable {P : Program} {w : World} {K : PySem.W.Frag} {mg : MG} {base : Heap}
theorem sc__law_bound : FnScope ["_law_more", "_law_cell", "_law_mixed"] ["_law_more", "_law_cell"] (defScope s__law_bound) := ⟨rfl, rfl, rfl, by decide +kernel, rfl, by decide +kernel, by decide +kernel⟩
theorem ok__law_bound {fa : Addr} {fd : FuncData} (F : FunD K "_law_bound" "_law_bound" (defArgs s__law_bound) (defBody s__law_bound) (defScope s__law_bound) [] [] fa fd) : FnOk P w K mg base (L2.CX P w) 1 fa fd ["_law_more", "_law_cell"] (spP K mg 2 m__law_bound) :=
  def_ok F sc__law_bound fun cdv A outer s H E G => show PUSs _ E (defBody s__law_bound) g__law_bound from
(ss_cons (s_set 2 G.nd (u_mod (u_add (u_mul (u_var 0) (u_var 0)) (u_mul u_int (u_var 0))) u_int))
(ss_cons (s_if (t_eq G.hr (u_mod (u_var 2) u_int) u_int)
(ss_one (s_ret u_non))
ss_nil)
(ss_cons (s_if (t_eq G.hr (u_mod (u_var 2) u_int) u_int)
(ss_one (s_ret (u_sub (u_mod (u_fdiv (u_var 2) u_int) u_int) u_int)))
ss_nil)
(ss_one (s_ret (u_sub (u_mod (u_add (u_var 1) (u_fdiv (u_var 2) u_int)) (u_add (u_mul u_int (u_pow u_int u_int)) u_int)) (u_pow u_int u_int)))))))
theorem sc__law_same : FnScope ["_law_found", "_law_due"] ["_law_found", "_law_due"] (defScope s__law_same) := ⟨rfl, rfl, rfl, by decide +kernel, rfl, by decide +kernel, by decide +kernel⟩
theorem ok__law_same (n_bool : mg "bool" = none) (n_int : mg "int" = none) (n_isinstance : mg "isinstance" = none) {fa : Addr} {fd : FuncData} (F : FunD K "_law_same" "_law_same" (defArgs s__law_same) (defBody s__law_same) (defScope s__law_same) [] [] fa fd) : FnOk P w K mg base (L2.CX P w) 1 fa fd ["_law_found", "_law_due"] (spP K mg 2 m__law_same) :=
  def_ok F sc__law_same fun cdv A outer s H E G => show PUSs _ E (defBody s__law_same) g__law_same from
(ss_cons (s_if (t_isN (u_var 1))
(ss_one (s_ret (u_isN (u_var 0))))
ss_nil)
(ss_one (s_ret (u_and (u_isi "int" (u_var 0) n_isinstance n_int (by decide +kernel)) (u_and (u_not (u_isi "bool" (u_var 0) n_isinstance n_bool (by decide +kernel))) (u_one (u_eq G.hr (u_var 0) (u_var 1))))))))
theorem sc_sum_of : FnScope ["one", "other"] ["one", "other"] (defScope s_sum_of) := ⟨rfl, rfl, rfl, by decide +kernel, rfl, by decide +kernel, by decide +kernel⟩
theorem ok_sum_of {fa : Addr} {fd : FuncData} (F : FunD K "sum_of" "sum_of" (defArgs s_sum_of) (defBody s_sum_of) (defScope s_sum_of) [] [] fa fd) : FnOk P w K mg base (L2.CX P w) 1 fa fd ["one", "other"] (spP K mg 2 m_sum_of) :=
  def_ok F sc_sum_of fun cdv A outer s H E G => show PUSs _ E (defBody s_sum_of) g_sum_of from
(ss_cons (s_if (t_w (w_or (t_isN (u_var 0)) (w_or1 (t_isN (u_var 1)))))
(ss_one (s_ret u_non))
ss_nil)
(ss_one (s_ret (u_add (u_var 0) (u_var 1)))))
theorem sc_is_tighter : FnScope ["one", "other"] ["one", "other"] (defScope s_is_tighter) := ⟨rfl, rfl, rfl, by decide +kernel, rfl, by decide +kernel, by decide +kernel⟩
theorem ok_is_tighter {fa : Addr} {fd : FuncData} (F : FunD K "is_tighter" "is_tighter" (defArgs s_is_tighter) (defBody s_is_tighter) (defScope s_is_tighter) [] [] fa fd) : FnOk P w K mg base (L2.CX P w) 1 fa fd ["one", "other"] (spP K mg 2 m_is_tighter) :=
  def_ok F sc_is_tighter fun cdv A outer s H E G => show PUSs _ E (defBody s_is_tighter) g_is_tighter from
(ss_cons (s_if (t_isN (u_var 0))
(ss_one (s_ret u_bl))
ss_nil)
(ss_one (s_ret (u_or (u_isN (u_var 1)) (u_one (u_lt (u_var 0) (u_var 1)))))))
theorem sc__law_is_less : FnScope ["_law_one", "_law_other"] ["_law_one", "_law_other"] (defScope s__law_is_less) := ⟨rfl, rfl, rfl, by decide +kernel, rfl, by decide +kernel, by decide +kernel⟩
theorem ok__law_is_less {fa : Addr} {fd : FuncData} (F : FunD K "_law_is_less" "_law_is_less" (defArgs s__law_is_less) (defBody s__law_is_less) (defScope s__law_is_less) [] [] fa fd) : FnOk P w K mg base (L2.CX P w) 1 fa fd ["_law_one", "_law_other"] (spP K mg 2 m__law_is_less) :=
  def_ok F sc__law_is_less fun cdv A outer s H E G => show PUSs _ E (defBody s__law_is_less) g__law_is_less from
(ss_cons (s_if (t_isN (u_var 0))
(ss_one (s_ret u_bl))
ss_nil)
(ss_one (s_ret (u_or (u_isN (u_var 1)) (u_one (u_lt (u_var 0) (u_var 1)))))))
theorem sc_least_of : FnScope ["one", "other"] ["one", "other"] (defScope s_least_of) := ⟨rfl, rfl, rfl, by decide +kernel, rfl, by decide +kernel, by decide +kernel⟩
theorem ok_least_of (C_is_tighter : Cal P w K mg base 1 "is_tighter" ["one", "other"] [] m_is_tighter) {fa : Addr} {fd : FuncData} (F : FunD K "least_of" "least_of" (defArgs s_least_of) (defBody s_least_of) (defScope s_least_of) [] [] fa fd) : FnOk P w K mg base (L2.CX P w) 2 fa fd ["one", "other"] (spP K mg 2 m_least_of) :=
  def_ok F sc_least_of fun cdv A outer s H E G => show PUSs _ E (defBody s_least_of) g_least_of from
(ss_cons (s_if (t_val (u_call C_is_tighter G.hr (by decide) G.hx (a_cons (u_var 1) (a_cons (u_var 0) a_nil))))
(ss_one (s_retV 1))
ss_nil)
(ss_one (s_retV 0)))
theorem sc__law_right : FnScope ["_law_one", "_law_other", "_law_due", "_law_found"] ["_law_one", "_law_other"] (defScope s__law_right) := ⟨rfl, rfl, rfl, by decide +kernel, rfl, by decide +kernel, by decide +kernel⟩
theorem ok__law_right (n_bool : mg "bool" = none) (n_isinstance : mg "isinstance" = none) (C__law_is_less : Cal P w K mg base 1 "_law_is_less" ["_law_one", "_law_other"] [] m__law_is_less) (C__law_same : Cal P w K mg base 1 "_law_same" ["_law_found", "_law_due"] [] m__law_same) (C_is_tighter : Cal P w K mg base 1 "is_tighter" ["one", "other"] [] m_is_tighter) (C_least_of : Cal P w K mg base 2 "least_of" ["one", "other"] [] m_least_of) (C_sum_of : Cal P w K mg base 1 "sum_of" ["one", "other"] [] m_sum_of) {fa : Addr} {fd : FuncData} (F : FunD K "_law_right" "_law_right" (defArgs s__law_right) (defBody s__law_right) (defScope s__law_right) [] [] fa fd) : FnOk P w K mg base (L2.CX P w) 3 fa fd ["_law_one", "_law_other"] (spP K mg 2 m__law_right) :=
  def_ok F sc__law_right fun cdv A outer s H E G => show PUSs _ E (defBody s__law_right) g__law_right from
(ss_cons (s_set 2 G.nd u_non)
(ss_cons (s_if (t_w (w_and (t_notN (u_var 0)) (w_and1 (t_notN (u_var 1)))))
(ss_one (s_set 2 G.nd (u_add (u_var 0) (u_var 1))))
ss_nil)
(ss_cons (s_if (t_not (t_val (u_call C__law_same G.hr (by decide) G.hx (a_cons (u_call C_sum_of G.hr (by decide) G.hx (a_cons (u_var 0) (a_cons (u_var 1) a_nil))) (a_cons (u_var 2) a_nil)))))
(ss_one (s_ret u_bl))
ss_nil)
(ss_cons (s_set 3 G.nd (u_call C_is_tighter G.hr (by decide) G.hx (a_cons (u_var 0) (a_cons (u_var 1) a_nil))))
(ss_cons (s_if (t_w (w_or (t_not (t_val (u_isi "bool" (u_var 3) n_isinstance n_bool (by decide +kernel)))) (w_or1 (t_ne G.hr (u_var 3) (u_call C__law_is_less G.hr (by decide) G.hx (a_cons (u_var 0) (a_cons (u_var 1) a_nil)))))))
(ss_one (s_ret u_bl))
ss_nil)
(ss_cons (s_if (t_val (u_call C__law_is_less G.hr (by decide) G.hx (a_cons (u_var 1) (a_cons (u_var 0) a_nil))))
(ss_one (s_ret (u_call C__law_same G.hr (by decide) G.hx (a_cons (u_call C_least_of G.hr (by decide) G.hx (a_cons (u_var 0) (a_cons (u_var 1) a_nil))) (a_cons (u_var 1) a_nil)))))
ss_nil)
(ss_one (s_ret (u_call C__law_same G.hr (by decide) G.hx (a_cons (u_call C_least_of G.hr (by decide) G.hx (a_cons (u_var 0) (a_cons (u_var 1) a_nil))) (a_cons (u_var 0) a_nil)))))))))))
theorem sc_law : FnScope ["_law_script", "_law_more", "_law_k", "_law_cell", "_law_one", "_law_other"] ["_law_script"] (defScope s_law) := ⟨rfl, rfl, rfl, by decide +kernel, rfl, by decide +kernel, by decide +kernel⟩
theorem ok_law (n_len : mg "len" = none) (n_range : mg "range" = none) (C__law_bound : Cal P w K mg base 1 "_law_bound" ["_law_more", "_law_cell"] [] m__law_bound) (C__law_right : Cal P w K mg base 3 "_law_right" ["_law_one", "_law_other"] [] m__law_right) {fa : Addr} {fd : FuncData} (F : FunD K "law" "law" (defArgs s_law) (defBody s_law) (defScope s_law) [] [] fa fd) : FnOk P w K mg base (L2.CX P w) 4 fa fd ["_law_script"] (spP K mg 1 m_law) :=
  def_ok F sc_law fun cdv A outer s H E G => show PUSs _ E (defBody s_law) g_law from
(ss_cons (s_set 1 G.nd u_int)
(ss_cons (s_for G.po (i_rng1 (r_cons (u_add (u_len n_len (r_cons (u_var 0) r_nil)) u_int) r_nil) n_range) (g_name 2 G.nd)
(show PUSs _ E _ b_law_0 from (ss_cons (s_set 3 G.nd (u_var 2))
(ss_cons (s_if (t_lt (u_var 2) (u_len n_len (r_cons (u_var 0) r_nil)))
(ss_one (s_set 3 G.nd (u_ix (u_var 0) (u_var 2))))
ss_nil)
(ss_cons (s_set 1 G.nd (u_mod (u_add (u_add (u_add (u_mul (u_var 1) u_int) (u_var 3)) (u_mul u_int (u_var 2))) u_int) u_int))
(ss_cons (s_set 4 G.nd (u_call C__law_bound G.hr (by decide) G.hx (a_cons (u_var 1) (a_cons (u_var 3) a_nil))))
(ss_cons (s_set 1 G.nd (u_mod (u_add (u_add (u_mul (u_var 1) u_int) (u_var 3)) u_int) u_int))
(ss_cons (s_set 5 G.nd (u_call C__law_bound G.hr (by decide) G.hx (a_cons (u_var 1) (a_cons (u_var 3) a_nil))))
(ss_one (s_if (t_w (w_or (t_not (t_val (u_call C__law_right G.hr (by decide) G.hx (a_cons (u_var 4) (a_cons (u_var 5) a_nil))))) (w_or (t_not (t_val (u_call C__law_right G.hr (by decide) G.hx (a_cons (u_var 5) (a_cons (u_var 4) a_nil))))) (w_or1 (t_not (t_val (u_call C__law_right G.hr (by decide) G.hx (a_cons (u_var 4) (a_cons (u_var 4) a_nil)))))))))
(ss_one (s_ret u_bl))
ss_nil))))))))))
(ss_one (s_ret (u_call C__law_right G.hr (by decide) G.hx (a_cons u_non (a_cons u_non a_nil)))))))
end
end Cy

set_option Elab.async false
set_option linter.all false
set_option maxRecDepth 100000
set_option maxHeartbeats 8000000
namespace Cy
open PySem PySem.Spec PyProof.Rows L2 PL
def d__law_bound : He.DefD := ⟨("_law_bound", none), "_law_bound", "_law_bound", defArgs s__law_bound, defBody s__law_bound, defScope s__law_bound, [], []⟩
def d__law_same : He.DefD := ⟨("_law_same", none), "_law_same", "_law_same", defArgs s__law_same, defBody s__law_same, defScope s__law_same, [], []⟩
def d_sum_of : He.DefD := ⟨("sum_of", none), "sum_of", "sum_of", defArgs s_sum_of, defBody s_sum_of, defScope s_sum_of, [], []⟩
def d_is_tighter : He.DefD := ⟨("is_tighter", none), "is_tighter", "is_tighter", defArgs s_is_tighter, defBody s_is_tighter, defScope s_is_tighter, [], []⟩
def d__law_is_less : He.DefD := ⟨("_law_is_less", none), "_law_is_less", "_law_is_less", defArgs s__law_is_less, defBody s__law_is_less, defScope s__law_is_less, [], []⟩
def d_least_of : He.DefD := ⟨("least_of", none), "least_of", "least_of", defArgs s_least_of, defBody s_least_of, defScope s_least_of, [], []⟩
def d__law_right : He.DefD := ⟨("_law_right", none), "_law_right", "_law_right", defArgs s__law_right, defBody s__law_right, defScope s__law_right, [], []⟩
def d_law : He.DefD := ⟨("law", none), "law", "law", defArgs s_law, defBody s_law, defScope s_law, [], []⟩
def fn : List He.DefD := [d__law_bound, d__law_same, d_sum_of, d_is_tighter, d__law_is_less, d_least_of, d__law_right, d_law]
def fa : List (PySem.W.Frag → Bool) := [fun K => (He.Fa.free "bool").ok K, fun K => (He.Fa.free "int").ok K, fun K => (He.Fa.free "isinstance").ok K, fun K => (He.Fa.free "len").ok K, fun K => (He.Fa.free "range").ok K, fun K => (He.Fa.glo "_law_bound").ok K, fun K => (He.Fa.glo "_law_same").ok K, fun K => (He.Fa.glo "sum_of").ok K, fun K => (He.Fa.glo "is_tighter").ok K, fun K => (He.Fa.glo "_law_is_less").ok K, fun K => (He.Fa.glo "least_of").ok K, fun K => (He.Fa.glo "_law_right").ok K, fun K => (He.Fa.glo "law").ok K]
abbrev Rw : PySem.W.OpenRow := PySem.W.OpenLaw.row PySem.Challenge.rw_clockyard_k10_bounds_told
abbrev hk : PySem.W.Hook := hookP 4 fa fn
def ob (s : PySem.W.SharedT) : He.AlD := obsPG 4 fa fn (HandSHeadRun.getT s)
theorem ob_eq (s : PySem.W.SharedT) : ob s = hk.obs s.abs := obsPG_eq (HandSHeadRun.getT_eq s)
def loose : List PySem.Str := (["sum_of", "is_tighter", "least_of", "_law_bound", "_law_is_less", "_law_same", "_law_right"] : List PySem.Str)
theorem run (w : World) : HandSHeadRun.RunEq Rw (PySem.W.view Rw.prog [9]) hk ob 3000 loose w := by
  intro os
  kernel_rfl
theorem facts {P : Program} {w : World} {K : PySem.W.Frag} {h : Heap} {mg : MG} {f : Addr} (X : K.In h) (G : h.Ns mainGlobals mg) (hfa : mg ("law" : Str) = some (.ref f)) (c : SaysP fa fn K) (law_true : LawD m_law) :
    ∃ fd : FuncData, (∀ (s : Shared) (v : Value), BindsTo s fd ⟨[v], []⟩ [("_law_script", v)]) ∧ ∀ base : Heap, K.In base → base.Ns mainGlobals mg → FnOk P w K mg base (L2.CX P w) 4 f fd ["_law_script"] (spLaw K) := by
  have n_bool : mg "bool" = none := He.free_ok X G (c.fact 0 (p := fun K => (He.Fa.free "bool").ok K) rfl)
  have n_int : mg "int" = none := He.free_ok X G (c.fact 1 (p := fun K => (He.Fa.free "int").ok K) rfl)
  have n_isinstance : mg "isinstance" = none := He.free_ok X G (c.fact 2 (p := fun K => (He.Fa.free "isinstance").ok K) rfl)
  have n_len : mg "len" = none := He.free_ok X G (c.fact 3 (p := fun K => (He.Fa.free "len").ok K) rfl)
  have n_range : mg "range" = none := He.free_ok X G (c.fact 4 (p := fun K => (He.Fa.free "range").ok K) rfl)
  obtain ⟨fd__law_bound, F__law_bound⟩ := c.def_ 0 (d := d__law_bound) rfl
  have a__law_bound : mg "_law_bound" = some (.ref (He.ga K "_law_bound")) := He.glo_ok X G (c.fact 5 (p := fun K => (He.Fa.glo "_law_bound").ok K) rfl)
  obtain ⟨fd__law_same, F__law_same⟩ := c.def_ 1 (d := d__law_same) rfl
  have a__law_same : mg "_law_same" = some (.ref (He.ga K "_law_same")) := He.glo_ok X G (c.fact 6 (p := fun K => (He.Fa.glo "_law_same").ok K) rfl)
  obtain ⟨fd_sum_of, F_sum_of⟩ := c.def_ 2 (d := d_sum_of) rfl
  have a_sum_of : mg "sum_of" = some (.ref (He.ga K "sum_of")) := He.glo_ok X G (c.fact 7 (p := fun K => (He.Fa.glo "sum_of").ok K) rfl)
  obtain ⟨fd_is_tighter, F_is_tighter⟩ := c.def_ 3 (d := d_is_tighter) rfl
  have a_is_tighter : mg "is_tighter" = some (.ref (He.ga K "is_tighter")) := He.glo_ok X G (c.fact 8 (p := fun K => (He.Fa.glo "is_tighter").ok K) rfl)
  obtain ⟨fd__law_is_less, F__law_is_less⟩ := c.def_ 4 (d := d__law_is_less) rfl
  have a__law_is_less : mg "_law_is_less" = some (.ref (He.ga K "_law_is_less")) := He.glo_ok X G (c.fact 9 (p := fun K => (He.Fa.glo "_law_is_less").ok K) rfl)
  obtain ⟨fd_least_of, F_least_of⟩ := c.def_ 5 (d := d_least_of) rfl
  have a_least_of : mg "least_of" = some (.ref (He.ga K "least_of")) := He.glo_ok X G (c.fact 10 (p := fun K => (He.Fa.glo "least_of").ok K) rfl)
  obtain ⟨fd__law_right, F__law_right⟩ := c.def_ 6 (d := d__law_right) rfl
  have a__law_right : mg "_law_right" = some (.ref (He.ga K "_law_right")) := He.glo_ok X G (c.fact 11 (p := fun K => (He.Fa.glo "_law_right").ok K) rfl)
  obtain ⟨fd_law, F_law⟩ := c.def_ 7 (d := d_law) rfl
  have a_law : mg "law" = some (.ref (He.ga K "law")) := He.glo_ok X G (c.fact 12 (p := fun K => (He.Fa.glo "law").ok K) rfl)
  have e := hfa.symm.trans a_law
  cases e
  have bl := FunD.bindsA (ps := ["_law_script"]) F_law fun _ _ _ _ _ _ us hl => match us, hl with | [_], _ => rfl
  refine ⟨fd_law, fun s v => bl s [v] rfl, fun base _ _ => ?_⟩
  have O__law_bound := ok__law_bound (P := P) (w := w) (K := K) (mg := mg) (base := base) F__law_bound
  have C__law_bound : Cal P w K mg base 1 "_law_bound" ["_law_more", "_law_cell"] [] m__law_bound := cal_mk O__law_bound a__law_bound F__law_bound.kp (FunD.bindsN F__law_bound fun _ _ _ _ _ _ us hl => match us, hl with | [_, _], _ => rfl)
  have O__law_same := ok__law_same (P := P) (w := w) (K := K) (mg := mg) (base := base) n_bool n_int n_isinstance F__law_same
  have C__law_same : Cal P w K mg base 1 "_law_same" ["_law_found", "_law_due"] [] m__law_same := cal_mk O__law_same a__law_same F__law_same.kp (FunD.bindsN F__law_same fun _ _ _ _ _ _ us hl => match us, hl with | [_, _], _ => rfl)
  have O_sum_of := ok_sum_of (P := P) (w := w) (K := K) (mg := mg) (base := base) F_sum_of
  have C_sum_of : Cal P w K mg base 1 "sum_of" ["one", "other"] [] m_sum_of := cal_mk O_sum_of a_sum_of F_sum_of.kp (FunD.bindsN F_sum_of fun _ _ _ _ _ _ us hl => match us, hl with | [_, _], _ => rfl)
  have O_is_tighter := ok_is_tighter (P := P) (w := w) (K := K) (mg := mg) (base := base) F_is_tighter
  have C_is_tighter : Cal P w K mg base 1 "is_tighter" ["one", "other"] [] m_is_tighter := cal_mk O_is_tighter a_is_tighter F_is_tighter.kp (FunD.bindsN F_is_tighter fun _ _ _ _ _ _ us hl => match us, hl with | [_, _], _ => rfl)
  have O__law_is_less := ok__law_is_less (P := P) (w := w) (K := K) (mg := mg) (base := base) F__law_is_less
  have C__law_is_less : Cal P w K mg base 1 "_law_is_less" ["_law_one", "_law_other"] [] m__law_is_less := cal_mk O__law_is_less a__law_is_less F__law_is_less.kp (FunD.bindsN F__law_is_less fun _ _ _ _ _ _ us hl => match us, hl with | [_, _], _ => rfl)
  have O_least_of := ok_least_of (P := P) (w := w) (K := K) (mg := mg) (base := base) C_is_tighter F_least_of
  have C_least_of : Cal P w K mg base 2 "least_of" ["one", "other"] [] m_least_of := cal_mk O_least_of a_least_of F_least_of.kp (FunD.bindsN F_least_of fun _ _ _ _ _ _ us hl => match us, hl with | [_, _], _ => rfl)
  have O__law_right := ok__law_right (P := P) (w := w) (K := K) (mg := mg) (base := base) n_bool n_isinstance C__law_is_less C__law_same C_is_tighter C_least_of C_sum_of F__law_right
  have C__law_right : Cal P w K mg base 3 "_law_right" ["_law_one", "_law_other"] [] m__law_right := cal_mk O__law_right a__law_right F__law_right.kp (FunD.bindsN F__law_right fun _ _ _ _ _ _ us hl => match us, hl with | [_, _], _ => rfl)
  have O_law := ok_law (P := P) (w := w) (K := K) (mg := mg) (base := base) n_len n_range C__law_bound C__law_right F_law
  exact law_sp O_law law_true
end Cy

set_option Elab.async false
set_option linter.all false
set_option maxRecDepth 100000
set_option maxHeartbeats 4000000
namespace Cy
open PySem PySem.Spec PyProof.Rows L2 PL
def enc : Option Int → D
  | none => .non
  | some i => .int i
theorem bound_ok (a c : Int) (h0 : 0 ≤ a) (h1 : a < 2147483647) : ∃ b, m__law_bound [.int a, .int c] = .ok (.fz (enc b)) := by
  have e1 : mulI a a = .ok (.fz (.int (a * a))) := mul_ a a 31 31 (by omega) (by omega)
  have e2 : mulI 16807 a = .ok (.fz (.int (16807 * a))) := mul_ 16807 a 31 31 (by omega) (by omega)
  have e3 : mulI 2 1000000 = .ok (.fz (.int 2000000)) := mul_ 2 1000000 31 31 (by omega) (by omega)
  have e4 : powI 10 6 = .ok (.fz (.int 1000000)) := by unfold powI; rw [need_pos (by decide)]; rfl
  have f4 : ∀ i, fdivI i 4 = .ok (.fz (.int (i / 4))) := fun i => fdiv_ i 4 (by omega) (by decide)
  simp [m__law_bound, g__law_bound, runB_, e1, e2, e3, e4, f4]
  split
  · exact ⟨none, rfl⟩
  · split
    · exact ⟨some _, rfl⟩
    · exact ⟨some _, rfl⟩
theorem sum_of_ok : ∀ a b : Option Int, m_sum_of [enc a, enc b] = .ok (.fz (enc (match a, b with | some i, some j => some (i + j) | _, _ => none)))
  | none, none => by simp [m_sum_of, g_sum_of, runB_, enc]
  | none, some i => by simp [m_sum_of, g_sum_of, runB_, enc]
  | some i, none => by simp [m_sum_of, g_sum_of, runB_, enc]
  | some i, some j => by simp [m_sum_of, g_sum_of, runB_, enc]
def lt : Option Int → Option Int → Bool
  | none, _ => false
  | some _, none => true
  | some i, some j => decide (i < j)
theorem tighter_ok : ∀ a b : Option Int, m_is_tighter [enc a, enc b] = .ok (.fz (.bl (lt a b)))
  | none, none => by simp [m_is_tighter, g_is_tighter, runB_, enc, lt]
  | none, some i => by simp [m_is_tighter, g_is_tighter, runB_, enc, lt]
  | some i, none => by simp [m_is_tighter, g_is_tighter, runB_, enc, lt]
  | some i, some j => by simp [m_is_tighter, g_is_tighter, runB_, enc, lt]
theorem less_ok : ∀ a b : Option Int, m__law_is_less [enc a, enc b] = .ok (.fz (.bl (lt a b)))
  | none, none => by simp [m__law_is_less, g__law_is_less, runB_, enc, lt]
  | none, some i => by simp [m__law_is_less, g__law_is_less, runB_, enc, lt]
  | some i, none => by simp [m__law_is_less, g__law_is_less, runB_, enc, lt]
  | some i, some j => by simp [m__law_is_less, g__law_is_less, runB_, enc, lt]
theorem least_ok (a b : Option Int) : m_least_of [enc a, enc b] = .ok (.fz (enc (if lt b a then b else a))) := by
  simp [m_least_of, g_least_of, runB_, tighter_ok]
  split <;> rfl
theorem same_ok : ∀ a b : Option Int, a = b → m__law_same [enc a, enc b] = .ok (.fz (.bl true))
  | none, _, rfl => by simp [m__law_same, g__law_same, runB_, enc]
  | some i, _, rfl => by simp [m__law_same, g__law_same, runB_, enc]
theorem right_ok (a b : Option Int) : m__law_right [enc a, enc b] = .ok (.fz (.bl true)) := by
  have s1 := same_ok
  cases a with
  | none =>
    cases b with
    | none =>
      have h := same_ok none none rfl
      have h2 := sum_of_ok none none
      have h3 := tighter_ok none none
      have h4 := less_ok none none
      have h5 := least_ok none none
      simp [enc, lt] at h h2 h3 h4 h5
      simp [m__law_right, g__law_right, runB_, enc, h, h2, h3, h4, h5]
    | some j =>
      have h := same_ok none none rfl
      have h' := same_ok (some j) (some j) rfl
      have h2 := sum_of_ok none (some j)
      have h3 := tighter_ok none (some j)
      have h4 := less_ok none (some j)
      have h6 := less_ok (some j) none
      have h5 := least_ok none (some j)
      simp [enc, lt] at h h' h2 h3 h4 h5 h6
      simp [m__law_right, g__law_right, runB_, enc, h, h', h2, h3, h4, h5, h6]
  | some i =>
    cases b with
    | none =>
      have h := same_ok none none rfl
      have h' := same_ok (some i) (some i) rfl
      have h2 := sum_of_ok (some i) none
      have h3 := tighter_ok (some i) none
      have h4 := less_ok (some i) none
      have h6 := less_ok none (some i)
      have h5 := least_ok (some i) none
      simp [enc, lt] at h h' h2 h3 h4 h5 h6
      simp [m__law_right, g__law_right, runB_, enc, h, h', h2, h3, h4, h5, h6]
    | some j =>
      have h := same_ok (some (i + j)) (some (i + j)) rfl
      have h' := same_ok (some i) (some i) rfl
      have h'' := same_ok (some j) (some j) rfl
      have h2 := sum_of_ok (some i) (some j)
      have h3 := tighter_ok (some i) (some j)
      have h4 := less_ok (some i) (some j)
      have h6 := less_ok (some j) (some i)
      have h5 := least_ok (some i) (some j)
      simp only [enc, lt] at h h' h'' h2 h3 h4 h5 h6
      by_cases c : j < i
      · simp [c] at h5 h6
        simp [m__law_right, g__law_right, runB_, enc, h, h', h'', h2, h3, h4, h5, h6]
      · simp [c] at h5 h6
        simp [m__law_right, g__law_right, runB_, enc, h, h', h'', h2, h3, h4, h5, h6]
theorem hmod (z : Int) : 0 ≤ z % 2147483647 ∧ z % 2147483647 < 2147483647 := ⟨Int.emod_nonneg _ (by decide), Int.emod_lt_of_pos _ (by decide)⟩
def Iv (ns : List Int) : Nat → Ev → Prop := fun k env => ∃ (more : Int) (s2 s3 s4 s5 : Sl), env = [.fz (.lst (ns.map D.int)), .fz (.int more), s2, s3, s4, s5] ∧ 0 ≤ more ∧ more < 2147483647
theorem turn (ns : List Int) (i : Nat) (more : Int) (s3 s4 s5 : Sl) (hl : ns.length ≤ 63) (hi : i < ns.length + 6) (h0 : 0 ≤ more) (h1 : more < 2147483647) :
    ∃ env', b_law_0 [.fz (.lst (ns.map D.int)), .fz (.int more), .fz (.int i), s3, s4, s5] = .nx env' ∧ Iv ns (i + 1) env' := by
  have m1 : mulI more 48271 = .ok (.fz (.int (more * 48271))) := mul_ more 48271 31 31 (by omega) (by omega)
  have m2 : mulI 31 i = .ok (.fz (.int (31 * i))) := mul_ 31 i 31 31 (by omega) (by omega)
  have m3 : ∀ z : Int, mulI (z % 2147483647) 69621 = .ok (.fz (.int (z % 2147483647 * 69621))) := fun z => by
    have q := hmod z
    exact mul_ _ 69621 31 31 (by omega) (by omega)
  by_cases c : i < ns.length
  · have ha : atI (ns.map D.int) (i : Int) = some (.int ns[i]) := atI_some rfl (by simp [c])
    obtain ⟨b1, e1⟩ := bound_ok ((more * 48271 + ns[i] + 31 * i + 1) % 2147483647) ns[i] (hmod _).1 (hmod _).2
    obtain ⟨b2, e2⟩ := bound_ok (((more * 48271 + ns[i] + 31 * i + 1) % 2147483647 * 69621 + ns[i] + 1) % 2147483647) ns[i] (hmod _).1 (hmod _).2
    simp [b_law_0, c, m1, m2, m3, ha, e1, e2, right_ok]
    exact ⟨_, _, _, _, _, rfl, hmod _⟩
  · obtain ⟨b1, e1⟩ := bound_ok ((more * 48271 + (i : Int) + 31 * i + 1) % 2147483647) i (hmod _).1 (hmod _).2
    obtain ⟨b2, e2⟩ := bound_ok (((more * 48271 + (i : Int) + 31 * i + 1) % 2147483647 * 69621 + (i : Int) + 1) % 2147483647) i (hmod _).1 (hmod _).2
    simp [b_law_0, c, m1, m2, m3, e1, e2, right_ok]
    exact ⟨_, _, _, _, _, rfl, hmod _⟩
theorem rl (n : Nat) (h : n ≤ 63) : rng1R [.int ((n : Int) + 6)] = .ok (rngL 0 (n + 6)) := by
  rw [rng1_ _ (by omega) (by omega)]
  have e : ((n : Int) + 6).toNat = n + 6 := by omega
  rw [e]
theorem loop (ns : List Int) (hl : ns.length ≤ 63) : ∃ env', forL (gN 2) b_law_0 (rngL 0 (ns.length + 6)) [.fz (.lst (ns.map D.int)), .fz (.int 7), .no, .no, .no, .no] = .nx env' ∧ ∃ k, Iv ns k env' := by
  obtain ⟨env', h1, h2⟩ := forL_inv (put := gN 2) (body := b_law_0) (Iv ns) (rngL 0 (ns.length + 6)) [.fz (.lst (ns.map D.int)), .fz (.int 7), .no, .no, .no, .no] (by
    rintro i env d hd ⟨more, s2, s3, s4, s5, rfl, h0, h1⟩
    obtain ⟨hi, rfl⟩ := rngL_at hd
    have hz : (0 : Int) + (i : Int) = i := by omega
    rw [hz]
    obtain ⟨env', q1, q2⟩ := turn ns i more s3 s4 s5 hl hi h0 h1
    exact ⟨_, env', rfl, .inl q1, q2⟩) ⟨7, _, _, _, _, rfl, by omega, by omega⟩
  exact ⟨env', h1, _, h2⟩
theorem law_true : LawD m_law := by
  intro ns hl hb
  obtain ⟨env', h1, k, more, s2, s3, s4, s5, h2, h3, h4⟩ := loop ns hl
  have hr := right_ok none none
  rw [show enc none = D.non from rfl] at hr
  have e7 := rl ns.length hl
  subst h2
  simp [m_law, runB_, g_law, e7, h1, hr]
end Cy

set_option Elab.async false
set_option linter.all false
set_option maxRecDepth 100000
set_option maxHeartbeats 8000000
open PySem PySem.W PySem.Calls PyProof.Rows
theorem PySem.Challenge.cw_clockyard_k10_bounds_told_holds : PySem.Challenge.rw_clockyard_k10_bounds_told.Holds := by
  w_on; o_law
  refine HandSHeadRun.head_any (r := OpenLaw.row PySem.Challenge.rw_clockyard_k10_bounds_told) (q := view (OpenLaw.row PySem.Challenge.rw_clockyard_k10_bounds_told).prog [9]) (H := Cy.hk) (ob := Cy.ob) (M := 3000) (loose := Cy.loose) (d := HandSHeadRun.topDef (OpenLaw.row PySem.Challenge.rw_clockyard_k10_bounds_told).prog 9) (kwd := []) Cy.ob_eq
    (by kernel_rfl) (fun s => by kernel_rfl) Cy.run (by kernel_rfl) (by kernel_rfl) (by kernel_rfl) (by rfl) (by first | assumption | decide +kernel) (by decide +kernel) ⟨rfl, rfl, rfl, rfl, rfl, by decide +kernel⟩ ?hw ?hc
  case hw => w_witness2
  case hc =>
    refine PL.walk_ofEB (l := PySem.Challenge.rw_clockyard_k10_bounds_told) (k := 4) (x := "_law_script") rfl (by kernel_rfl) ⟨rfl, by decide, by decide⟩ ?F
    intro w mg fa h Y G hmg0
    obtain ⟨K, KX, c⟩ := Y
    have hmg : mg ("law" : PySem.Str) = some (.ref fa) := by
      have e : (HandSHeadRun.topDef (OpenLaw.row PySem.Challenge.rw_clockyard_k10_bounds_told).prog 9).name = ("law" : PySem.Str) := by kernel_rfl
      rw [← e]
      exact hmg0
    obtain ⟨fd, hb, hF⟩ := Cy.facts (P := (PySem.Challenge.rw_clockyard_k10_bounds_told).prog) (w := w) KX G hmg c Cy.law_true
    exact ⟨K, fd, KX, hb, hF⟩
