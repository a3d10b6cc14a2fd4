import PyProof.Rows.All
import Wide.All
import OpenK.AllK
import Wide.FinOn
import HandS.ForMost
import HandS.ForExc
import HandS.Wide
import HandS.IsInst
import HandS.CallSlots
import HandS.TupAny
import HandS.WideBits
import HandS.HeadHook2
import HandS.EndBits
import HandS.HeadEnd
import HandS.Head2
import HandS.WordsDict
import HandS.Text
import HandS.Deep
import HandS.Style
import HandS.Iter
import HandS.FStr
import HandS.ExcIs
import HandS.ExcValue
import PyProof.Rows.StrFromFirst
import PyProof.Rows.StrSplitCount
import PyProof.StrLawsChain
import PyProof.Rows.StrLawsPart
import KE.KIntText
import KE.IntTextText
import PyProof.Rows.StrIntSpec
import PySem.Challenge.RW_clockyard_k02_time_texts
set_option Elab.async false
set_option linter.all false
set_option maxRecDepth 100000
set_option maxHeartbeats 4000000
/-! PURE LAYER. Data, what stands for it, what an expression hands back. -/
namespace PL
open PySem PySem.Spec PyProof.Rows L2
inductive D where
  | non | bl (b : Bool) | int (i : Int) | str (s : Str)
  | lst (xs : List D) | tup (xs : List D) | dic (kvs : List (Key × D)) | obj (c : Str) (fs : List (Str × D)) | exc (c : Str)
abbrev MG := Str → Option Value
/-- an exception's object of the class at C, held as a value -/
def ExV (C a : Addr) : HO := .ext fun h => ∃ (oe : Obj) (vs : Array Value), h.get? a = some oe ∧ Zc (.ref C) none oe ∧ oe.data = .fields vs
mutual
inductive Rep (K : PySem.W.Frag) (mg : MG) (G : Hp) : V → D → Prop
  | non : Rep K mg G .non .non
  | bl (b : Bool) : Rep K mg G (.bl b) (.bl b)
  | int (i : Int) : Rep K mg G (.int i) (.int i)
  | str (s : Str) : Rep K mg G (.str s) (.str s)
  | lst {a : Addr} {vs : List V} {ds : List D} : SqL K G a vs → RepA K mg G vs ds → Rep K mg G (.ref a) (.lst ds)
  | tup {a : Addr} {vs : List V} {ds : List D} : SqT K G a vs → RepA K mg G vs ds → Rep K mg G (.ref a) (.tup ds)
  | dic {a : Addr} {kvs : List (Key × V)} {ds : List (Key × D)} : G a = some (.dK kvs) → RepD K mg G kvs ds → Rep K mg G (.ref a) (.dic ds)
  | obj {a C dx : Addr} {c : Str} {fs : List (Str × V)} {ds : List (Str × D)} : G a = some (.ins C dx fs) → mg c = some (.ref C) → RepF K mg G fs ds → Rep K mg G (.ref a) (.obj c ds)
  | exc {a C : Addr} {c : Str} : G a = some (ExV C a) → mg c = some (.ref C) → Rep K mg G (.ref a) (.exc c)
inductive RepA (K : PySem.W.Frag) (mg : MG) (G : Hp) : List V → List D → Prop
  | nil : RepA K mg G [] []
  | cons {v : V} {vs : List V} {d : D} {ds : List D} : Rep K mg G v d → RepA K mg G vs ds → RepA K mg G (v :: vs) (d :: ds)
inductive RepD (K : PySem.W.Frag) (mg : MG) (G : Hp) : List (Key × V) → List (Key × D) → Prop
  | nil : RepD K mg G [] []
  | cons {k : Key} {v : V} {vs : List (Key × V)} {d : D} {ds : List (Key × D)} : Rep K mg G v d → RepD K mg G vs ds → RepD K mg G ((k, v) :: vs) ((k, d) :: ds)
inductive RepF (K : PySem.W.Frag) (mg : MG) (G : Hp) : List (Str × V) → List (Str × D) → Prop
  | nil : RepF K mg G [] []
  | cons {k : Str} {v : V} {vs : List (Str × V)} {d : D} {ds : List (Str × D)} : Rep K mg G v d → RepF K mg G vs ds → RepF K mg G ((k, v) :: vs) ((k, d) :: ds)
end
theorem Same.tup {K : PySem.W.Frag} {H H' : Hp} {a : Addr} {xs : List V} (e : Same H H') (h : SqT K H a xs) : SqT K H' a xs := by
  rcases h with (h | ⟨o, h⟩) | h
  · exact .inl (.inl (e _ _ h))
  · exact .inl (.inr ⟨o, e _ _ h⟩)
  · exact .inr h
section
variable {K : PySem.W.Frag} {mg : MG} {G G' : Hp}
mutual
theorem Rep.mono (s : Same G G') : ∀ {v : V} {d : D}, Rep K mg G v d → Rep K mg G' v d
  | _, _, .non => .non
  | _, _, .bl b => .bl b
  | _, _, .int i => .int i
  | _, _, .str x => .str x
  | _, _, .lst h r => .lst (s.seq h) (RepA.mono s r)
  | _, _, .tup h r => .tup (Same.tup s h) (RepA.mono s r)
  | _, _, .dic h r => .dic (s _ _ h) (RepD.mono s r)
  | _, _, .obj h m r => .obj (s _ _ h) m (RepF.mono s r)
  | _, _, .exc h m => .exc (s _ _ h) m
theorem RepA.mono (s : Same G G') : ∀ {v : List V} {d : List D}, RepA K mg G v d → RepA K mg G' v d
  | _, _, .nil => .nil
  | _, _, .cons h r => .cons (Rep.mono s h) (RepA.mono s r)
theorem RepD.mono (s : Same G G') : ∀ {v : List (Key × V)} {d : List (Key × D)}, RepD K mg G v d → RepD K mg G' v d
  | _, _, .nil => .nil
  | _, _, .cons h r => .cons (Rep.mono s h) (RepD.mono s r)
theorem RepF.mono (s : Same G G') : ∀ {v : List (Str × V)} {d : List (Str × D)}, RepF K mg G v d → RepF K mg G' v d
  | _, _, .nil => .nil
  | _, _, .cons h r => .cons (Rep.mono s h) (RepF.mono s r)
end
end
/-! what is known: G (nobody changes it) within H (all that is tracked) -/
structure Ext (G H G' H' : Hp) : Prop where
  gg : Same G G'
  hh : Same H H'
  sub : Same G' H'
  old : ∀ a, H a ≠ none → G' a = G a
theorem Ext.refl {G H : Hp} (s : Same G H) : Ext G H G H := ⟨fun _ _ h => h, fun _ _ h => h, s, fun _ _ => rfl⟩
theorem Ext.trans {G H G1 H1 G2 H2 : Hp} (a : Ext G H G1 H1) (b : Ext G1 H1 G2 H2) : Ext G H G2 H2 :=
  ⟨fun c o h => b.gg c o (a.gg c o h), fun c o h => b.hh c o (a.hh c o h), b.sub, fun c h => by
    have h1 : H1 c ≠ none := by
      cases e : H c with
      | none => exact absurd e h
      | some o => rw [a.hh c o e]; exact fun z => nomatch z
    rw [b.old c h1, a.old c h]⟩
/-- a new object that nobody changes -/
theorem Ext.new {G H : Hp} {p : Addr} {o : HO} (s : Same G H) (h : H p = none) : Ext G H (upd G p o) (upd H p o) :=
  ⟨fun b u e => by rw [upd_ne (ne_of_none e (s.free h))]; exact e, fun b u e => by rw [upd_ne (ne_of_none e h)]; exact e,
    fun b u e => by
      by_cases hb : b = p
      · subst hb; rw [upd_same] at e; rw [upd_same]; exact e
      · rw [upd_ne hb] at e; rw [upd_ne hb]; exact s b u e,
    fun a ha => upd_ne fun z => ha (z ▸ h)⟩
/-- a new object that is one's own -/
theorem Ext.own {G H : Hp} {p : Addr} {o : HO} (s : Same G H) (h : H p = none) : Ext G H G (upd H p o) :=
  ⟨fun _ _ e => e, fun b u e => by rw [upd_ne (ne_of_none e h)]; exact e, fun b u e => by rw [upd_ne (ne_of_none (s b u e) h)]; exact s b u e, fun _ _ => rfl⟩
/-- an own object is given up -/
theorem Ext.give {G H : Hp} {p : Addr} {o : HO} {H0 : Hp} {G0 : Hp} (x : Ext G0 H0 G H) (h : H p = some o) (g : G p = none) (n : H0 p = none) : Ext G0 H0 (upd G p o) H :=
  ⟨fun b u e => by
      have e1 := x.gg b u e
      rw [upd_ne fun z => by rw [z, g] at e1; cases e1]; exact e1, x.hh,
    fun b u e => by
      by_cases hb : b = p
      · subst hb; rw [upd_same] at e; cases e; exact h
      · rw [upd_ne hb] at e; exact x.sub b u e,
    fun a ha => by rw [upd_ne fun z => ha (by rw [z]; exact n)]; exact x.old a ha⟩

/-! slots and results -/
inductive Sl where
  | no | fz (d : D) | ow (d : D)
inductive Rs where
  | fz (d : D) | ow (d : D) | al (d : D)
abbrev Ev := List Sl
structure Ex where
  cls : Str
  fs : Option (List (Str × D)) := none
inductive R (α : Type) where
  | ok (a : α) | ex (x : Ex) | stuck
def R.bind {α β : Type} (x : R α) (f : α → R β) : R β := match x with
  | .ok a => f a
  | .ex x => .ex x
  | .stuck => .stuck
@[simp] theorem bind_ok {α β : Type} (a : α) (k : α → R β) : R.bind (.ok a) k = k a := rfl
instance : Monad R where
  pure := R.ok
  bind := R.bind
/-! a limit of the model: nothing is reckoned of its truth -/
open Classical in
noncomputable def need {α : Type} (c : Prop) (r : R α) : R α := if c then r else .stuck
theorem need_pos {α : Type} {c : Prop} {r : R α} (h : c) : need c r = r := if_pos h
theorem need_cs {α : Type} (c : Prop) (r : R α) : (c ∧ need c r = r) ∨ need c r = .stuck := by
  by_cases h : c
  · exact .inl ⟨h, if_pos h⟩
  · exact .inr (if_neg h)
def OwnAt (K : PySem.W.Frag) (mg : MG) (G H : Hp) (a : Addr) : D → Prop
  | .lst ds => ∃ vs, H a = some (.lst vs) ∧ RepA K mg G vs ds
  | .dic ds => ∃ vs, H a = some (.dK vs) ∧ RepD K mg G vs ds
  | _ => False
def ResR (K : PySem.W.Frag) (mg : MG) (H0 G H : Hp) (v : V) : Rs → Prop
  | .fz d => Rep K mg G v d
  | .ow d => ∃ a, v = .ref a ∧ H0 a = none ∧ G a = none ∧ OwnAt K mg G H a d
  | .al d => ∃ a, v = .ref a ∧ G a = none ∧ OwnAt K mg G H a d
def Rs.d : Rs → D
  | .fz d => d
  | .ow d => d
  | .al d => d
/-- to be read -/
def Rd1 (K : PySem.W.Frag) (mg : MG) (G H : Hp) (v : V) (d : D) : Prop := Rep K mg G v d ∨ ∃ a, v = .ref a ∧ G a = none ∧ OwnAt K mg G H a d
theorem ResR.rd {K : PySem.W.Frag} {mg : MG} {H0 G H : Hp} {v : V} : ∀ {r : Rs}, ResR K mg H0 G H v r → Rd1 K mg G H v r.d
  | .fz _, h => .inl h
  | .ow _, ⟨a, e, _, g, o⟩ => .inr ⟨a, e, g, o⟩
  | .al _, h => .inr h
theorem OwnAt.mono {K : PySem.W.Frag} {mg : MG} {G H G' H' : Hp} {a : Addr} (g : Same G G') (h : Same H H') : ∀ {d : D}, OwnAt K mg G H a d → OwnAt K mg G' H' a d
  | .lst _, ⟨vs, e, r⟩ => ⟨vs, h _ _ e, RepA.mono g r⟩
  | .dic _, ⟨vs, e, r⟩ => ⟨vs, h _ _ e, RepD.mono g r⟩
theorem OwnAt.here {K : PySem.W.Frag} {mg : MG} {G H : Hp} {a : Addr} : ∀ {d : D}, OwnAt K mg G H a d → H a ≠ none
  | .lst _, ⟨vs, e, r⟩ => fun z => by rw [e] at z; cases z
  | .dic _, ⟨vs, e, r⟩ => fun z => by rw [e] at z; cases z
/-- an own thing as a thing that nobody changes -/
theorem OwnAt.give {K : PySem.W.Frag} {mg : MG} {G H : Hp} {a : Addr} (g : G a = none) : ∀ {d : D}, OwnAt K mg G H a d → ∃ o, H a = some o ∧ Rep K mg (upd G a o) (.ref a) d := fun {d} h => by
  have mo : ∀ o, Same G (upd G a o) := fun o b u e => by rw [upd_ne (ne_of_none e g)]; exact e
  cases d with
  | lst ds => obtain ⟨vs, e, r⟩ := h; exact ⟨_, e, .lst (SqL.of upd_same) (RepA.mono (mo _) r)⟩
  | dic ds => obtain ⟨vs, e, r⟩ := h; exact ⟨_, e, .dic upd_same (RepD.mono (mo _) r)⟩
  | _ => exact h.elim
theorem Rd1.ext {K : PySem.W.Frag} {mg : MG} {G H G' H' : Hp} {v : V} {d : D} (x : Ext G H G' H') : Rd1 K mg G H v d → Rd1 K mg G' H' v d
  | .inl h => .inl (Rep.mono x.gg h)
  | .inr ⟨a, e, g, o⟩ => .inr ⟨a, e, by rw [x.old a o.here]; exact g, o.mono x.gg x.hh⟩
theorem ResR.ext {K : PySem.W.Frag} {mg : MG} {H0 G H G' H' : Hp} {v : V} (x : Ext G H G' H') : ∀ {r : Rs}, ResR K mg H0 G H v r → ResR K mg H0 G' H' v r
  | .fz _, h => Rep.mono x.gg h
  | .ow _, ⟨a, e, n, g, o⟩ => ⟨a, e, n, by rw [x.old a o.here]; exact g, o.mono x.gg x.hh⟩
  | .al _, ⟨a, e, g, o⟩ => ⟨a, e, by rw [x.old a o.here]; exact g, o.mono x.gg x.hh⟩
/-- all slots but nothing of who owns what: what an expression asks -/
def SlR (K : PySem.W.Frag) (mg : MG) (G H : Hp) (o : Option (Option V)) : Sl → Prop
  | .no => True
  | .fz d => ∃ v, o = some (some v) ∧ Rep K mg G v d
  | .ow d => ∃ a, o = some (some (.ref a)) ∧ G a = none ∧ OwnAt K mg G H a d
def CorE (K : PySem.W.Frag) (mg : MG) (G H : Hp) (env : Ev) (σ : L2.St) : Prop := env.length = σ.length ∧ ∀ (i : Nat) (s : Sl), env[i]? = some s → SlR K mg G H σ[i]? s
theorem SlR.ext {K : PySem.W.Frag} {mg : MG} {G H G' H' : Hp} {o : Option (Option V)} (x : Ext G H G' H') : ∀ {s : Sl}, SlR K mg G H o s → SlR K mg G' H' o s
  | .no, h => trivial
  | .fz _, ⟨v, e, h⟩ => ⟨v, e, Rep.mono x.gg h⟩
  | .ow _, ⟨a, e, g, o⟩ => ⟨a, e, by rw [x.old a o.here]; exact g, o.mono x.gg x.hh⟩
theorem CorE.ext {K : PySem.W.Frag} {mg : MG} {G H G' H' : Hp} {env : Ev} {σ : L2.St} (x : Ext G H G' H') (c : CorE K mg G H env σ) : CorE K mg G' H' env σ := ⟨c.1, fun i s e => (c.2 i s e).ext x⟩
/-! what an expression is worth -/
def ExP (mg : MG) (E : XK) (x : Ex) (H' : Hp) : Prop := x.fs = none ∧ ∀ u, mg x.cls = some u → E u none H'
def Post (K : PySem.W.Frag) (mg : MG) (E : XK) (G H : Hp) (Q : VK) : R Rs → Prop
  | .ok r => ∀ G' H' v, Ext G H G' H' → ResR K mg H G' H' v r → Q v H'
  | .ex x => x.fs = none ∧ ∀ u G' H', mg x.cls = some u → Ext G H G' H' → E u none H'
  | .stuck => False
theorem post_need {K : PySem.W.Frag} {mg : MG} {E : XK} {G H : Hp} {Q : VK} {c : Prop} {r : R Rs} (p : Post K mg E G H Q (need c r)) : c ∧ Post K mg E G H Q r := by
  rcases need_cs c r with ⟨h, e⟩ | e
  · rw [e] at p; exact ⟨h, p⟩
  · rw [e] at p; exact p.elim
def Pu (K : PySem.W.Frag) (mg : MG) (E : L2.St → XK) (t : TE) (f : Ev → R Rs) : Prop := ∀ (G H : Hp) (env : Ev) (σ : L2.St) (Q : VK), Same G H → CorE K mg G H env σ → Post K mg (E σ) G H Q (f env) → t σ H Q
theorem Post.mono {K : PySem.W.Frag} {mg : MG} {E : XK} {G H G' H' : Hp} {Q : VK} (x : Ext G H G' H') : ∀ {r : R Rs}, (∀ r0, r = .ok r0 → ∀ G2 H2 v, Ext G' H' G2 H2 → ResR K mg H' G2 H2 v r0 → ResR K mg H G2 H2 v r0) → Post K mg E G H Q r → Post K mg E G' H' Q r
  | .ok r, k, h => fun G2 H2 v x2 rr => h G2 H2 v (x.trans x2) (k r rfl G2 H2 v x2 rr)
  | .ex _, k, h => ⟨h.1, fun u G2 H2 m x2 => h.2 u G2 H2 m (x.trans x2)⟩
theorem ResR.old {K : PySem.W.Frag} {mg : MG} {H H' G2 H2 : Hp} {v : V} (s : Same H H') : ∀ {r : Rs}, ResR K mg H' G2 H2 v r → ResR K mg H G2 H2 v r
  | .fz _, h => h
  | .ow _, ⟨a, e, n, g, o⟩ => ⟨a, e, s.free n, g, o⟩
  | .al _, h => h
theorem Post.fwd {K : PySem.W.Frag} {mg : MG} {E : XK} {G H G' H' : Hp} {Q : VK} (x : Ext G H G' H') {r : R Rs} (h : Post K mg E G H Q r) : Post K mg E G' H' Q r :=
  h.mono x fun _ _ _ _ _ _ rr => rr.old x.hh
/-- the judgement: the expression e is worth f -/
def PUE (X : Cx) (E : L2.St → XK) (e : Expr) (f : Ev → R Rs) : Prop := ∃ t, PE X e t ∧ Pu X.K X.mg E t f
/-- frozen: an own new thing is given up, another's own thing stops -/
def fzR : R Rs → R D
  | .ok (.fz d) => .ok d
  | .ok (.ow d) => .ok d
  | .ok (.al _) => .stuck
  | .ex x => .ex x
  | .stuck => .stuck
def PostZ (K : PySem.W.Frag) (mg : MG) (E : XK) (G H : Hp) (Q : VK) : R D → Prop
  | .ok d => ∀ G' H' v, Ext G H G' H' → Rep K mg G' v d → Q v H'
  | .ex x => x.fs = none ∧ ∀ u G' H', mg x.cls = some u → Ext G H G' H' → E u none H'
  | .stuck => False
theorem PostZ.of {K : PySem.W.Frag} {mg : MG} {E : XK} {G H : Hp} {Q : VK} : ∀ {r : R Rs}, PostZ K mg E G H Q (fzR r) → Post K mg E G H Q r
  | .ok (.fz d), h => fun G' H' v x r => h G' H' v x r
  | .ok (.ow d), h => fun G' H' v x ⟨a, e, n, g, o⟩ => by
    subst e
    obtain ⟨u, hu, r⟩ := o.give g
    exact h _ H' _ (x.give hu g n) r
  | .ok (.al _), h => h.elim
  | .ex _, h => h
  | .stuck, h => h.elim
end PL

set_option Elab.async false
set_option linter.all false
set_option maxRecDepth 100000
set_option maxHeartbeats 4000000
/-! PURE LAYER, expressions. -/
namespace PL
open PySem PySem.Spec PyProof.Rows L2
section
variable {K : PySem.W.Frag} {mg : MG} {E : L2.St → XK} {E1 : XK} {G H G' H' : Hp} {v w : V} {d e : D}
theorem Rd1.rep (h : Rd1 K mg G H v d) (hn : ∀ a, v ≠ .ref a) : Rep K mg G v d := by
  rcases h with h | ⟨a, e, _⟩
  · exact h
  · exact absurd e (hn a)
theorem Rd1.repH (s : Same G H) (h : Rd1 K mg G H v d) : Rep K mg H v d := by
  rcases h with h | ⟨a, e, _, o⟩
  · exact Rep.mono s h
  · subst e
    cases d with
    | lst ds => obtain ⟨vs, e, r⟩ := o; exact .lst (SqL.of e) (RepA.mono s r)
    | dic ds => obtain ⟨vs, e, r⟩ := o; exact .dic e (RepD.mono s r)
    | _ => exact o.elim
theorem Rd1.non (h : Rd1 K mg G H v .non) : v = .non := by
  rcases h with h | ⟨_, _, _, o⟩
  · cases h; rfl
  · exact o.elim
theorem Rd1.bl {b : Bool} (h : Rd1 K mg G H v (.bl b)) : v = .bl b := by
  rcases h with h | ⟨_, _, _, o⟩
  · cases h; rfl
  · exact o.elim
theorem Rd1.int {b : Int} (h : Rd1 K mg G H v (.int b)) : v = .int b := by
  rcases h with h | ⟨_, _, _, o⟩
  · cases h; rfl
  · exact o.elim
theorem Rd1.str {b : Str} (h : Rd1 K mg G H v (.str b)) : v = .str b := by
  rcases h with h | ⟨_, _, _, o⟩
  · cases h; rfl
  · exact o.elim
theorem Rd1.lst {ds : List D} (s : Same G H) (h : Rd1 K mg G H v (.lst ds)) : ∃ a vs, v = .ref a ∧ SqL K H a vs ∧ RepA K mg G vs ds := by
  rcases h with h | ⟨a, e, _, vs, o, r⟩
  · cases h with
    | lst h r => exact ⟨_, _, rfl, s.seq h, r⟩
  · exact ⟨a, vs, e, SqL.of o, r⟩
theorem Rd1.lst' {ds : List D} (s : Same G H) (h : Rd1 K mg G H v (.lst ds)) : ∃ a vs, v = .ref a ∧ SqL K H a vs ∧ True ∧ RepA K mg G vs ds := by
  obtain ⟨a, vs, e, h1, h2⟩ := h.lst s
  exact ⟨a, vs, e, h1, trivial, h2⟩
theorem Rd1.tup {ds : List D} (s : Same G H) (h : Rd1 K mg G H v (.tup ds)) : ∃ a vs, v = .ref a ∧ SqT K H a vs ∧ SqT K G a vs ∧ RepA K mg G vs ds := by
  rcases h with h | ⟨_, _, _, o⟩
  · cases h with
    | tup h r => exact ⟨_, _, rfl, Same.tup s h, h, r⟩
  · exact o.elim
theorem Rd1.dic {ds : List (Key × D)} (s : Same G H) (h : Rd1 K mg G H v (.dic ds)) : ∃ a vs, v = .ref a ∧ H a = some (.dK vs) ∧ RepD K mg G vs ds := by
  rcases h with h | ⟨a, e, _, vs, o, r⟩
  · cases h with
    | dic h r => exact ⟨_, _, rfl, s _ _ h, r⟩
  · exact ⟨a, vs, e, o, r⟩
theorem RepA.length : ∀ {vs : List V} {ds : List D}, RepA K mg G vs ds → vs.length = ds.length
  | _, _, .nil => rfl
  | _, _, .cons _ r => congrArg (· + 1) r.length
theorem RepA.get : ∀ {vs : List V} {ds : List D} {i : Nat} {d : D}, RepA K mg G vs ds → ds[i]? = some d → ∃ v, vs[i]? = some v ∧ Rep K mg G v d
  | _, _, i, d, .nil, h => by simp at h
  | _, _, 0, d, .cons h r, e => by simp at e; subst e; exact ⟨_, rfl, h⟩
  | _, _, i + 1, d, .cons h r, e => by
    obtain ⟨v, h1, h2⟩ := RepA.get (i := i) (d := d) r (by simpa using e)
    exact ⟨v, by simpa using h1, h2⟩
theorem RepA.getV : ∀ {vs : List V} {ds : List D} {i : Nat} {v : V}, RepA K mg G vs ds → vs[i]? = some v → ∃ d, ds[i]? = some d ∧ Rep K mg G v d
  | _, _, i, d, .nil, h => by simp at h
  | _, _, 0, d, .cons h r, e => by simp at e; subst e; exact ⟨_, rfl, h⟩
  | _, _, i + 1, d, .cons h r, e => by
    obtain ⟨v, h1, h2⟩ := RepA.getV (i := i) (v := d) r (by simpa using e)
    exact ⟨v, by simpa using h1, h2⟩
theorem RepA.append : ∀ {vs ws : List V} {ds es : List D}, RepA K mg G vs ds → RepA K mg G ws es → RepA K mg G (vs ++ ws) (ds ++ es)
  | _, _, _, _, .nil, s => s
  | _, _, _, _, .cons h r, s => .cons h (RepA.append r s)
theorem RepA.drop : ∀ {vs : List V} {ds : List D} (n : Nat), RepA K mg G vs ds → RepA K mg G (vs.drop n) (ds.drop n)
  | _, _, 0, h => h
  | _, _, _ + 1, .nil => .nil
  | _, _, n + 1, .cons _ r => RepA.drop n r
theorem RepA.take : ∀ {vs : List V} {ds : List D} (n : Nat), RepA K mg G vs ds → RepA K mg G (vs.take n) (ds.take n)
  | _, _, 0, h => .nil
  | _, _, _ + 1, .nil => .nil
  | _, _, n + 1, .cons h r => .cons h (RepA.take n r)

/-! ### the way from one expression to the next -/
theorem Pu.thn {t : TE} {f : Ev → R Rs} (ha : Pu K mg E t f) {k : Rs → R Rs} {env : Ev} {σ : L2.St} {Q Q' : VK} (s : Same G H) (c : CorE K mg G H env σ) (p : Post K mg (E σ) G H Q (R.bind (f env) k))
    (h : ∀ r G1 H1 v, f env = .ok r → Ext G H G1 H1 → ResR K mg H G1 H1 v r → Post K mg (E σ) G1 H1 Q (k r) → Q' v H1) : t σ H Q' := by
  refine ha G H env σ Q' s c ?_
  cases e : f env with
  | ok r =>
    rw [e] at p
    exact fun G1 H1 v x rr => h r G1 H1 v e x rr (Post.fwd x p)
  | ex x =>
    rw [e] at p
    exact p
  | stuck =>
    rw [e] at p
    exact p.elim

def xVar (i : Nat) : Ev → R Rs := fun env => match env[i]? with
  | some (.fz d) => .ok (.fz d)
  | some (.ow d) => .ok (.al d)
  | _ => .stuck
theorem Pu.var (i : Nat) : Pu K mg E (tVar i) (xVar i) := by
  intro G H env σ Q s c p
  unfold xVar at p
  cases e : env[i]? with
  | none => rw [e] at p; exact p.elim
  | some sl =>
    rw [e] at p
    have q := c.2 i sl e
    cases sl with
    | no => exact p.elim
    | fz d =>
      obtain ⟨v, h1, h2⟩ := q
      exact ⟨v, h1, p G H v (Ext.refl s) h2⟩
    | ow d =>
      obtain ⟨a, h1, h2, h3⟩ := q
      exact ⟨.ref a, h1, p G H (.ref a) (Ext.refl s) ⟨a, rfl, h2, h3⟩⟩
def xC (d : D) : Ev → R Rs := fun _ => .ok (.fz d)
theorem Pu.c {d : D} {v : V} (h : ∀ G, Rep K mg G v d) : Pu K mg E (tC v) (xC d) := by
  intro G H env σ Q s c p
  exact p G H v (Ext.refl s) (h G)
def xUn (g : D → R Rs) (f : Ev → R Rs) : Ev → R Rs := fun env => R.bind (f env) fun r => g r.d
def xBin (g : D → D → R Rs) (f h : Ev → R Rs) : Ev → R Rs := fun env => R.bind (f env) fun r1 => R.bind (h env) fun r2 => g r1.d r2.d
/-- an operation by values does g -/
def POp (K : PySem.W.Frag) (mg : MG) (r : R2) (g : D → D → R Rs) : Prop := ∀ (E : XK) (G H : Hp) (v w : V) (d e : D) (Q : VK), Same G H → Rd1 K mg G H v d → Rd1 K mg G H w e → Post K mg E G H Q (g d e) → r v w H Q
def POp1 (K : PySem.W.Frag) (mg : MG) (r : V → Hp → VK → Prop) (g : D → R Rs) : Prop := ∀ (E : XK) (G H : Hp) (v : V) (d : D) (Q : VK), Same G H → Rd1 K mg G H v d → Post K mg E G H Q (g d) → r v H Q
theorem Pu.bin {ta tb : TE} {f h : Ev → R Rs} {r : R2} {g : D → D → R Rs} (o : POp K mg r g) (ha : Pu K mg E ta f) (hb : Pu K mg E tb h) : Pu K mg E (tOp r ta tb) (xBin g f h) := by
  intro G H env σ Q s c p
  refine ha.thn s c p fun r1 G1 H1 v e1 x1 rr1 p1 => ?_
  refine hb.thn x1.sub (c.ext x1) p1 fun r2 G2 H2 w e2 x2 rr2 p2 => ?_
  exact o (E σ) G2 H2 v w _ _ Q x2.sub (rr1.rd.ext x2) rr2.rd p2
theorem Pu.un {ta : TE} {f : Ev → R Rs} {r : V → Hp → VK → Prop} {g : D → R Rs} (o : POp1 K mg r g) (ha : Pu K mg E ta f) : Pu K mg E (tUn r ta) (xUn g f) := by
  intro G H env σ Q s c p
  refine ha.thn s c p fun r1 G1 H1 v e1 x1 rr1 p1 => ?_
  exact o (E σ) G1 H1 v _ Q x1.sub rr1.rd p1

/-! ### tests -/
def PostT (mg : MG) (E : XK) (G H : Hp) (Q : Bool → Hp → Prop) : R Bool → Prop
  | .ok b => ∀ G' H', Ext G H G' H' → Q b H'
  | .ex x => x.fs = none ∧ ∀ u G' H', mg x.cls = some u → Ext G H G' H' → E u none H'
  | .stuck => False
def PuT (K : PySem.W.Frag) (mg : MG) (E : L2.St → XK) (t : TT) (f : Ev → R Bool) : Prop := ∀ (G H : Hp) (env : Ev) (σ : L2.St) (Q : Bool → Hp → Prop), Same G H → CorE K mg G H env σ → PostT mg (E σ) G H Q (f env) → t σ H Q
theorem PostT.fwd {Q : Bool → Hp → Prop} (x : Ext G H G' H') : ∀ {r : R Bool}, PostT mg E1 G H Q r → PostT mg E1 G' H' Q r
  | .ok b, h => fun G2 H2 x2 => h G2 H2 (x.trans x2)
  | .ex _, h => ⟨h.1, fun u G2 H2 m x2 => h.2 u G2 H2 m (x.trans x2)⟩
/-- a bool of a value that must be one -/
def asB : D → R Bool
  | .bl b => .ok b
  | _ => .stuck
def xB (f : Ev → R Rs) : Ev → R Bool := fun env => R.bind (f env) fun r => asB r.d
theorem PuT.of {t : TE} {f : Ev → R Rs} (h : Pu K mg E t f) : PuT K mg E (tB t) (xB f) := by
  intro G H env σ Q s c p
  refine h G H env σ _ s c ?_
  unfold xB at p
  cases e : f env with
  | ok r =>
    rw [e] at p
    intro G1 H1 v x rr
    have q := rr.rd
    cases hd : r.d with
    | bl b =>
      rw [hd] at q
      have p' : PostT mg (E σ) G H Q (asB r.d) := p
      rw [hd] at p'
      exact ⟨b, q.bl, p' G1 H1 x⟩
    | _ =>
      have p' : PostT mg (E σ) G H Q (asB r.d) := p
      rw [hd] at p'
      exact p'.elim
  | ex x => rw [e] at p; exact p
  | stuck => rw [e] at p; exact p.elim
theorem PuT.thn {t : TT} {f : Ev → R Bool} (ha : PuT K mg E t f) {env : Ev} {σ : L2.St} {Q' : Bool → Hp → Prop} (s : Same G H) (c : CorE K mg G H env σ)
    (h : ∀ b G1 H1, f env = .ok b → Ext G H G1 H1 → Q' b H1) (hx : ∀ x, f env = .ex x → x.fs = none ∧ ∀ u G' H', mg x.cls = some u → Ext G H G' H' → E σ u none H') (hs : f env ≠ .stuck) : t σ H Q' := by
  refine ha G H env σ Q' s c ?_
  cases e : f env with
  | ok b => exact fun G1 H1 x => h b G1 H1 e x
  | ex x => exact hx x e
  | stuck => exact absurd e hs
def xAnd (f g : Ev → R Bool) : Ev → R Bool := fun env => R.bind (f env) fun b => if b = true then g env else .ok false
def xOr (f g : Ev → R Bool) : Ev → R Bool := fun env => R.bind (f env) fun b => if b = true then .ok true else g env
def xNot (f : Ev → R Bool) : Ev → R Bool := fun env => R.bind (f env) fun b => .ok (!b)
theorem PuT.and {t u : TT} {f g : Ev → R Bool} (ha : PuT K mg E t f) (hb : PuT K mg E u g) : PuT K mg E (tAnd t u) (xAnd f g) := by
  intro G H env σ Q s c p
  unfold xAnd at p
  refine ha.thn s c (fun b G1 H1 e x => ?_) (fun x e => by rw [e] at p; exact p) (fun e => by rw [e] at p; exact p)
  rw [e] at p
  cases b with
  | true => rw [if_pos rfl]; exact hb G1 H1 env σ Q x.sub (c.ext x) (PostT.fwd x p)
  | false => rw [if_neg Bool.false_ne_true]; exact p G1 H1 x
theorem PuT.or {t u : TT} {f g : Ev → R Bool} (ha : PuT K mg E t f) (hb : PuT K mg E u g) : PuT K mg E (tOr t u) (xOr f g) := by
  intro G H env σ Q s c p
  unfold xOr at p
  refine ha.thn s c (fun b G1 H1 e x => ?_) (fun x e => by rw [e] at p; exact p) (fun e => by rw [e] at p; exact p)
  rw [e] at p
  cases b with
  | true => rw [if_pos rfl]; exact p G1 H1 x
  | false => rw [if_neg Bool.false_ne_true]; exact hb G1 H1 env σ Q x.sub (c.ext x) (PostT.fwd x p)
theorem PuT.not {t : TT} {f : Ev → R Bool} (ha : PuT K mg E t f) : PuT K mg E (tNot t) (xNot f) := by
  intro G H env σ Q s c p
  unfold xNot at p
  refine ha.thn s c (fun b G1 H1 e x => ?_) (fun x e => by rw [e] at p; exact p) (fun e => by rw [e] at p; exact p)
  rw [e] at p
  exact p G1 H1 x
/-- tests as values -/
def xV (f : Ev → R Bool) : Ev → R Rs := fun env => R.bind (f env) fun b => .ok (.fz (.bl b))
def xAndV (f g : Ev → R Rs) : Ev → R Rs := fun env => R.bind (xB f env) fun b => if b = true then g env else .ok (.fz (.bl false))
def xOrV (f g : Ev → R Rs) : Ev → R Rs := fun env => R.bind (xB f env) fun b => if b = true then .ok (.fz (.bl true)) else g env
def xNotV (f : Ev → R Rs) : Ev → R Rs := fun env => R.bind (xB f env) fun b => .ok (.fz (.bl (!b)))
theorem Pu.andV {ta tb : TE} {f g : Ev → R Rs} (ha : Pu K mg E ta f) (hb : Pu K mg E tb g) : Pu K mg E (tAndV ta tb) (xAndV f g) := by
  intro G H env σ Q s c p
  unfold xAndV at p
  refine PuT.of ha G H env σ (fun b H1 => if b = true then tb σ H1 Q else Q (.bl false) H1) s c ?_
  cases e : xB f env with
  | ok b =>
    intro G1 H1 x
    rw [e] at p
    have p' : Post K mg (E σ) G H Q (if b = true then g env else .ok (.fz (.bl false))) := p
    cases b with
    | true => rw [if_pos rfl]; rw [if_pos rfl] at p'; exact hb G1 H1 env σ Q x.sub (c.ext x) (Post.fwd x p')
    | false => rw [if_neg Bool.false_ne_true]; rw [if_neg Bool.false_ne_true] at p'; exact p' G1 H1 _ x (.bl false)
  | ex x => rw [e] at p; exact p
  | stuck => rw [e] at p; exact p.elim
theorem Pu.orV {ta tb : TE} {f g : Ev → R Rs} (ha : Pu K mg E ta f) (hb : Pu K mg E tb g) : Pu K mg E (tOrV ta tb) (xOrV f g) := by
  intro G H env σ Q s c p
  unfold xOrV at p
  refine PuT.of ha G H env σ (fun b H1 => if b = true then Q (.bl true) H1 else tb σ H1 Q) s c ?_
  cases e : xB f env with
  | ok b =>
    intro G1 H1 x
    rw [e] at p
    have p' : Post K mg (E σ) G H Q (if b = true then .ok (.fz (.bl true)) else g env) := p
    cases b with
    | true => rw [if_pos rfl]; rw [if_pos rfl] at p'; exact p' G1 H1 _ x (.bl true)
    | false => rw [if_neg Bool.false_ne_true]; rw [if_neg Bool.false_ne_true] at p'; exact hb G1 H1 env σ Q x.sub (c.ext x) (Post.fwd x p')
  | ex x => rw [e] at p; exact p
  | stuck => rw [e] at p; exact p.elim
theorem Pu.notV {ta : TE} {f : Ev → R Rs} (ha : Pu K mg E ta f) : Pu K mg E (tNotV ta) (xNotV f) := by
  intro G H env σ Q s c p
  unfold xNotV at p
  refine PuT.of ha G H env σ (fun b H1 => Q (.bl (!b)) H1) s c ?_
  cases e : xB f env with
  | ok b => rw [e] at p; exact fun G1 H1 x => p G1 H1 _ x (.bl (!b))
  | ex x => rw [e] at p; exact p
  | stuck => rw [e] at p; exact p.elim
def xIf (c : Ev → R Bool) (f g : Ev → R Rs) : Ev → R Rs := fun env => R.bind (c env) fun b => if b = true then f env else g env
theorem Pu.ite {tc : TT} {ta tb : TE} {cf : Ev → R Bool} {f g : Ev → R Rs} (hc : PuT K mg E tc cf) (ha : Pu K mg E ta f) (hb : Pu K mg E tb g) : Pu K mg E (tIf tc ta tb) (xIf cf f g) := by
  intro G H env σ Q s c p
  unfold xIf at p
  refine hc.thn s c (fun b G1 H1 e x => ?_) (fun x e => by rw [e] at p; exact p) (fun e => by rw [e] at p; exact p)
  rw [e] at p
  have p' : Post K mg (E σ) G H Q (if b = true then f env else g env) := p
  cases b with
  | true => rw [if_pos rfl]; exact ha G1 H1 env σ Q x.sub (c.ext x) (Post.fwd x p')
  | false => rw [if_neg Bool.false_ne_true]; exact hb G1 H1 env σ Q x.sub (c.ext x) (Post.fwd x p')

/-! ### rows of arguments: given up (RepA), or read -/
def PostA (K : PySem.W.Frag) (mg : MG) (E : XK) (G H : Hp) (Q : List V → Hp → Prop) : R (List D) → Prop
  | .ok ds => ∀ G' H' vs, Ext G H G' H' → RepA K mg G' vs ds → Q vs H'
  | .ex x => x.fs = none ∧ ∀ u G' H', mg x.cls = some u → Ext G H G' H' → E u none H'
  | .stuck => False
def PuA (K : PySem.W.Frag) (mg : MG) (E : L2.St → XK) (t : TA) (f : Ev → R (List D)) : Prop := ∀ (G H : Hp) (env : Ev) (σ : L2.St) (Q : List V → Hp → Prop), Same G H → CorE K mg G H env σ → PostA K mg (E σ) G H Q (f env) → t σ H Q
theorem PostA.fwd {Q : List V → Hp → Prop} (x : Ext G H G' H') : ∀ {r : R (List D)}, PostA K mg E1 G H Q r → PostA K mg E1 G' H' Q r
  | .ok b, h => fun G2 H2 vs x2 => h G2 H2 vs (x.trans x2)
  | .ex _, h => ⟨h.1, fun u G2 H2 m x2 => h.2 u G2 H2 m (x.trans x2)⟩
def xNil : Ev → R (List D) := fun _ => .ok []
def xCons (f : Ev → R Rs) (g : Ev → R (List D)) : Ev → R (List D) := fun env => R.bind (fzR (f env)) fun d => R.bind (g env) fun ds => .ok (d :: ds)
theorem PuA.nil : PuA K mg E tNil xNil := fun G H env σ Q s c p => p G H [] (Ext.refl s) .nil
theorem Pu.fz {t : TE} {f : Ev → R Rs} (ha : Pu K mg E t f) {env : Ev} {σ : L2.St} {Q : VK} (s : Same G H) (c : CorE K mg G H env σ) (p : PostZ K mg (E σ) G H Q (fzR (f env))) : t σ H Q :=
  ha G H env σ Q s c (PostZ.of p)
theorem PuA.cons {t : TE} {u : TA} {f : Ev → R Rs} {g : Ev → R (List D)} (ha : Pu K mg E t f) (hb : PuA K mg E u g) : PuA K mg E (tCons t u) (xCons f g) := by
  intro G H env σ Q s c p
  unfold xCons at p
  refine ha.fz s c ?_
  cases e : fzR (f env) with
  | ok d =>
    rw [e] at p
    have p' : PostA K mg (E σ) G H Q (R.bind (g env) fun ds => .ok (d :: ds)) := p
    intro G1 H1 v x1 r1
    refine hb G1 H1 env σ _ x1.sub (c.ext x1) ?_
    cases e2 : g env with
    | ok ds =>
      rw [e2] at p'
      exact fun G2 H2 vs x2 r2 => p' G2 H2 (v :: vs) (x1.trans x2) (.cons (Rep.mono x2.gg r1) r2)
    | ex x => rw [e2] at p'; exact ⟨p'.1, fun u G2 H2 m x2 => p'.2 u G2 H2 m (x1.trans x2)⟩
    | stuck => rw [e2] at p'; exact p'.elim
  | ex x => rw [e] at p; exact p
  | stuck => rw [e] at p; exact p.elim
/-- read -/
inductive RdA (K : PySem.W.Frag) (mg : MG) (G H : Hp) : List V → List D → Prop
  | nil : RdA K mg G H [] []
  | cons {v : V} {vs : List V} {d : D} {ds : List D} : Rd1 K mg G H v d → RdA K mg G H vs ds → RdA K mg G H (v :: vs) (d :: ds)
theorem RdA.repH (s : Same G H) : ∀ {vs : List V} {ds : List D}, RdA K mg G H vs ds → RepA K mg H vs ds
  | _, _, .nil => .nil
  | _, _, .cons h r => .cons (h.repH s) (RdA.repH s r)
def PostAr (K : PySem.W.Frag) (mg : MG) (E : XK) (G H : Hp) (Q : List V → Hp → Prop) : R (List D) → Prop
  | .ok ds => ∀ G' H' vs, Ext G H G' H' → RdA K mg G' H' vs ds → Q vs H'
  | .ex x => x.fs = none ∧ ∀ u G' H', mg x.cls = some u → Ext G H G' H' → E u none H'
  | .stuck => False
def PuAr (K : PySem.W.Frag) (mg : MG) (E : L2.St → XK) (t : TA) (f : Ev → R (List D)) : Prop := ∀ (G H : Hp) (env : Ev) (σ : L2.St) (Q : List V → Hp → Prop), Same G H → CorE K mg G H env σ → PostAr K mg (E σ) G H Q (f env) → t σ H Q
def xConsR (f : Ev → R Rs) (g : Ev → R (List D)) : Ev → R (List D) := fun env => R.bind (f env) fun r => R.bind (g env) fun ds => .ok (r.d :: ds)
theorem PuAr.nil : PuAr K mg E tNil xNil := fun G H env σ Q s c p => p G H [] (Ext.refl s) .nil
theorem PuAr.cons {t : TE} {u : TA} {f : Ev → R Rs} {g : Ev → R (List D)} (ha : Pu K mg E t f) (hb : PuAr K mg E u g) : PuAr K mg E (tCons t u) (xConsR f g) := by
  intro G H env σ Q s c p
  unfold xConsR at p
  refine ha G H env σ _ s c ?_
  cases e : f env with
  | ok r =>
    rw [e] at p
    have p' : PostAr K mg (E σ) G H Q (R.bind (g env) fun ds => .ok (r.d :: ds)) := p
    intro G1 H1 v x1 r1
    refine hb G1 H1 env σ _ x1.sub (c.ext x1) ?_
    cases e2 : g env with
    | ok ds =>
      rw [e2] at p'
      exact fun G2 H2 vs x2 r2 => p' G2 H2 (v :: vs) (x1.trans x2) (.cons (r1.rd.ext x2) r2)
    | ex x => rw [e2] at p'; exact ⟨p'.1, fun u G2 H2 m x2 => p'.2 u G2 H2 m (x1.trans x2)⟩
    | stuck => rw [e2] at p'; exact p'.elim
  | ex x => rw [e] at p; exact p
  | stuck => rw [e] at p; exact p.elim

/-! ### the promise of a def -/
def spP (K : PySem.W.Frag) (mg : MG) (n : Nat) (m : List D → R Rs) : Sp := fun vs H Q E => vs.length = n ∧ ∃ G ds, Same G H ∧ RepA K mg G vs ds ∧ Post K mg E G H Q (m ds)
/-- own things lent: an answer that is no object -/
def scalR : R Rs → R Rs
  | .ok (.fz .non) => .ok (.fz .non)
  | .ok (.fz (.bl b)) => .ok (.fz (.bl b))
  | .ok (.fz (.int b)) => .ok (.fz (.int b))
  | .ok (.fz (.str b)) => .ok (.fz (.str b))
  | .ex x => .ex x
  | _ => .stuck
def xCall (n : Nat) (m : List D → R Rs) (dds : List D) (f : Ev → R (List D)) : Ev → R Rs := fun env => R.bind (f env) fun ds => if (ds ++ dds).length = n then m (ds ++ dds) else .stuck
def xLend (n : Nat) (m : List D → R Rs) (dds : List D) (f : Ev → R (List D)) : Ev → R Rs := fun env => R.bind (f env) fun ds => if (ds ++ dds).length = n then scalR (m (ds ++ dds)) else .stuck
/-- dvs: the defaults that fill up -/
theorem Pu.call {n : Nat} {m : List D → R Rs} {t : TA} {f : Ev → R (List D)} {dvs : List V} {dds : List D} (hd : ∀ G, RepA K mg G dvs dds) (ha : PuA K mg E t f) : Pu K mg E (tCallSD (spP K mg n m) dvs E t) (xCall n m dds f) := by
  intro G H env σ Q s c p
  refine ha G H env σ _ s c ?_
  unfold xCall at p
  cases e : f env with
  | ok ds =>
    rw [e] at p
    have p' : Post K mg (E σ) G H Q (if (ds ++ dds).length = n then m (ds ++ dds) else .stuck) := p
    intro G1 H1 vs x r
    have rr := RepA.append r (hd G1)
    by_cases hn : (ds ++ dds).length = n
    · rw [if_pos hn] at p'
      exact ⟨rr.length.trans hn, G1, ds ++ dds, x.sub, rr, Post.fwd x p'⟩
    · rw [if_neg hn] at p'
      exact p'.elim
  | ex x => rw [e] at p; exact p
  | stuck => rw [e] at p; exact p.elim
theorem Pu.lend {n : Nat} {m : List D → R Rs} {t : TA} {f : Ev → R (List D)} {dvs : List V} {dds : List D} (hd : ∀ G, RepA K mg G dvs dds) (ha : PuAr K mg E t f) : Pu K mg E (tCallSD (spP K mg n m) dvs E t) (xLend n m dds f) := by
  intro G H env σ Q s c p
  refine ha G H env σ _ s c ?_
  unfold xLend at p
  cases e : f env with
  | ok ds =>
    rw [e] at p
    have p' : Post K mg (E σ) G H Q (if (ds ++ dds).length = n then scalR (m (ds ++ dds)) else .stuck) := p
    intro G1 H1 vs x r
    have rr := RepA.append (r.repH x.sub) (hd H1)
    by_cases hn : (ds ++ dds).length = n
    · rw [if_pos hn] at p'
      refine ⟨rr.length.trans hn, H1, ds ++ dds, fun _ _ z => z, rr, ?_⟩
      have up : ∀ {G2 H2 : Hp}, Ext H1 H1 G2 H2 → Ext G H G1 H2 := fun x2 => x.trans ⟨fun _ _ z => z, x2.hh, fun b o z => x2.hh b o (x.sub b o z), fun _ _ => rfl⟩
      cases e3 : m (ds ++ dds) with
      | ok r0 =>
        rw [e3] at p'
        intro G2 H2 v x2 rv
        cases r0 with
        | fz d0 =>
          have rv' : Rep K mg G2 v d0 := rv
          cases d0 with
          | non => cases rv'; exact p' G1 H2 _ (up x2) .non
          | bl b => cases rv'; exact p' G1 H2 _ (up x2) (.bl b)
          | int b => cases rv'; exact p' G1 H2 _ (up x2) (.int b)
          | str b => cases rv'; exact p' G1 H2 _ (up x2) (.str b)
          | _ => exact p'.elim
        | ow d0 => exact p'.elim
        | al d0 => exact p'.elim
      | ex x0 => rw [e3] at p'; exact ⟨p'.1, fun u G2 H2 mu x2 => p'.2 u G1 H2 mu (up x2)⟩
      | stuck => rw [e3] at p'; exact p'.elim
    · rw [if_neg hn] at p'
      exact p'.elim
  | ex x => rw [e] at p; exact p
  | stuck => rw [e] at p; exact p.elim
/-! ### built-ins by values -/
def PCall (K : PySem.W.Frag) (mg : MG) (r : List V → Hp → VK → Prop) (g : List D → R Rs) : Prop := ∀ (E : XK) (G H : Hp) (vs : List V) (ds : List D) (Q : VK), Same G H → RdA K mg G H vs ds → Post K mg E G H Q (g ds) → r vs H Q
def xBlt (g : List D → R Rs) (f : Ev → R (List D)) : Ev → R Rs := fun env => R.bind (f env) g
theorem Pu.blt {t : TA} {f : Ev → R (List D)} {r : List V → Hp → VK → Prop} {g : List D → R Rs} (o : PCall K mg r g) (ha : PuAr K mg E t f) : Pu K mg E (tCB r t) (xBlt g f) := by
  intro G H env σ Q s c p
  refine ha G H env σ _ s c ?_
  unfold xBlt at p
  cases e : f env with
  | ok ds =>
    rw [e] at p
    have p' : Post K mg (E σ) G H Q (g ds) := p
    exact fun G1 H1 vs x r => o (E σ) G1 H1 vs ds Q x.sub r (Post.fwd x p')
  | ex x => rw [e] at p; exact p
  | stuck => rw [e] at p; exact p.elim
/-! ### displays -/
noncomputable def xTup (f : Ev → R (List D)) : Ev → R Rs := fun env => R.bind (f env) fun ds => need (ds.length ≤ 1000) (.ok (.fz (.tup ds)))
noncomputable def xLst (f : Ev → R (List D)) : Ev → R Rs := fun env => R.bind (f env) fun ds => need (ds.length ≤ 1000) (.ok (.ow (.lst ds)))
theorem Pu.tup {t : TA} {f : Ev → R (List D)} (ha : PuA K mg E t f) : Pu K mg E (tTup t) (xTup f) := by
  intro G H env σ Q s c p
  refine ha G H env σ _ s c ?_
  unfold xTup at p
  cases e : f env with
  | ok ds =>
    rw [e] at p
    have p0 : Post K mg (E σ) G H Q (need (ds.length ≤ 1000) (.ok (.fz (.tup ds)))) := p
    intro G1 H1 vs x r
    obtain ⟨hn, p'⟩ := post_need p0
    · skip
      refine ⟨Nat.le_of_lt (small1000 (by rw [r.length]; exact hn)), fun q hq => ?_⟩
      have xn := Ext.new (o := HO.tup vs) x.sub hq
      exact p' _ _ _ (x.trans xn) (.tup (SqT.of upd_same) (RepA.mono xn.gg r))
  | ex x => rw [e] at p; exact p
  | stuck => rw [e] at p; exact p.elim
theorem Pu.lst {t : TA} {f : Ev → R (List D)} (ha : PuA K mg E t f) : Pu K mg E (tLst t) (xLst f) := by
  intro G H env σ Q s c p
  refine ha G H env σ _ s c ?_
  unfold xLst at p
  cases e : f env with
  | ok ds =>
    rw [e] at p
    have p0 : Post K mg (E σ) G H Q (need (ds.length ≤ 1000) (.ok (.ow (.lst ds)))) := p
    intro G1 H1 vs x r
    obtain ⟨hn, p'⟩ := post_need p0
    · skip
      refine ⟨Nat.le_of_lt (small1000 (by rw [r.length]; exact hn)), fun q hq => ?_⟩
      have xn := Ext.own (o := HO.lst vs) x.sub hq
      exact p' _ _ _ (x.trans xn) ⟨q, rfl, x.hh.free hq, x.sub.free hq, vs, upd_same, r⟩
  | ex x => rw [e] at p; exact p
  | stuck => rw [e] at p; exact p.elim
end
end PL

set_option Elab.async false
set_option linter.all false
set_option maxRecDepth 100000
set_option maxHeartbeats 4000000
/-! PURE LAYER, statements. -/
namespace PL
open PySem PySem.Spec PyProof.Rows L2
inductive Out where
  | nx (env : Ev) | rt (r : Rs) | bk (env : Ev) | ct (env : Ev) | ex (x : Ex) (env : Ev) | stuck
section
variable {K : PySem.W.Frag} {mg : MG} {E : L2.St → XK} {G0 H0 G H G' H' : Hp} {v w : V} {d e : D} {env : Ev} {σ : L2.St}
/-- the slots at a statement: what is one's own is new since the def's start (G0, H0), and stands apart -/
structure CorS (K : PySem.W.Frag) (mg : MG) (G0 H0 G H : Hp) (env : Ev) (σ : L2.St) : Prop where
  ext : Ext G0 H0 G H
  sl : CorE K mg G H env σ
  len : σ.length = env.length
  new : ∀ (i : Nat) (d : D) (a : Addr), env[i]? = some (.ow d) → σ[i]? = some (some (.ref a)) → H0 a = none
  apart : ∀ (i j : Nat) (d e : D) (a : Addr), env[i]? = some (.ow d) → env[j]? = some (.ow e) → σ[i]? = some (some (.ref a)) → σ[j]? = some (some (.ref a)) → i = j
theorem CorS.ext' (c : CorS K mg G0 H0 G H env σ) (x : Ext G H G' H') : CorS K mg G0 H0 G' H' env σ :=
  ⟨c.ext.trans x, c.sl.ext x, c.len, c.new, c.apart⟩
theorem CorS.fz (c : CorS K mg G0 H0 G H env σ) (i : Nat) (r : Rep K mg G v d) : CorS K mg G0 H0 G H (env.set i (.fz d)) (σ.set i (some v)) := by
  have ne : ∀ {j : Nat} {e : D}, (env.set i (.fz d))[j]? = some (.ow e) → j ≠ i ∧ env[j]? = some (.ow e) := fun {j e} h => by
    by_cases hj : i = j
    · subst hj
      by_cases hlt : i < env.length
      · rw [List.getElem?_set_self hlt] at h; cases h
      · rw [List.getElem?_eq_none (by simpa using hlt)] at h; cases h
    · rw [List.getElem?_set_ne hj] at h
      exact ⟨Ne.symm hj, h⟩
  refine ⟨c.ext, ⟨by simpa using c.sl.1, fun j s h => ?_⟩, by simpa using c.len, fun j e a h h2 => ?_, fun j k e e' a h1 h2 h3 h4 => ?_⟩
  · by_cases hj : i = j
    · subst hj
      by_cases hlt : i < env.length
      · rw [List.getElem?_set_self hlt] at h
        cases h
        exact ⟨v, List.getElem?_set_self (by rw [c.len]; exact hlt), r⟩
      · rw [List.getElem?_eq_none (by simpa using hlt)] at h; cases h
    · rw [List.getElem?_set_ne hj] at h
      rw [List.getElem?_set_ne hj]
      exact c.sl.2 j s h
  · obtain ⟨hj, h'⟩ := ne h
    rw [List.getElem?_set_ne (Ne.symm hj)] at h2
    exact c.new j e a h' h2
  · obtain ⟨hj, h1'⟩ := ne h1
    obtain ⟨hk, h2'⟩ := ne h2
    rw [List.getElem?_set_ne (Ne.symm hj)] at h3
    rw [List.getElem?_set_ne (Ne.symm hk)] at h4
    exact c.apart j k e e' a h1' h2' h3 h4
/-- a new own thing, which no slot has -/
theorem CorS.ow {a : Addr} (c : CorS K mg G0 H0 G H env σ) (i : Nat) (n : H0 a = none) (g : G a = none) (o : OwnAt K mg G H a d) (ap : ∀ (j : Nat) (e : D), env[j]? = some (.ow e) → σ[j]? ≠ some (some (.ref a))) :
    CorS K mg G0 H0 G H (env.set i (.ow d)) (σ.set i (some (.ref a))) := by
  have cs : ∀ {j : Nat} {e : D}, (env.set i (.ow d))[j]? = some (.ow e) → (j = i ∧ i < env.length) ∨ (j ≠ i ∧ env[j]? = some (.ow e)) := fun {j e} h => by
    by_cases hj : i = j
    · subst hj
      by_cases hlt : i < env.length
      · exact .inl ⟨rfl, hlt⟩
      · rw [List.getElem?_eq_none (by simpa using hlt)] at h; cases h
    · rw [List.getElem?_set_ne hj] at h
      exact .inr ⟨Ne.symm hj, h⟩
  refine ⟨c.ext, ⟨by simpa using c.sl.1, fun j s h => ?_⟩, by simpa using c.len, fun j e b h h2 => ?_, fun j k e e' b h1 h2 h3 h4 => ?_⟩
  · by_cases hj : i = j
    · subst hj
      by_cases hlt : i < env.length
      · rw [List.getElem?_set_self hlt] at h
        cases h
        exact ⟨a, List.getElem?_set_self (by rw [c.len]; exact hlt), g, o⟩
      · rw [List.getElem?_eq_none (by simpa using hlt)] at h; cases h
    · rw [List.getElem?_set_ne hj] at h
      rw [List.getElem?_set_ne hj]
      exact c.sl.2 j s h
  · rcases cs h with ⟨rfl, hlt⟩ | ⟨hj, h'⟩
    · rw [List.getElem?_set_self (by rw [c.len]; exact hlt)] at h2
      cases h2
      exact n
    · rw [List.getElem?_set_ne (Ne.symm hj)] at h2
      exact c.new j e b h' h2
  · rcases cs h1 with ⟨rfl, hlt⟩ | ⟨hj, h1'⟩
    · rw [List.getElem?_set_self (by rw [c.len]; exact hlt)] at h3
      cases h3
      rcases cs h2 with ⟨rfl, _⟩ | ⟨hk, h2'⟩
      · rfl
      · rw [List.getElem?_set_ne (Ne.symm hk)] at h4
        exact absurd h4 (ap k _ h2')
    · rw [List.getElem?_set_ne (Ne.symm hj)] at h3
      rcases cs h2 with ⟨rfl, hlt⟩ | ⟨hk, h2'⟩
      · rw [List.getElem?_set_self (by rw [c.len]; exact hlt)] at h4
        cases h4
        exact absurd h3 (ap j _ h1')
      · rw [List.getElem?_set_ne (Ne.symm hk)] at h4
        exact c.apart j k e e' b h1' h2' h3 h4
theorem CorS.no (c : CorS K mg G0 H0 G H env σ) (i : Nat) : CorS K mg G0 H0 G H (env.set i .no) (σ.set i none) := by
  have ne : ∀ {j : Nat} {e : D}, (env.set i .no)[j]? = some (.ow e) → j ≠ i ∧ env[j]? = some (.ow e) := fun {j e} h => by
    by_cases hj : i = j
    · subst hj
      by_cases hlt : i < env.length
      · rw [List.getElem?_set_self hlt] at h; cases h
      · rw [List.getElem?_eq_none (by simpa using hlt)] at h; cases h
    · rw [List.getElem?_set_ne hj] at h
      exact ⟨Ne.symm hj, h⟩
  refine ⟨c.ext, ⟨by simpa using c.sl.1, fun j s h => ?_⟩, by simpa using c.len, fun j e a h h2 => ?_, fun j k e e' a h1 h2 h3 h4 => ?_⟩
  · by_cases hj : i = j
    · subst hj
      by_cases hlt : i < env.length
      · rw [List.getElem?_set_self hlt] at h
        cases h
        trivial
      · rw [List.getElem?_eq_none (by simpa using hlt)] at h; cases h
    · rw [List.getElem?_set_ne hj] at h
      rw [List.getElem?_set_ne hj]
      exact c.sl.2 j s h
  · obtain ⟨hj, h'⟩ := ne h
    rw [List.getElem?_set_ne (Ne.symm hj)] at h2
    exact c.new j e a h' h2
  · obtain ⟨hj, h1'⟩ := ne h1
    obtain ⟨hk, h2'⟩ := ne h2
    rw [List.getElem?_set_ne (Ne.symm hj)] at h3
    rw [List.getElem?_set_ne (Ne.symm hk)] at h4
    exact c.apart j k e e' a h1' h2' h3 h4

/-- what is to hold at a statement's ends; G: what nobody changes, at its start -/
def PostS (K : PySem.W.Frag) (mg : MG) (E : L2.St → XK) (G0 H0 G : Hp) (D : Ends) : Out → Prop
  | .nx env => ∀ G' H' σ', Same G G' → CorS K mg G0 H0 G' H' env σ' → D.nx σ' H'
  | .bk env => ∀ G' H' σ', Same G G' → CorS K mg G0 H0 G' H' env σ' → D.bk σ' H'
  | .ct env => ∀ G' H' σ', Same G G' → CorS K mg G0 H0 G' H' env σ' → D.ct σ' H'
  | .rt r => ∀ G' H' v, Same G G' → Ext G0 H0 G' H' → ResR K mg H0 G' H' v r → D.rt v H'
  | .ex x env => x.fs = none ∧ ∀ u G' H' σ', Same G G' → mg x.cls = some u → CorS K mg G0 H0 G' H' env σ' → E σ' u none H'
  | .stuck => False
def Pus (K : PySem.W.Frag) (mg : MG) (E : L2.St → XK) (t : TS) (g : Ev → Out) : Prop := ∀ (G0 H0 G H : Hp) (env : Ev) (σ : L2.St) (D : Ends), CorS K mg G0 H0 G H env σ → PostS K mg E G0 H0 G D (g env) → t D σ H
theorem PostS.fwd {D : Ends} (s : Same G G') : ∀ {o : Out}, PostS K mg E G0 H0 G D o → PostS K mg E G0 H0 G' D o
  | .nx _, h => fun G2 H2 σ2 s2 c => h G2 H2 σ2 (fun a o z => s2 a o (s a o z)) c
  | .bk _, h => fun G2 H2 σ2 s2 c => h G2 H2 σ2 (fun a o z => s2 a o (s a o z)) c
  | .ct _, h => fun G2 H2 σ2 s2 c => h G2 H2 σ2 (fun a o z => s2 a o (s a o z)) c
  | .rt _, h => fun G2 H2 v s2 x r => h G2 H2 v (fun a o z => s2 a o (s a o z)) x r
  | .ex _ _, h => ⟨h.1, fun u G2 H2 σ2 s2 m c => h.2 u G2 H2 σ2 (fun a o z => s2 a o (s a o z)) m c⟩
def sNext : Ev → Out := fun env => .nx env
def sSeq (f g : Ev → Out) : Ev → Out := fun env => match f env with
  | .nx env' => g env'
  | o => o
theorem Pus.next : Pus K mg E tNext sNext := fun G0 H0 G H env σ D c p => p G H σ (fun _ _ z => z) c
theorem Pus.seq {t u : TS} {f g : Ev → Out} (ha : Pus K mg E t f) (hb : Pus K mg E u g) : Pus K mg E (tSeq t u) (sSeq f g) := by
  intro G0 H0 G H env σ D c p
  refine ha G0 H0 G H env σ _ c ?_
  unfold sSeq at p
  cases e : f env with
  | nx env' =>
    rw [e] at p
    exact fun G' H' σ' s c' => hb G0 H0 G' H' env' σ' D c' (PostS.fwd s p)
  | rt r => rw [e] at p; exact p
  | bk r => rw [e] at p; exact p
  | ct r => rw [e] at p; exact p
  | ex x env' => rw [e] at p; exact p
  | stuck => rw [e] at p; exact p
def sBreak : Ev → Out := fun env => .bk env
def sCont : Ev → Out := fun env => .ct env
theorem Pus.brk : Pus K mg E tBreak sBreak := fun G0 H0 G H env σ D c p => p G H σ (fun _ _ z => z) c
theorem Pus.cont : Pus K mg E tCont sCont := fun G0 H0 G H env σ D c p => p G H σ (fun _ _ z => z) c
/-- from a def's ends to an expression's -/
theorem CorS.exx (c : CorS K mg G0 H0 G H env σ) {x : Ex} {Q : VK} (h : x.fs = none ∧ ∀ u G' H' σ', Same G G' → mg x.cls = some u → CorS K mg G0 H0 G' H' env σ' → E σ' u none H') : Post K mg (E σ) G H Q (.ex x) :=
  ⟨h.1, fun u G' H' m x' => h.2 u G' H' σ x'.gg m (c.ext' x')⟩
def sOf (env : Ev) (r : R Rs) (k : Rs → Out) : Out := match r with
  | .ok r => k r
  | .ex x => .ex x env
  | .stuck => .stuck
theorem Pu.sthn {t : TE} {f : Ev → R Rs} (ha : Pu K mg E t f) {k : Rs → Out} {D : Ends} {Q' : VK} (c : CorS K mg G0 H0 G H env σ) (p : PostS K mg E G0 H0 G D (sOf env (f env) k))
    (h : ∀ r G1 H1 v, f env = .ok r → Ext G H G1 H1 → ResR K mg H G1 H1 v r → PostS K mg E G0 H0 G D (k r) → Q' v H1) : t σ H Q' := by
  refine ha G H env σ Q' c.ext.sub c.sl ?_
  cases e : f env with
  | ok r => rw [e] at p; exact fun G1 H1 v x rr => h r G1 H1 v e x rr p
  | ex x => rw [e] at p; exact c.exx p
  | stuck => rw [e] at p; exact p.elim
def sSet (i : Nat) (f : Ev → R Rs) : Ev → Out := fun env => sOf env (f env) fun r => match r with
  | .fz d => .nx (env.set i (.fz d))
  | .ow d => .nx (env.set i (.ow d))
  | .al _ => .stuck
theorem CorS.apartNew (c : CorS K mg G0 H0 G H env σ) {a : Addr} (n : H a = none) : ∀ (j : Nat) (e : D), env[j]? = some (.ow e) → σ[j]? ≠ some (some (.ref a)) := fun j e h z => by
  obtain ⟨b, h1, _, o⟩ := c.sl.2 j _ h
  rw [z] at h1
  cases h1
  exact o.here n
theorem Pus.set {i : Nat} {te : TE} {f : Ev → R Rs} (ha : Pu K mg E te f) : Pus K mg E (tAsg te (gName i)) (sSet i f) := by
  intro G0 H0 G H env σ D c p
  refine ha.sthn c p fun r G1 H1 v e x rr p1 => ?_
  cases r with
  | fz d => exact p1 G1 H1 _ x.gg ((c.ext' x).fz i rr)
  | ow d =>
    obtain ⟨a, e1, n, g, o⟩ := rr
    subst e1
    exact p1 G1 H1 _ x.gg ((c.ext' x).ow i (c.ext.hh.free n) g o (c.apartNew n))
  | al d => exact p1.elim
/-- an expression whose value is dropped -/
def sDrop (f : Ev → R Rs) : Ev → Out := fun env => sOf env (f env) fun _ => .nx env
theorem Pus.drop {te : TE} {f : Ev → R Rs} (ha : Pu K mg E te f) : Pus K mg E (tDrop te) (sDrop f) := by
  intro G0 H0 G H env σ D c p
  exact ha.sthn c p fun r G1 H1 v e x rr p1 => p1 G1 H1 _ x.gg (c.ext' x)
def sRet (f : Ev → R Rs) : Ev → Out := fun env => sOf env (f env) fun r => match r with
  | .al _ => .stuck
  | r => .rt r
theorem Pus.ret {te : TE} {f : Ev → R Rs} (ha : Pu K mg E te f) : Pus K mg E (tRet te) (sRet f) := by
  intro G0 H0 G H env σ D c p
  refine ha.sthn c p fun r G1 H1 v e x rr p1 => ?_
  cases r with
  | fz d => exact p1 G1 H1 v x.gg (c.ext.trans x) rr
  | ow d => exact p1 G1 H1 v x.gg (c.ext.trans x) (ResR.old (r := .ow d) c.ext.hh rr)
  | al d => exact p1.elim
def sRetN : Ev → Out := fun _ => .rt (.fz .non)
theorem Pus.retN : Pus K mg E tRetN sRetN := fun G0 H0 G H env σ D c p => p G H .non (fun _ _ z => z) c.ext .non
/-- return x, x a name -/
def sRetV (i : Nat) : Ev → Out := fun env => match env[i]? with
  | some (.fz d) => .rt (.fz d)
  | some (.ow d) => .rt (.ow d)
  | _ => .stuck
theorem Pus.retV (i : Nat) : Pus K mg E (tRet (tVar i)) (sRetV i) := by
  intro G0 H0 G H env σ D c p
  unfold sRetV at p
  cases e : env[i]? with
  | none => rw [e] at p; exact p.elim
  | some sl =>
    rw [e] at p
    have q := c.sl.2 i sl e
    cases sl with
    | no => exact p.elim
    | fz d =>
      obtain ⟨v, h1, h2⟩ := q
      exact ⟨v, h1, p G H v (fun _ _ z => z) c.ext h2⟩
    | ow d =>
      obtain ⟨a, h1, h2, h3⟩ := q
      exact ⟨_, h1, p G H _ (fun _ _ z => z) c.ext ⟨a, rfl, c.new i d a e h1, h2, h3⟩⟩
def sIf (c : Ev → R Bool) (f g : Ev → Out) : Ev → Out := fun env => match c env with
  | .ok b => if b = true then f env else g env
  | .ex x => .ex x env
  | .stuck => .stuck
theorem Pus.ite {tc : TT} {t u : TS} {cf : Ev → R Bool} {f g : Ev → Out} (hc : PuT K mg E tc cf) (ha : Pus K mg E t f) (hb : Pus K mg E u g) : Pus K mg E (tIfS tc t u) (sIf cf f g) := by
  intro G0 H0 G H env σ D c p
  unfold sIf at p
  refine hc.thn c.ext.sub c.sl (fun b G1 H1 e x => ?_) (fun x e => by rw [e] at p; exact c.exx (Q := fun _ _ => True) p) (fun e => by rw [e] at p; exact p)
  rw [e] at p
  have p' : PostS K mg E G0 H0 G D (if b = true then f env else g env) := p
  cases b with
  | true => rw [if_pos rfl]; exact ha G0 H0 G1 H1 env σ D (c.ext' x) (PostS.fwd x.gg p')
  | false => rw [if_neg Bool.false_ne_true]; exact hb G0 H0 G1 H1 env σ D (c.ext' x) (PostS.fwd x.gg p')
/-- an own thing is given up where it stands -/
def frzAt (i : Nat) (env : Ev) : Ev := match env[i]? with
  | some (.ow d) => env.set i (.fz d)
  | _ => env
theorem CorS.frz (c : CorS K mg G0 H0 G H env σ) (i : Nat) : ∃ G', Same G G' ∧ CorS K mg G0 H0 G' H (frzAt i env) σ := by
  unfold frzAt
  cases e : env[i]? with
  | none => exact ⟨G, fun _ _ z => z, c⟩
  | some sl =>
    cases sl with
    | no => exact ⟨G, fun _ _ z => z, c⟩
    | fz d => exact ⟨G, fun _ _ z => z, c⟩
    | ow d =>
      obtain ⟨a, h1, h2, h3⟩ := c.sl.2 i _ e
      obtain ⟨o, ho, r⟩ := h3.give h2
      have n := c.new i d a e h1
      have hlt := (List.getElem?_eq_some_iff.mp e).1
      have mo : Same G (upd G a o) := fun b u z => by rw [upd_ne (ne_of_none z h2)]; exact z
      refine ⟨upd G a o, mo, c.ext.give ho h2 n, ⟨by simpa using c.sl.1, fun j s h => ?_⟩, by simpa using c.len, fun j e2 b h h' => ?_, fun j k e1 e2 b q1 q2 q3 q4 => ?_⟩
      · by_cases hj : i = j
        · subst hj
          rw [List.getElem?_set_self hlt] at h
          cases h
          exact ⟨_, h1, r⟩
        · rw [List.getElem?_set_ne hj] at h
          have q := c.sl.2 j s h
          cases s with
          | no => trivial
          | fz d' => obtain ⟨v, z1, z2⟩ := q; exact ⟨v, z1, Rep.mono mo z2⟩
          | ow d' =>
            obtain ⟨b, z1, z2, z3⟩ := q
            have nb : b ≠ a := fun z => hj (c.apart i j d d' a e h h1 (by rw [z] at z1; exact z1))
            exact ⟨b, z1, by rw [upd_ne nb]; exact z2, z3.mono mo fun _ _ z => z⟩
      · have hj : i ≠ j := fun z => by subst z; rw [List.getElem?_set_self hlt] at h; cases h
        rw [List.getElem?_set_ne hj] at h
        exact c.new j e2 b h h'
      · have hj : i ≠ j := fun z => by subst z; rw [List.getElem?_set_self hlt] at q1; cases q1
        have hk : i ≠ k := fun z => by subst z; rw [List.getElem?_set_self hlt] at q2; cases q2
        rw [List.getElem?_set_ne hj] at q1
        rw [List.getElem?_set_ne hk] at q2
        exact c.apart j k e1 e2 b q1 q2 q3 q4
def sFrz (i : Nat) (g : Ev → Out) : Ev → Out := fun env => g (frzAt i env)
theorem Pus.frz (i : Nat) {t : TS} {g : Ev → Out} (h : Pus K mg E t g) : Pus K mg E t (sFrz i g) := by
  intro G0 H0 G H env σ D c p
  obtain ⟨G', s, c'⟩ := c.frz i
  exact h G0 H0 G' H _ σ D c' (PostS.fwd s p)
/-! ### targets -/
/-- what a target takes a value apart into: slots and data -/
def setL (env : Ev) : List (Nat × D) → Ev
  | [] => env
  | (i, d) :: r => setL (env.set i (.fz d)) r
def setV (σ : L2.St) : List (Nat × V) → L2.St
  | [] => σ
  | (i, v) :: r => setV (σ.set i (some v)) r
inductive RepT (K : PySem.W.Frag) (mg : MG) (G : Hp) : List (Nat × V) → List (Nat × D) → Prop
  | nil : RepT K mg G [] []
  | cons {i : Nat} {v : V} {d : D} {vs : List (Nat × V)} {ds : List (Nat × D)} : Rep K mg G v d → RepT K mg G vs ds → RepT K mg G ((i, v) :: vs) ((i, d) :: ds)
theorem RepT.append : ∀ {vs ws : List (Nat × V)} {ds es : List (Nat × D)}, RepT K mg G vs ds → RepT K mg G ws es → RepT K mg G (vs ++ ws) (ds ++ es)
  | _, _, _, _, .nil, s => s
  | _, _, _, _, .cons h r, s => .cons h (RepT.append r s)
theorem CorS.setL : ∀ {vs : List (Nat × V)} {ds : List (Nat × D)} {env : Ev} {σ : L2.St}, CorS K mg G0 H0 G H env σ → RepT K mg G vs ds → CorS K mg G0 H0 G H (PL.setL env ds) (setV σ vs)
  | _, _, _, _, c, .nil => c
  | _, _, _, _, c, .cons (i := i) h r => CorS.setL (env := List.set _ i _) (σ := List.set _ i _) (c.fz i h) r
theorem setV_append : ∀ (vs ws : List (Nat × V)) (σ : L2.St), setV σ (vs ++ ws) = setV (setV σ vs) ws
  | [], _, _ => rfl
  | (i, v) :: r, ws, σ => setV_append r ws (σ.set i (some v))
def PuG (K : PySem.W.Frag) (mg : MG) (t : TG) (put : D → Option (List (Nat × D))) : Prop := ∀ (G H : Hp) (σ : L2.St) (v : V) (d : D) (l : List (Nat × D)) (Q : L2.St → Hp → Prop), Same G H → Rep K mg G v d → put d = some l →
  (∀ vs, RepT K mg G vs l → Q (setV σ vs) H) → t v σ H Q
def PuGs (K : PySem.W.Frag) (mg : MG) (t : TGs) (put : List D → Option (List (Nat × D))) : Prop := ∀ (G H : Hp) (σ : L2.St) (vs : List V) (ds : List D) (l : List (Nat × D)) (Q : L2.St → Hp → Prop), Same G H → RepA K mg G vs ds → put ds = some l →
  (∀ ws, RepT K mg G ws l → Q (setV σ ws) H) → t vs σ H Q
def gN (i : Nat) : D → Option (List (Nat × D)) := fun d => some [(i, d)]
def gNil' : List D → Option (List (Nat × D)) := fun ds => match ds with
  | [] => some []
  | _ => none
def gCons' (p : D → Option (List (Nat × D))) (q : List D → Option (List (Nat × D))) : List D → Option (List (Nat × D)) := fun ds => match ds with
  | d :: r => match p d, q r with
    | some a, some b => some (a ++ b)
    | _, _ => none
  | [] => none
def gT (n : Nat) (q : List D → Option (List (Nat × D))) : D → Option (List (Nat × D)) := fun d => match d with
  | .tup ds => if ds.length = n then q ds else none
  | _ => none
theorem PuG.name (i : Nat) : PuG K mg (gName i) (gN i) := fun G H σ v d l Q s r e h => by
  cases e
  exact h [(i, v)] (.cons r .nil)
theorem PuGs.nil : PuGs K mg gNil gNil' := fun G H σ vs ds l Q s r e h => by
  cases r with
  | nil => cases e; exact ⟨rfl, h [] .nil⟩
  | cons _ _ => cases e
theorem PuGs.cons {t : TG} {u : TGs} {p : D → Option (List (Nat × D))} {q : List D → Option (List (Nat × D))} (ha : PuG K mg t p) (hb : PuGs K mg u q) : PuGs K mg (gCons t u) (gCons' p q) := fun G H σ vs ds l Q s r e h => by
  cases r with
  | nil => cases e
  | cons r1 r2 =>
    rename_i v vs d ds
    unfold gCons' at e
    dsimp only at e
    cases e1 : p d with
    | none => rw [e1] at e; cases e
    | some a =>
      cases e2 : q ds with
      | none => rw [e1, e2] at e; cases e
      | some b =>
        rw [e1, e2] at e
        cases e
        refine ⟨v, vs, rfl, ha G H σ v d a _ s r1 e1 fun ws rw_ => hb G H _ vs ds b _ s r2 e2 fun ws2 rw2 => ?_⟩
        rw [← setV_append]
        exact h _ (rw_.append rw2)
theorem PuG.tup {n : Nat} {t : TGs} {q : List D → Option (List (Nat × D))} (h : PuGs K mg t q) : PuG K mg (gTup K n t) (gT n q) := fun G H σ v d l Q s r e k => by
  unfold gT at e
  cases d with
  | tup ds =>
    have e' : (if ds.length = n then q ds else none) = some l := e
    cases r with
    | tup hs ra =>
      by_cases hn : ds.length = n
      · rw [if_pos hn] at e'
        exact ⟨_, _, rfl, Same.tup s hs, ra.length.trans hn, h G H σ _ ds l Q s ra e' k⟩
      · rw [if_neg hn] at e'; cases e'
  | _ => cases e
/-- a, b = e -/
def sAsg (put : D → Option (List (Nat × D))) (f : Ev → R Rs) : Ev → Out := fun env => match fzR (f env) with
  | .ok d => match put d with
    | some l => .nx (setL env l)
    | none => .stuck
  | .ex x => .ex x env
  | .stuck => .stuck
theorem Pus.asg {te : TE} {tg : TG} {f : Ev → R Rs} {put : D → Option (List (Nat × D))} (ha : Pu K mg E te f) (hg : PuG K mg tg put) : Pus K mg E (tAsg te tg) (sAsg put f) := by
  intro G0 H0 G H env σ D c p
  unfold sAsg at p
  refine ha.fz c.ext.sub c.sl ?_
  cases e : fzR (f env) with
  | ok d =>
    rw [e] at p
    have p' : PostS K mg E G0 H0 G D (match put d with | some l => Out.nx (setL env l) | none => Out.stuck) := p
    intro G1 H1 v x r
    cases e2 : put d with
    | none => rw [e2] at p'; exact p'.elim
    | some l =>
      rw [e2] at p'
      exact hg G1 H1 σ v d l _ x.sub r e2 fun vs rt => p' G1 H1 _ x.gg ((c.ext' x).setL rt)
  | ex x => rw [e] at p; exact c.exx (Q := fun _ _ => True) p
  | stuck => rw [e] at p; exact p.elim
/-! ### loops -/
/-- J walks over ds as long as all of G stands -/
structure Wks (K : PySem.W.Frag) (mg : MG) (J : It) (G : Hp) (ds : List D) : Prop where
  go : ∀ i H, i < ds.length → Same G H → J.go i H
  stop : ∀ H, Same G H → J.stop ds.length H
  yld : ∀ i G1 H1 x H' d, Same G G1 → Same G1 H1 → ds[i]? = some d → J.yld i H1 x H' → ∃ G', Ext G1 H1 G' H' ∧ Rep K mg G' x d
def PostI (K : PySem.W.Frag) (mg : MG) (E : XK) (G H : Hp) (R' : It → Hp → Prop) : R (List D) → Prop
  | .ok ds => ∀ G' H' J, Ext G H G' H' → Wks K mg J G' ds → R' J H'
  | .ex x => x.fs = none ∧ ∀ u G' H', mg x.cls = some u → Ext G H G' H' → E u none H'
  | .stuck => False
def PuI (K : PySem.W.Frag) (mg : MG) (E : L2.St → XK) (wi : TI) (f : Ev → R (List D)) : Prop := ∀ (G H : Hp) (env : Ev) (σ : L2.St) (R' : It → Hp → Prop), Same G H → CorE K mg G H env σ → PostI K mg (E σ) G H R' (f env) → wi σ H R'
def forL (put : D → Option (List (Nat × D))) (body : Ev → Out) : List D → Ev → Out
  | [], env => .nx env
  | d :: ds, env => match put d with
    | none => .stuck
    | some l => match body (setL env l) with
      | .nx env' => forL put body ds env'
      | .ct env' => forL put body ds env'
      | .bk env' => .nx env'
      | .rt r => .rt r
      | .ex x e => .ex x e
      | .stuck => .stuck
def sFor (put : D → Option (List (Nat × D))) (f : Ev → R (List D)) (body : Ev → Out) : Ev → Out := fun env => match f env with
  | .ok ds => forL put body ds env
  | .ex x => .ex x env
  | .stuck => .stuck
theorem Pus.for_ {wi : TI} {tg : TG} {tb : TS} {f : Ev → R (List D)} {put : D → Option (List (Nat × D))} {body : Ev → Out} (hi : PuI K mg E wi f) (hg : PuG K mg tg put) (hb : Pus K mg E tb body) : Pus K mg E (tFor wi tg tb) (sFor put f body) := by
  intro G0 H0 G H env σ D c p
  unfold sFor at p
  refine hi G H env σ _ c.ext.sub c.sl ?_
  cases e : f env with
  | ok ds =>
    rw [e] at p
    have p' : PostS K mg E G0 H0 G D (forL put body ds env) := p
    intro G1 H1 J x wk
    let Inv : Nat → L2.St → Hp → Prop := fun i σ2 H2 => ∃ G2 env2, Same G1 G2 ∧ CorS K mg G0 H0 G2 H2 env2 σ2 ∧ PostS K mg E G0 H0 G2 D (forL put body (ds.drop i) env2)
    refine ⟨fun i m σ2 H2 => m = ds.length - i ∧ i ≤ ds.length ∧ Inv i σ2 H2, ⟨ds.length, by simp, Nat.zero_le _, G1, env, fun _ _ z => z, c.ext' x, PostS.fwd x.gg p'⟩, ?_⟩
    rintro i m σ2 H2 ⟨rfl, hi2, G2, env2, s2, c2, p2⟩
    have s12 : Same G1 H2 := fun a o z => c2.ext.sub a o (s2 a o z)
    by_cases hlt : i < ds.length
    · refine .inr ⟨wk.go i H2 hlt s12, Inv (i + 1), fun σ' H' h' => ⟨ds.length - (i + 1), by omega, rfl, hlt, h'⟩, fun xv H3 hy => ?_⟩
      have hd : ds[i]? = some ds[i] := by simp [hlt]
      obtain ⟨G3, x3, r3⟩ := wk.yld i G2 H2 xv H3 ds[i] s2 c2.ext.sub hd hy
      have ed : ds.drop i = ds[i] :: ds.drop (i + 1) := (List.getElem_cons_drop hlt).symm
      rw [ed] at p2
      unfold forL at p2
      cases e2 : put ds[i] with
      | none => rw [e2] at p2; exact p2.elim
      | some l =>
        rw [e2] at p2
        refine hg G3 H3 σ2 xv ds[i] l _ x3.sub r3 e2 fun vs rt => ?_
        refine hb G0 H0 G3 H3 (setL env2 l) _ _ ((c2.ext' x3).setL rt) ?_
        have p3 := PostS.fwd x3.gg p2
        dsimp only at p3
        cases e3 : body (setL env2 l) with
        | nx env' => rw [e3] at p3; exact fun G' H' σ' s c' => ⟨G', env', fun a o z => s a o (x3.gg a o (s2 a o z)), c', PostS.fwd s p3⟩
        | ct env' => rw [e3] at p3; exact fun G' H' σ' s c' => ⟨G', env', fun a o z => s a o (x3.gg a o (s2 a o z)), c', PostS.fwd s p3⟩
        | bk env' => rw [e3] at p3; exact p3
        | rt r => rw [e3] at p3; exact p3
        | ex x env' => rw [e3] at p3; exact p3
        | stuck => rw [e3] at p3; exact p3
    · have ei : i = ds.length := by omega
      subst ei
      rw [List.drop_length] at p2
      exact .inl ⟨wk.stop H2 s12, p2 G2 H2 σ2 (fun _ _ z => z) c2⟩
  | ex x => rw [e] at p; exact c.exx (Q := fun _ _ => True) p
  | stuck => rw [e] at p; exact p.elim
/-! while: so many turns at most -/
def whF (cond : Ev → R Bool) (body : Ev → Out) : Nat → Ev → Out
  | 0, _ => .stuck
  | n + 1, env => match cond env with
    | .ok b => if b = true then (match body env with
      | .nx env' => whF cond body n env'
      | .ct env' => whF cond body n env'
      | .bk env' => .nx env'
      | .rt r => .rt r
      | .ex x e => .ex x e
      | .stuck => .stuck) else .nx env
    | .ex x => .ex x env
    | .stuck => .stuck
open Classical in
noncomputable def sWh (cond : Ev → R Bool) (body : Ev → Out) : Ev → Out := fun env => if h : ∃ n, whF cond body n env ≠ .stuck then whF cond body (Classical.choose h) env else .stuck
theorem Pus.whileF {tc : TT} {tb : TS} {cond : Ev → R Bool} {body : Ev → Out} (hc : PuT K mg E tc cond) (hb : Pus K mg E tb body) (n : Nat) : Pus K mg E (tWhile tc tb) (whF cond body n) := by
  intro G0 H0 G H env σ D c p
  refine ⟨fun m σ2 H2 => ∃ G2 env2, Same G G2 ∧ CorS K mg G0 H0 G2 H2 env2 σ2 ∧ PostS K mg E G0 H0 G2 D (whF cond body m env2), ⟨n, G, env, fun _ _ z => z, c, p⟩, ?_⟩
  rintro m σ2 H2 ⟨G2, env2, s2, c2, p2⟩
  cases m with
  | zero => exact p2.elim
  | succ m =>
    unfold whF at p2
    refine hc.thn c2.ext.sub c2.sl (fun b G1 H1 e x => ?_) (fun x e => by rw [e] at p2; exact c2.exx (Q := fun _ _ => True) p2) (fun e => by rw [e] at p2; exact p2)
    rw [e] at p2
    cases b with
    | true =>
      rw [if_pos rfl]
      dsimp only at p2
      rw [if_pos rfl] at p2
      refine ⟨fun σ' H' => ∃ G3 env3, Same G G3 ∧ CorS K mg G0 H0 G3 H' env3 σ' ∧ PostS K mg E G0 H0 G3 D (whF cond body m env3), fun σ' H' h => ⟨m, Nat.lt_succ_self m, h⟩, ?_⟩
      refine hb G0 H0 G1 H1 env2 σ2 _ (c2.ext' x) ?_
      have p3 := PostS.fwd x.gg p2
      cases e3 : body env2 with
      | nx env' => rw [e3] at p3; exact fun G' H' σ' s c' => ⟨G', env', fun a o z => s a o (x.gg a o (s2 a o z)), c', PostS.fwd s p3⟩
      | ct env' => rw [e3] at p3; exact fun G' H' σ' s c' => ⟨G', env', fun a o z => s a o (x.gg a o (s2 a o z)), c', PostS.fwd s p3⟩
      | bk env' => rw [e3] at p3; exact p3
      | rt r => rw [e3] at p3; exact p3
      | ex x env' => rw [e3] at p3; exact p3
      | stuck => rw [e3] at p3; exact p3
    | false =>
      rw [if_neg Bool.false_ne_true]
      dsimp only at p2
      rw [if_neg Bool.false_ne_true] at p2
      exact p2 G1 H1 σ2 x.gg (c2.ext' x)
theorem Pus.while_ {tc : TT} {tb : TS} {cond : Ev → R Bool} {body : Ev → Out} (hc : PuT K mg E tc cond) (hb : Pus K mg E tb body) : Pus K mg E (tWhile tc tb) (sWh cond body) := by
  intro G0 H0 G H env σ D c p
  unfold sWh at p
  split at p
  · exact Pus.whileF hc hb _ G0 H0 G H env σ D c p
  · exact p.elim
theorem whF_more {cond : Ev → R Bool} {body : Ev → Out} : ∀ {n : Nat} {env : Ev}, whF cond body n env ≠ .stuck → whF cond body (n + 1) env = whF cond body n env
  | 0, _, h => absurd rfl h
  | n + 1, env, h => by
    have ih := fun env' => whF_more (cond := cond) (body := body) (n := n) (env := env')
    conv => lhs; unfold whF
    conv => rhs; unfold whF
    conv at h => unfold whF
    cases e : cond env with
    | ok b =>
      rw [e] at h
      cases b with
      | true =>
        simp only [if_true] at h ⊢
        cases e2 : body env with
        | nx env' => rw [e2] at h; exact ih env' h
        | ct env' => rw [e2] at h; exact ih env' h
        | bk env' => rfl
        | rt r => rfl
        | ex x env' => rfl
        | stuck => rfl
      | false => rfl
    | ex x => rfl
    | stuck => rfl
theorem whF_le {cond : Ev → R Bool} {body : Ev → Out} {n m : Nat} {env : Ev} (h : whF cond body n env ≠ .stuck) (l : n ≤ m) : whF cond body m env = whF cond body n env := by
  induction l with
  | refl => rfl
  | step _ ih => rw [whF_more (by rw [ih]; exact h), ih]
theorem sWh_of {cond : Ev → R Bool} {body : Ev → Out} {n : Nat} {env : Ev} {o : Out} (h : whF cond body n env = o) (ho : o ≠ .stuck) : sWh cond body env = o := by
  have hx : ∃ n, whF cond body n env ≠ .stuck := ⟨n, by rw [h]; exact ho⟩
  unfold sWh
  rw [dif_pos hx]
  have hc := Classical.choose_spec hx
  rcases Nat.le_total n (Classical.choose hx) with l | l
  · rw [whF_le (by rw [h]; exact ho) l, h]
  · rw [← whF_le hc l, h]
/-- the turn's equation: by it a while is reckoned -/
theorem sWh_step {cond : Ev → R Bool} {body : Ev → Out} {env env' : Ev} {o : Out} (hc : cond env = .ok true) (hb : body env = .nx env') (h : sWh cond body env' = o) (ho : o ≠ .stuck) : sWh cond body env = o := by
  unfold sWh at h
  split at h
  · rename_i hx
    refine sWh_of (n := Classical.choose hx + 1) ?_ ho
    unfold whF
    rw [hc]
    simp only [if_true]
    rw [hb]
    exact h
  · exact absurd h.symm ho
theorem sWh_end {cond : Ev → R Bool} {body : Ev → Out} {env : Ev} (hc : cond env = .ok false) : sWh cond body env = .nx env := by
  refine sWh_of (n := 1) ?_ (by intro z; cases z)
  unfold whF
  rw [hc]
  rfl
end
end PL

set_option Elab.async false
set_option linter.all false
set_option maxRecDepth 100000
set_option maxHeartbeats 4000000
/-! PURE LAYER, operations by values. -/
namespace PL
open PySem PySem.Spec PyProof.Rows L2
theorem opR_or {X : Cx} {f : Value → Value → Sem Value} {r r' : R2} (h : OpR X f r) (h' : OpR X f r') : OpR X f (fun x y H Q => r x y H Q ∨ r' x y H Q) := by
  intro pins s σ H x y v u Q I rx ry q
  rcases q with q | q
  · exact h pins s σ H x y v u Q I rx ry q
  · exact h' pins s σ H x y v u Q I rx ry q
theorem callR_or {X : Cx} {f : Value} {r r' : List V → Hp → VK → Prop} (h : CallR X f r) (h' : CallR X f r') : CallR X f (fun x H Q => r x H Q ∨ r' x H Q) := by
  intro pins s σ H xs us Q I rx q
  rcases q with q | q
  · exact h pins s σ H xs us Q I rx q
  · exact h' pins s σ H xs us Q I rx q
/-! ### + -/
def rCatL (K : PySem.W.Frag) : R2 := fun x y H Q => ∃ a b xs ys, x = .ref a ∧ y = .ref b ∧ SqL K H a xs ∧ SqL K H b ys ∧ xs.length + ys.length ≤ sizeLine ∧ ∀ p, H p = none → Q (.ref p) (upd H p (.lst (xs ++ ys)))
theorem op_catL {X : Cx} : OpR X (binaryOp .Add) (rCatL X.K) := by
  intro pins s σ H x y v u Q I rx ry h
  obtain ⟨l, b, xs, zs, rfl, rfl, hH, hB, hz, q⟩ := h
  cases rx
  cases ry
  obtain ⟨its, r, ⟨⟨cls, dd, data, sl⟩, n, ho, hc, hdd, hd⟩, z⟩ := I.list hH
  obtain ⟨its2, r2, ⟨⟨cls2, dd2, data2, sl2⟩, n2, ho2, hc2, hdd2, hd2⟩, z2⟩ := I.list hB
  simp only at hc hd hc2 hd2 hdd hdd2
  subst hc hd hc2 hd2
  have e1 := r.length
  have e2 := r2.length
  refine concat_meets ⟨_, ho, rfl⟩ ⟨_, ho2, rfl⟩ noFill_list_add seq_list_add PySem.F.slot_list_add PySem.F.entry_list_add (PySem.F.args_list_add_2 _ _) (list_addW l b its.toArray its2.toArray n n2 dd dd2 sl sl2 (by simp only [List.size_toArray]; omega)) ⟨ho, ho2, ?_⟩
  have ea : its.toArray ++ its2.toArray = (its ++ its2).toArray := by simp
  rw [ea]
  exact ⟨.ref _, _, I.lnew (t' := s.toks) (r.append r2) (by rw [List.length_append]; omega), rfl, q _ I.fresh⟩
/-! ### data as the library's data -/
mutual
def D.toPy : D → PyData
  | .non => .none
  | .bl b => .bool b
  | .int i => .int i
  | .str s => .str s
  | .lst xs => .list (D.toPyA xs)
  | .tup xs => .tuple (D.toPyA xs)
  | .dic _ => .none
  | .obj _ _ => .none
  | .exc _ => .none
def D.toPyA : List D → List PyData
  | [] => []
  | x :: xs => D.toPy x :: D.toPyA xs
end
/-! comparable as data: plain (no dict, no object), not deeper than n -/
mutual
def D.pl : Nat → D → Bool
  | _, .non => true
  | _, .bl _ => true
  | _, .int _ => true
  | _, .str s => PyData.strOk s
  | 0, _ => false
  | n + 1, .lst xs => D.plA n xs
  | n + 1, .tup xs => D.plA n xs
  | _, .dic _ => false
  | _, .obj _ _ => false
  | _, .exc _ => false
def D.plA : Nat → List D → Bool
  | _, [] => true
  | n, x :: xs => D.pl n x && D.plA n xs
end
mutual
theorem D.pl_lay : ∀ {n : Nat} {d : D}, D.pl n d = true → (D.toPy d).canLay0 = true ∧ (D.toPy d).depth ≤ n
  | n, .non, h => by simp [D.toPy, PyData.canLay0, PyData.depth]
  | n, .bl _, h => by simp [D.toPy, PyData.canLay0, PyData.depth]
  | n, .int _, h => by simp [D.toPy, PyData.canLay0, PyData.depth]
  | n, .str s, h => by
    have h' : PyData.strOk s = true := by simpa [D.pl] using h
    simp [D.toPy, PyData.canLay0, PyData.depth, h']
  | 0, .lst xs, h => by simp [D.pl] at h
  | 0, .tup xs, h => by simp [D.pl] at h
  | 0, .dic xs, h => by simp [D.pl] at h
  | 0, .obj _ xs, h => by simp [D.pl] at h
  | 0, .exc _, h => by simp [D.pl] at h
  | n + 1, .lst xs, h => by
    have q := D.pl_layA (n := n) (ds := xs) (by simpa [D.pl] using h)
    simp only [D.toPy, PyData.canLay0, PyData.depth]
    exact ⟨q.1, by omega⟩
  | n + 1, .tup xs, h => by
    have q := D.pl_layA (n := n) (ds := xs) (by simpa [D.pl] using h)
    simp only [D.toPy, PyData.canLay0, PyData.depth]
    exact ⟨q.1, by omega⟩
  | n + 1, .dic xs, h => by simp [D.pl] at h
  | n + 1, .obj _ xs, h => by simp [D.pl] at h
  | n + 1, .exc _, h => by simp [D.pl] at h
theorem D.pl_layA : ∀ {n : Nat} {ds : List D}, D.plA n ds = true → PyData.canLayAll0 (D.toPyA ds) = true ∧ PyData.depthAll (D.toPyA ds) ≤ n
  | n, [], h => by simp [D.toPyA, PyData.canLayAll0, PyData.depthAll]
  | n, x :: xs, h => by
    simp only [D.plA, Bool.and_eq_true] at h
    have q1 := D.pl_lay h.1
    have q2 := D.pl_layA h.2
    simp only [D.toPyA, PyData.canLayAll0, PyData.depthAll, q1.1, q2.1, Bool.and_self, true_and]
    omega
end
theorem D.pl_shaped {d : D} (h : D.pl 60 d = true) : SeqAt.shaped (D.toPy d) = true := by
  have q := D.pl_lay h
  unfold SeqAt.shaped
  rw [q.1, Bool.true_and]
  exact decide_eq_true (by omega)
section
variable {K : PySem.W.Frag} {mg : MG} {E : XK} {Es : L2.St → XK} {G H : Hp} {v w : V} {d e : D}
mutual
theorem Rep.dp : ∀ {n : Nat} {v : V} {d : D}, D.pl n d = true → Rep K mg H v d → Dp K H v (D.toPy d)
  | _, _, _, _, .non => by simp only [D.toPy]; exact .non
  | _, _, _, _, .bl b => by simp only [D.toPy]; exact .bl b
  | _, _, _, _, .int b => by simp only [D.toPy]; exact .int b
  | _, _, _, _, .str b => by simp only [D.toPy]; exact .str b
  | 0, _, _, h, .lst _ _ => by simp [D.pl] at h
  | 0, _, _, h, .tup _ _ => by simp [D.pl] at h
  | n + 1, _, _, h, .lst s r => by
    simp only [D.toPy]
    exact .lst s (RepA.dp (n := n) (by simpa [D.pl] using h) r)
  | n + 1, _, _, h, .tup s r => by
    simp only [D.toPy]
    exact .tup s (RepA.dp (n := n) (by simpa [D.pl] using h) r)
  | 0, _, _, h, .dic _ _ => by simp [D.pl] at h
  | n + 1, _, _, h, .dic _ _ => by simp [D.pl] at h
  | 0, _, _, h, .obj _ _ _ => by simp [D.pl] at h
  | n + 1, _, _, h, .obj _ _ _ => by simp [D.pl] at h
  | 0, _, _, h, .exc _ _ => by simp [D.pl] at h
  | n + 1, _, _, h, .exc _ _ => by simp [D.pl] at h
theorem RepA.dp : ∀ {n : Nat} {v : List V} {d : List D}, D.plA n d = true → RepA K mg H v d → DpAll K H v (D.toPyA d)
  | _, _, _, _, .nil => by simp only [D.toPyA]; exact .nil
  | _, _, _, h, .cons r rs => by
    simp only [D.plA, Bool.and_eq_true] at h
    simp only [D.toPyA]
    exact .cons (Rep.dp h.1 r) (RepA.dp h.2 rs)
end
def eqB (d e : D) : Bool := PyData.eqv (D.toPy d) (D.toPy e)
def eqD (d e : D) : R Rs := if D.pl 60 d && D.pl 60 e then .ok (.fz (.bl (eqB d e))) else .stuck
def neD (d e : D) : R Rs := if D.pl 60 d && D.pl 60 e then .ok (.fz (.bl (!eqB d e))) else .stuck
theorem pop_eq : POp K mg (rEqD K) eqD := by
  intro E G H v w d e Q s h1 h2 p
  unfold eqD at p
  by_cases c : (D.pl 60 d && D.pl 60 e) = true
  · rw [if_pos c] at p
    rw [Bool.and_eq_true] at c
    exact ⟨_, _, Rep.dp c.1 (h1.repH s), Rep.dp c.2 (h2.repH s), D.pl_shaped c.1, D.pl_shaped c.2, p G H _ (Ext.refl s) (.bl _)⟩
  · rw [if_neg c] at p; exact p.elim
theorem pop_ne : POp K mg (rNeD K) neD := by
  intro E G H v w d e Q s h1 h2 p
  unfold neD at p
  by_cases c : (D.pl 60 d && D.pl 60 e) = true
  · rw [if_pos c] at p
    rw [Bool.and_eq_true] at c
    exact ⟨_, _, Rep.dp c.1 (h1.repH s), Rep.dp c.2 (h2.repH s), D.pl_shaped c.1, D.pl_shaped c.2, p G H _ (Ext.refl s) (.bl _)⟩
  · rw [if_neg c] at p; exact p.elim
/-! ### numbers -/
def int2 (g : Int → Int → R Rs) : D → D → R Rs := fun d e => match d, e with
  | .int i, .int j => g i j
  | _, _ => .stuck
def okI (i : Int) : R Rs := .ok (.fz (.int i))
def okB (b : Bool) : R Rs := .ok (.fz (.bl b))
def okS (b : Str) : R Rs := .ok (.fz (.str b))
theorem pop_int {r : R2} {g : Int → Int → R Rs} (h : ∀ (E : XK) G H i j Q, Same G H → Post K mg E G H Q (g i j) → r (.int i) (.int j) H Q) : POp K mg r (int2 g) := by
  intro E G H v w d e Q s h1 h2 p
  cases d <;> cases e <;> first
    | exact p.elim
    | (cases h1.int; cases h2.int; exact h E G H _ _ Q s p)
theorem post_int {G H : Hp} {Q : VK} {i : Int} (s : Same G H) (p : Post K mg E G H Q (okI i)) : Q (.int i) H := p G H _ (Ext.refl s) (.int i)
theorem post_bl {G H : Hp} {Q : VK} {i : Bool} (s : Same G H) (p : Post K mg E G H Q (okB i)) : Q (.bl i) H := p G H _ (Ext.refl s) (.bl i)
theorem post_str {G H : Hp} {Q : VK} {i : Str} (s : Same G H) (p : Post K mg E G H Q (okS i)) : Q (.str i) H := p G H _ (Ext.refl s) (.str i)
noncomputable def mulI (i j : Int) : R Rs := need (CMulX i j) (okI (i * j))
noncomputable def fdivI (i j : Int) : R Rs := need (0 < j ∧ j.natAbs.log2 < 9000) (okI (i / j))
noncomputable def modI (i j : Int) : R Rs := need (0 < j) (okI (i % j))
noncomputable def powI (i j : Int) : R Rs := need (0 ≤ j ∧ j ≤ 1000000 ∧ i.natAbs < 2 ^ 64) (okI (i ^ j.toNat))
noncomputable def addD : D → D → R Rs := fun d e => match d, e with
  | .int i, .int j => okI (i + j)
  | .str a, .str b => need (a.length + b.length ≤ sizeLine) (okS (a ++ b))
  | .tup a, .tup b => need (a.length + b.length ≤ sizeLine) (.ok (.fz (.tup (a ++ b))))
  | .lst a, .lst b => need (a.length + b.length ≤ sizeLine) (.ok (.ow (.lst (a ++ b))))
  | _, _ => .stuck
def rAddA (K : PySem.W.Frag) : R2 := fun x y H Q => (((∃ i j, x = .int i ∧ y = .int j ∧ Q (.int (i + j)) H) ∨ (∃ i j, x = .str i ∧ y = .str j ∧ i.length + j.length ≤ sizeLine ∧ Q (.str (i ++ j)) H)) ∨ rCatA K x y H Q) ∨ rCatL K x y H Q
theorem pop_add : POp K mg (rAddA K) addD := by
  intro E G H v w d e Q s h1 h2 p
  unfold addD at p
  cases d <;> cases e <;> first
    | exact p.elim
    | skip
  · cases h1.int; cases h2.int; exact .inl (.inl (.inl ⟨_, _, rfl, rfl, post_int s p⟩))
  · rename_i a b
    cases h1.str; cases h2.str
    obtain ⟨c, p⟩ := post_need p
    exact .inl (.inl (.inr ⟨_, _, rfl, rfl, c, post_str s p⟩))
  · rename_i a b
    obtain ⟨p1, vs, rfl, hs1, g1, r1⟩ := h1.lst' s
    obtain ⟨p2, ws, rfl, hs2, g2, r2⟩ := h2.lst' s
    obtain ⟨c, p⟩ := post_need p
    · skip
      refine .inr ⟨p1, p2, vs, ws, rfl, rfl, hs1, hs2, by rw [r1.length, r2.length]; exact c, fun q hq => ?_⟩
      exact p _ _ _ (Ext.own s hq) ⟨q, rfl, hq, s.free hq, _, upd_same, r1.append r2⟩
  · rename_i a b
    obtain ⟨p1, vs, rfl, hs1, g1, r1⟩ := h1.tup s
    obtain ⟨p2, ws, rfl, hs2, g2, r2⟩ := h2.tup s
    obtain ⟨c, p⟩ := post_need p
    · skip
      refine .inl (.inr ⟨p1, p2, vs, ws, rfl, rfl, hs1, hs2, by rw [r1.length, r2.length]; exact c, fun e => ?_, fun _ e => ?_, fun _ _ q hq => ?_⟩)
      · subst e
        cases r1
        exact p G H _ (Ext.refl s) (.tup g2 r2)
      · subst e
        cases r2
        rw [List.append_nil] at p
        exact p G H _ (Ext.refl s) (.tup g1 r1)
      · have xn := Ext.new (o := HO.tup (vs ++ ws)) s hq
        exact p _ _ _ xn (.tup (SqT.of upd_same) (RepA.mono xn.gg (r1.append r2)))
abbrev subD := int2 fun i j => okI (i - j)
noncomputable abbrev mulD := int2 mulI
noncomputable abbrev fdivD := int2 fdivI
noncomputable abbrev modD := int2 modI
noncomputable abbrev powD := int2 powI
abbrev ltI := int2 fun i j => okB (decide (i < j))
abbrev leI := int2 fun i j => okB (decide (i ≤ j))
abbrev gtI := int2 fun i j => okB (decide (j < i))
abbrev geI := int2 fun i j => okB (decide (j ≤ i))
theorem pop_sub : POp K mg (rI0 fun i j => .int (i - j)) subD := pop_int fun E G H i j Q s p => ⟨i, j, rfl, rfl, post_int s p⟩
theorem pop_mul : POp K mg (rI CMulX fun i j => .int (i * j)) mulD := pop_int fun E G H i j Q s p => by
  unfold mulI at p
  obtain ⟨c, p⟩ := post_need p
  exact ⟨i, j, rfl, rfl, c, post_int s p⟩
theorem pop_fdiv : POp K mg (rI CDivW fun i j => .int (i / j)) fdivD := pop_int fun E G H i j Q s p => by
  unfold fdivI at p
  obtain ⟨c, p⟩ := post_need p
  exact ⟨i, j, rfl, rfl, c, post_int s p⟩
theorem pop_mod : POp K mg (rI (fun _ j => 0 < j) fun i j => .int (i % j)) modD := pop_int fun E G H i j Q s p => by
  unfold modI at p
  obtain ⟨c, p⟩ := post_need p
  exact ⟨i, j, rfl, rfl, c, post_int s p⟩
theorem pop_pow : POp K mg (rI CPow fun i j => .int (i ^ j.toNat)) powD := pop_int fun E G H i j Q s p => by
  unfold powI at p
  obtain ⟨c, p⟩ := post_need p
  exact ⟨i, j, rfl, rfl, c, post_int s p⟩
theorem pop_lt : POp K mg (rI0 fun i j => .bl (decide (i < j))) ltI := pop_int fun E G H i j Q s p => ⟨i, j, rfl, rfl, post_bl s p⟩
theorem pop_le : POp K mg (rI0 fun i j => .bl (decide (i ≤ j))) leI := pop_int fun E G H i j Q s p => ⟨i, j, rfl, rfl, post_bl s p⟩
theorem pop_gt : POp K mg (rI0 fun i j => .bl (decide (j < i))) gtI := pop_int fun E G H i j Q s p => ⟨i, j, rfl, rfl, post_bl s p⟩
theorem pop_ge : POp K mg (rI0 fun i j => .bl (decide (j ≤ i))) geI := pop_int fun E G H i j Q s p => ⟨i, j, rfl, rfl, post_bl s p⟩
def negD (d : D) : R Rs := match d with
  | .int i => okI (-i)
  | _ => .stuck
theorem pop_neg : POp1 K mg (rU fun i => .int (-i)) negD := by
  intro E G H v d Q s h p
  cases d <;> first
    | exact p.elim
    | (cases h.int; exact ⟨_, rfl, post_int s p⟩)
/-! ### is None -/
def isND (d : D) : R Rs := okB (match d with | .non => true | _ => false)
def isNN (d : D) : R Rs := okB (match d with | .non => false | _ => true)
theorem rep_non : ∀ {d : D}, Rd1 K mg G H v d → (decide (v = .non)) = (match d with | .non => true | _ => false) := by
  intro d h
  rcases h with h | ⟨a, e, _, o⟩
  · cases h <;> simp
  · subst e
    cases d <;> first
      | exact o.elim
      | simp
theorem Pu.isN {ta : TE} {f : Ev → R Rs} (ha : Pu K mg Es ta f) : Pu K mg Es (tIsN ta) (xUn isND f) := by
  intro G H env σ Q s c p
  refine ha.thn s c p fun r G1 H1 v e x rr p1 => ?_
  have q := rep_non rr.rd
  show Q (.bl (decide (v = .non))) H1
  rw [q]
  exact post_bl x.sub p1
theorem Pu.notN {ta : TE} {f : Ev → R Rs} (ha : Pu K mg Es ta f) : Pu K mg Es (tNotN ta) (xUn isNN f) := by
  intro G H env σ Q s c p
  refine ha.thn s c p fun r G1 H1 v e x rr p1 => ?_
  have q := rep_non rr.rd
  show Q (.bl (!decide (v = .non))) H1
  rw [q]
  have e : (!(match r.d with | .non => true | _ => false)) = (match r.d with | .non => false | _ => true) := by cases r.d <;> rfl
  rw [e]
  exact post_bl x.sub p1
/-! ### isinstance by a built-in class -/
def kindD : D → Option String
  | .non => some "NoneType"
  | .bl _ => some "bool"
  | .int _ => some "int"
  | .str _ => some "str"
  | .lst _ => some "list"
  | .tup _ => some "tuple"
  | .dic _ => some "dict"
  | .obj _ _ => none
  | .exc _ => none
theorem tyx_seq {a : Addr} {xs : List V} (h : SqL K H a xs) : TyX K H (.ref a) (.type "list") := by
  rcases h with (h | ⟨o, h⟩) | ⟨o, its, n, h1, h2, _⟩
  · exact .base (.lst h)
  · exact .base (.frz h)
  · exact .kList h1 h2
theorem tyx_tup {a : Addr} {xs : List V} (h : SqT K H a xs) : TyX K H (.ref a) (.type "tuple") := by
  rcases h with (h | ⟨o, h⟩) | ⟨o, its, n, h1, h2, _⟩
  · exact .base (.tup h)
  · exact .fTuple h
  · exact .kTuple h1 h2
theorem kind_ok {k : String} (s : Same G H) (h : Rd1 K mg G H v d) (e : kindD d = some k) : TyX K H v (.type k) := by
  cases d with
  | non => cases e; cases h.non; exact .base .non
  | bl b => cases e; cases h.bl; exact .base (.bl b)
  | int b => cases e; cases h.int; exact .base (.int b)
  | str b => cases e; cases h.str; exact .base (.str b)
  | lst ds => cases e; obtain ⟨a, vs, rfl, q, _⟩ := h.lst s; exact tyx_seq q
  | tup ds => cases e; obtain ⟨a, vs, rfl, q, _⟩ := h.tup s; exact tyx_tup q
  | dic ds => cases e; obtain ⟨a, vs, rfl, q, _⟩ := h.dic s; exact .base (.dK q)
  | obj _ _ => cases e
  | exc _ => cases e
def isiD (T : String) (d : D) : R Rs := match kindD d with
  | some k => match kitB k T with
    | some b => okB b
    | none => .stuck
  | none => .stuck
def tIsi (K : PySem.W.Frag) (T : String) (ta : TE) : TE := tCB (rIsi K) (tCons ta (tCons (tC (.ty T)) tNil))
theorem Pu.isi {T : String} {ta : TE} {f : Ev → R Rs} (ha : Pu K mg Es ta f) : Pu K mg Es (tIsi K T ta) (xUn (isiD T) f) := by
  intro G H env σ Q s c p
  refine ha.thn s c p fun r G1 H1 v e x rr p1 => ?_
  unfold isiD at p1
  cases e1 : kindD r.d with
  | none => rw [e1] at p1; exact p1.elim
  | some k =>
    rw [e1] at p1
    dsimp only at p1
    cases e2 : kitB k T with
    | none => rw [e2] at p1; exact p1.elim
    | some b =>
      rw [e2] at p1
      exact ⟨v, .ty T, .type k, .type T, b, rfl, .ty T, kind_ok x.sub rr.rd e1, kit_ty e2, post_bl x.sub p1⟩
/-! ### subscripts -/
noncomputable def ixD (d e : D) : R Rs := match d, e with
  | .lst ds, .int i => match atI ds i with
    | some x => .ok (.fz x)
    | none => .stuck
  | .tup ds, .int i => match atI ds i with
    | some x => .ok (.fz x)
    | none => .stuck
  | .str z, .int i => need (z.length ≤ sizeLine) (match atI z.cps.toList i with
    | some c => okS ⟨#[c]⟩
    | none => .stuck)
  | _, _ => .stuck
theorem atI_rep {vs : List V} {ds : List D} {i : Int} {x : D} (r : RepA K mg G vs ds) (h : atI ds i = some x) : ∃ v, atI vs i = some v ∧ Rep K mg G v x := by
  unfold atI at h ⊢
  rw [← r.length] at h
  cases e : ixN vs.length i with
  | none => rw [e] at h; cases h
  | some j =>
    rw [e] at h
    obtain ⟨v, q1, q2⟩ := r.get (show ds[j]? = some x from h)
    exact ⟨v, q1, q2⟩
theorem pop_ix : POp K mg (rIx K) ixD := by
  intro E G H v w d e Q s h1 h2 p
  unfold ixD at p
  cases d <;> cases e <;> first
    | exact p.elim
    | skip
  · rename_i z i
    cases h1.str; cases h2.int
    obtain ⟨c, p⟩ := post_need p
    · skip
      cases q : atI z.cps.toList i with
      | none => rw [q] at p; exact p.elim
      | some x => rw [q] at p; exact .inr (.inr ⟨z, i, x, rfl, rfl, c, q, post_str s p⟩)
  · rename_i ds i
    obtain ⟨a, vs, rfl, hs, r⟩ := h1.lst s
    cases h2.int
    dsimp only at p
    cases q : atI ds i with
    | none => rw [q] at p; exact p.elim
    | some x =>
      rw [q] at p
      obtain ⟨u, q1, q2⟩ := atI_rep r q
      exact .inl ⟨a, vs, i, u, rfl, rfl, hs, q1, p G H u (Ext.refl s) q2⟩
  · rename_i ds i
    obtain ⟨a, vs, rfl, hs, _, r⟩ := h1.tup s
    cases h2.int
    dsimp only at p
    cases q : atI ds i with
    | none => rw [q] at p; exact p.elim
    | some x =>
      rw [q] at p
      obtain ⟨u, q1, q2⟩ := atI_rep r q
      exact .inr (.inl ⟨a, vs, i, u, rfl, rfl, hs, q1, p G H u (Ext.refl s) q2⟩)
/-! ### len, abs, range -/
noncomputable def lenD : List D → R Rs := fun xs => match xs with
  | [.lst ds] => okI ds.length
  | [.tup ds] => okI ds.length
  | [.str s] => need (s.length ≤ sizeLine) (okI s.length)
  | [.dic ds] => okI ds.length
  | _ => .stuck
def absD : List D → R Rs := fun xs => match xs with
  | [.int i] => okI (if i < 0 then -i else i)
  | _ => .stuck
theorem RdA.one {vs : List V} (h : RdA K mg G H vs [d]) : ∃ v, vs = [v] ∧ Rd1 K mg G H v d := by
  cases h with
  | cons h r => cases r; exact ⟨_, rfl, h⟩
theorem RdA.two {vs : List V} (h : RdA K mg G H vs [d, e]) : ∃ v w, vs = [v, w] ∧ Rd1 K mg G H v d ∧ Rd1 K mg G H w e := by
  cases h with
  | cons h r => cases r with
    | cons h2 r => cases r; exact ⟨_, _, rfl, h, h2⟩
theorem pcall_abs : PCall K mg (fun xs H Q => ∃ i, xs = [.int i] ∧ Q (.int (if i < 0 then -i else i)) H) absD := by
  intro E G H vs ds Q s r p
  unfold absD at p
  split at p
  · obtain ⟨v, rfl, h⟩ := r.one
    cases h.int
    exact ⟨_, rfl, post_int s p⟩
  · exact p.elim
end
/-! ### what is walked -/
section
variable {K : PySem.W.Frag} {mg : MG} {E1 : XK} {E : L2.St → XK} {G H : Hp} {v w : V} {d e : D}
def rngL (lo : Int) (n : Nat) : List D := (List.range n).map fun i : Nat => D.int (lo + (i : Int))
theorem rngL_len (lo : Int) (n : Nat) : (rngL lo n).length = n := by simp [rngL]
theorem rngL_get (lo : Int) (n i : Nat) (h : i < n) : (rngL lo n)[i]? = some (.int (lo + (i : Int))) := by
  unfold rngL
  rw [List.getElem?_map, List.getElem?_range h]
  rfl
theorem wks_range (lo : Int) (n : Nat) : Wks K mg (Itr lo n) G (rngL lo n) := by
  refine ⟨fun i H hi _ => ?_, fun H _ => ?_, fun i G1 H1 x H' d s1 s2 hd hy => ?_⟩
  · rw [rngL_len] at hi; exact hi
  · rw [rngL_len]; exact Nat.le_refl n
  · obtain ⟨e1, e2⟩ := hy
    subst e1 e2
    have hi : i < n := by
      have q := (List.getElem?_eq_some_iff.mp hd).1
      rw [rngL_len] at q; exact q
    rw [rngL_get lo n i hi] at hd
    cases hd
    exact ⟨G1, Ext.refl s2, .int _⟩
theorem wks_list {a : Addr} {vs : List V} {ds : List D} (h : SqL K G a vs) (r : RepA K mg G vs ds) : Wks K mg (Itl K a) G ds := by
  refine ⟨fun i H hi s => ?_, fun H s => ⟨vs, s.seq h, by rw [r.length]; exact Nat.le_refl _⟩, fun i G1 H1 x H' d s1 s2 hd hy => ?_⟩
  · have hv : i < vs.length := by rw [r.length]; exact hi
    exact ⟨vs, vs[i], s.seq h, by simp [hv]⟩
  · obtain ⟨e1, hy⟩ := hy
    subst e1
    obtain ⟨v, q1, q2⟩ := r.get hd
    have e := hy vs (s2.seq (s1.seq h))
    rw [q1] at e
    cases e
    exact ⟨G1, Ext.refl s2, Rep.mono s1 q2⟩
theorem wks_tup {a : Addr} {vs : List V} {ds : List D} (h : SqT K G a vs) (r : RepA K mg G vs ds) : Wks K mg (Itt K a) G ds := by
  refine ⟨fun i H hi s => ?_, fun H s => ⟨vs, Same.tup s h, by rw [r.length]; exact Nat.le_refl _⟩, fun i G1 H1 x H' d s1 s2 hd hy => ?_⟩
  · have hv : i < vs.length := by rw [r.length]; exact hi
    exact ⟨vs, vs[i], Same.tup s h, by simp [hv]⟩
  · obtain ⟨e1, hy⟩ := hy
    subst e1
    obtain ⟨v, q1, q2⟩ := r.get hd
    have e := hy vs (Same.tup s2 (Same.tup s1 h))
    rw [q1] at e
    cases e
    exact ⟨G1, Ext.refl s2, Rep.mono s1 q2⟩
noncomputable def iR1 (f : Ev → R (List D)) : Ev → R (List D) := fun env => R.bind (f env) fun ds => match ds with
  | [.int j] => need (-(2 ^ 62) ≤ j ∧ j < 2 ^ 62) (.ok (rngL 0 j.toNat))
  | _ => .stuck
noncomputable def iR2 (f : Ev → R (List D)) : Ev → R (List D) := fun env => R.bind (f env) fun ds => match ds with
  | [.int i, .int j] => need (-(2 ^ 62) ≤ i ∧ i < 2 ^ 62 ∧ -(2 ^ 62) ≤ j ∧ j < 2 ^ 62) (.ok (rngL i (j - i).toNat))
  | _ => .stuck
theorem PostI.fwd {G' H' : Hp} {R' : It → Hp → Prop} (x : Ext G H G' H') : ∀ {r : R (List D)}, PostI K mg E1 G H R' r → PostI K mg E1 G' H' R' r
  | .ok _, h => fun G2 H2 J x2 => h G2 H2 J (x.trans x2)
  | .ex _, h => ⟨h.1, fun u G2 H2 m x2 => h.2 u G2 H2 m (x.trans x2)⟩
theorem postI_need {R' : It → Hp → Prop} {c : Prop} {r : R (List D)} (p : PostI K mg E1 G H R' (need c r)) : c ∧ PostI K mg E1 G H R' r := by
  rcases need_cs c r with ⟨h, e⟩ | e
  · rw [e] at p; exact ⟨h, p⟩
  · rw [e] at p; exact p.elim
theorem PuI.rng1 {t : TA} {f : Ev → R (List D)} (ha : PuAr K mg E t f) : PuI K mg E (iRng1 t) (iR1 f) := by
  intro G H env σ R' s c p
  refine ha G H env σ _ s c ?_
  unfold iR1 at p
  cases e : f env with
  | ok ds =>
    rw [e] at p
    intro G1 H1 vs x r
    have p1 := PostI.fwd x p
    dsimp only [R.bind] at p1
    split at p1
    · rename_i j
      obtain ⟨v, rfl, h⟩ := r.one
      cases h.int
      obtain ⟨cc, p1⟩ := postI_need p1
      · exact ⟨j, rfl, cc.1, cc.2, p1 G1 H1 _ (Ext.refl x.sub) (wks_range 0 j.toNat)⟩
    · exact p1.elim
  | ex x => rw [e] at p; exact p
  | stuck => rw [e] at p; exact p.elim
theorem PuI.rng2 {t : TA} {f : Ev → R (List D)} (ha : PuAr K mg E t f) : PuI K mg E (iRng2 t) (iR2 f) := by
  intro G H env σ R' s c p
  refine ha G H env σ _ s c ?_
  unfold iR2 at p
  cases e : f env with
  | ok ds =>
    rw [e] at p
    intro G1 H1 vs x r
    have p1 := PostI.fwd x p
    dsimp only [R.bind] at p1
    split at p1
    · rename_i i j
      obtain ⟨v, w, rfl, h1, h2⟩ := r.two
      cases h1.int
      cases h2.int
      obtain ⟨cc, p1⟩ := postI_need p1
      · exact ⟨i, j, rfl, cc, p1 G1 H1 _ (Ext.refl x.sub) (wks_range i (j - i).toNat)⟩
    · exact p1.elim
  | ex x => rw [e] at p; exact p
  | stuck => rw [e] at p; exact p.elim
/-- over a list, a tuple (nobody's own) -/
def iL (f : Ev → R Rs) : Ev → R (List D) := fun env => R.bind (fzR (f env)) fun d => match d with
  | .lst ds => .ok ds
  | _ => .stuck
def iT (f : Ev → R Rs) : Ev → R (List D) := fun env => R.bind (fzR (f env)) fun d => match d with
  | .tup ds => .ok ds
  | _ => .stuck
theorem PuI.lst {t : TE} {f : Ev → R Rs} (ha : Pu K mg E t f) : PuI K mg E (iList K t) (iL f) := by
  intro G H env σ R' s c p
  unfold iL at p
  refine ha.fz s c ?_
  cases e : fzR (f env) with
  | ok d =>
    rw [e] at p
    intro G1 H1 v x r
    have p1 := PostI.fwd x p
    dsimp only [R.bind] at p1
    cases r <;> first
      | exact p1.elim
      | (rename_i a vs ds h r
         exact ⟨a, rfl, ⟨vs, x.sub.seq h⟩, p1 G1 H1 _ (Ext.refl x.sub) (wks_list h r)⟩)
  | ex x => rw [e] at p; exact p
  | stuck => rw [e] at p; exact p.elim
theorem PuI.tup {t : TE} {f : Ev → R Rs} (ha : Pu K mg E t f) : PuI K mg E (iTup K t) (iT f) := by
  intro G H env σ R' s c p
  unfold iT at p
  refine ha.fz s c ?_
  cases e : fzR (f env) with
  | ok d =>
    rw [e] at p
    intro G1 H1 v x r
    have p1 := PostI.fwd x p
    dsimp only [R.bind] at p1
    cases r <;> first
      | exact p1.elim
      | (rename_i a vs ds h r
         exact ⟨a, rfl, ⟨vs, Same.tup x.sub h⟩, p1 G1 H1 _ (Ext.refl x.sub) (wks_tup h r)⟩)
  | ex x => rw [e] at p; exact p
  | stuck => rw [e] at p; exact p.elim
end
end PL

set_option Elab.async false
set_option linter.all false
set_option maxRecDepth 100000
set_option maxHeartbeats 4000000
/-! PURE LAYER, by syntax. -/
namespace PL
open PySem PySem.Spec PyProof.Rows L2
def PUT (X : Cx) (E : L2.St → XK) (e : Expr) (f : Ev → R Bool) : Prop := ∃ t, PT X e t ∧ PuT X.K X.mg E t f
def PUW (X : Cx) (E : L2.St → XK) (e : Expr) (f : Ev → R Bool) : Prop := ∃ t, PW X e t ∧ PuT X.K X.mg E t f
def PUA (X : Cx) (E : L2.St → XK) (es : List Expr) (f : Ev → R (List D)) : Prop := ∃ t, PA X es t ∧ PuA X.K X.mg E t f
def PUAr (X : Cx) (E : L2.St → XK) (es : List Expr) (f : Ev → R (List D)) : Prop := ∃ t, PA X es t ∧ PuAr X.K X.mg E t f
def PUI (X : Cx) (E : L2.St → XK) (tg iter : Expr) (f : Ev → R (List D)) : Prop := ∃ t, PI X tg iter t ∧ PuI X.K X.mg E t f
def PUG (X : Cx) (e : Expr) (p : D → Option (List (Nat × D))) : Prop := ∃ t, PG X e t ∧ PuG X.K X.mg t p
def PUGs (X : Cx) (n : Nat) (es : List Expr) (p : List D → Option (List (Nat × D))) : Prop := es.length = n ∧ ∃ t, PGs X es t ∧ PuGs X.K X.mg t p
def PUS (X : Cx) (E : L2.St → XK) (s : Stmt) (g : Ev → Out) : Prop := ∃ t, PS X s t ∧ Pus X.K X.mg E t g
def PUSs (X : Cx) (E : L2.St → XK) (s : List Stmt) (g : Ev → Out) : Prop := ∃ t, PSs X s t ∧ Pus X.K X.mg E t g
section
variable {X : Cx} {E : L2.St → XK} {k : Nat} {a b c e o : Expr} {es rest : List Expr} {f g h : Ev → R Rs} {fa : Ev → R (List D)} {p q r : Ev → R Bool} {pos apos p1 p2 p3 : Pos} {x : Str}
/-! expressions -/
theorem u_var (i : Nat) (hN : X.N[i]? = some x := by rfl) (hv : Vis X.env.scope x := by first | exact Or.inl rfl | exact Or.inr (Or.inl rfl) | exact Or.inr (Or.inr rfl)) (hd : (x == ("__debug__" : Str)) = false := by decide)
    (hcd : (x == ("__classdict__" : Str)) = false := by decide) : PUE X E (.Name x pos) (xVar i) := ⟨_, pv i hN hv hd hcd, Pu.var i⟩
theorem u_int {i : Int} {j} : PUE X E (.Constant (.int i) j pos) (xC (.int i)) := ⟨_, pe_int, Pu.c fun _ => .int i⟩
theorem u_bl {i : Bool} {j} : PUE X E (.Constant (.bool i) j pos) (xC (.bl i)) := ⟨_, pe_bl, Pu.c fun _ => .bl i⟩
theorem u_non {j} : PUE X E (.Constant .none j pos) (xC .non) := ⟨_, pe_non, Pu.c fun _ => .non⟩
theorem u_str {i : Str} {j} : PUE X E (.Constant (.str i) j pos) (xC (.str i)) := ⟨_, pe_str, Pu.c fun _ => .str i⟩
/-- a module's name -/
def GlR (X : Cx) (x : Str) (d : D) : Prop := ∃ v u, X.mg x = some u ∧ RelV v u ∧ ∀ G, Rep X.K X.mg G v d
theorem u_glob {d : D} (hd : GlR X x d) (hg : Gl X x := by rfl) (hdb : (x == ("__debug__" : Str)) = false := by decide) : PUE X E (.Name x pos) (xC d) := by
  obtain ⟨v, u, h1, h2, h3⟩ := hd
  exact ⟨_, pe_glob hg h1 h2 hdb, Pu.c h3⟩
theorem u_op {op : Operator} {r : R2} {g : D → D → R Rs} (ho : OpR X (binaryOp op) r) (hp : POp X.K X.mg r g) (ha : PUE X E a f) (hb : PUE X E b h) : PUE X E (.BinOp a op b pos) (xBin g f h) := by
  obtain ⟨ta, a1, a2⟩ := ha
  obtain ⟨tb, b1, b2⟩ := hb
  exact ⟨_, pe_op ho a1 b1, Pu.bin hp a2 b2⟩
theorem u_cmp {op : CmpOp} {r : R2} {g : D → D → R Rs} (ho : OpR X (compareOp op) r) (hp : POp X.K X.mg r g) (ha : PUE X E a f) (hb : PUE X E b h) (hm : behindInMarks op b = false) : PUE X E (.Compare a [op] [b] pos) (xBin g f h) := by
  obtain ⟨ta, a1, a2⟩ := ha
  obtain ⟨tb, b1, b2⟩ := hb
  exact ⟨_, pe_cmpR ho a1 b1 hm, Pu.bin hp a2 b2⟩
theorem t_cmp {op : CmpOp} {r : R2} {g : D → D → R Rs} (ho : OpR X (compareOp op) r) (hp : POp X.K X.mg r g) (ha : PUE X E a f) (hb : PUE X E b h) (hm : behindInMarks op b = false) : PUT X E (.Compare a [op] [b] pos) (xB (xBin g f h)) := by
  obtain ⟨ta, a1, a2⟩ := ha
  obtain ⟨tb, b1, b2⟩ := hb
  exact ⟨_, pt_cmpR ho a1 b1 hm, PuT.of (Pu.bin hp a2 b2)⟩
theorem u_add (ha : PUE X E a f) (hb : PUE X E b h) : PUE X E (.BinOp a .Add b pos) (xBin addD f h) := u_op (opR_or (opR_or (opR_or op_add op_add_str) op_catA) op_catL) pop_add ha hb
theorem u_sub (ha : PUE X E a f) (hb : PUE X E b h) : PUE X E (.BinOp a .Sub b pos) (xBin subD f h) := u_op op_sub pop_sub ha hb
theorem u_mul (ha : PUE X E a f) (hb : PUE X E b h) : PUE X E (.BinOp a .Mult b pos) (xBin mulD f h) := u_op op_mulX pop_mul ha hb
theorem u_fdiv (ha : PUE X E a f) (hb : PUE X E b h) : PUE X E (.BinOp a .FloorDiv b pos) (xBin fdivD f h) := u_op op_fdivW pop_fdiv ha hb
theorem u_mod (ha : PUE X E a f) (hb : PUE X E b h) : PUE X E (.BinOp a .Mod b pos) (xBin modD f h) := u_op op_mod pop_mod ha hb
theorem u_pow (ha : PUE X E a f) (hb : PUE X E b h) : PUE X E (.BinOp a .Pow b pos) (xBin powD f h) := u_op op_pow pop_pow ha hb
theorem u_neg (ha : PUE X E a f) : PUE X E (.UnaryOp .USub a pos) (xUn negD f) := by
  obtain ⟨ta, a1, a2⟩ := ha
  exact ⟨_, pe_un un_neg a1, Pu.un pop_neg a2⟩
theorem u_lt (ha : PUE X E a f) (hb : PUE X E b h) : PUE X E (.Compare a [.Lt] [b] pos) (xBin ltI f h) := u_cmp op_lt pop_lt ha hb (nomark _)
theorem u_le (ha : PUE X E a f) (hb : PUE X E b h) : PUE X E (.Compare a [.LtE] [b] pos) (xBin leI f h) := u_cmp op_le pop_le ha hb (nomark _)
theorem u_gt (ha : PUE X E a f) (hb : PUE X E b h) : PUE X E (.Compare a [.Gt] [b] pos) (xBin gtI f h) := u_cmp op_gt pop_gt ha hb (nomark _)
theorem u_ge (ha : PUE X E a f) (hb : PUE X E b h) : PUE X E (.Compare a [.GtE] [b] pos) (xBin geI f h) := u_cmp op_ge pop_ge ha hb (nomark _)
theorem u_eq (hr : Room k X.A) (ha : PUE X E a f) (hb : PUE X E b h) : PUE X E (.Compare a [.Eq] [b] pos) (xBin eqD f h) := u_cmp (op_eqD hr.units) pop_eq ha hb (nomark _)
theorem u_ne (hr : Room k X.A) (ha : PUE X E a f) (hb : PUE X E b h) : PUE X E (.Compare a [.NotEq] [b] pos) (xBin neD f h) := u_cmp (op_neD hr.units) pop_ne ha hb (nomark _)
theorem t_lt (ha : PUE X E a f) (hb : PUE X E b h) : PUT X E (.Compare a [.Lt] [b] pos) (xB (xBin ltI f h)) := t_cmp op_lt pop_lt ha hb (nomark _)
theorem t_le (ha : PUE X E a f) (hb : PUE X E b h) : PUT X E (.Compare a [.LtE] [b] pos) (xB (xBin leI f h)) := t_cmp op_le pop_le ha hb (nomark _)
theorem t_gt (ha : PUE X E a f) (hb : PUE X E b h) : PUT X E (.Compare a [.Gt] [b] pos) (xB (xBin gtI f h)) := t_cmp op_gt pop_gt ha hb (nomark _)
theorem t_ge (ha : PUE X E a f) (hb : PUE X E b h) : PUT X E (.Compare a [.GtE] [b] pos) (xB (xBin geI f h)) := t_cmp op_ge pop_ge ha hb (nomark _)
theorem t_eq (hr : Room k X.A) (ha : PUE X E a f) (hb : PUE X E b h) : PUT X E (.Compare a [.Eq] [b] pos) (xB (xBin eqD f h)) := t_cmp (op_eqD hr.units) pop_eq ha hb (nomark _)
theorem t_ne (hr : Room k X.A) (ha : PUE X E a f) (hb : PUE X E b h) : PUT X E (.Compare a [.NotEq] [b] pos) (xB (xBin neD f h)) := t_cmp (op_neD hr.units) pop_ne ha hb (nomark _)
theorem u_isN {j} (ha : PUE X E a f) : PUE X E (.Compare a [.Is] [.Constant .none j p1] pos) (xUn isND f) := by
  obtain ⟨ta, a1, a2⟩ := ha
  exact ⟨_, pe_cmp (pc_isN a1), Pu.isN a2⟩
theorem u_notN {j} (ha : PUE X E a f) : PUE X E (.Compare a [.IsNot] [.Constant .none j p1] pos) (xUn isNN f) := by
  obtain ⟨ta, a1, a2⟩ := ha
  exact ⟨_, pe_cmp (pc_notN a1), Pu.notN a2⟩
theorem t_isN {j} (ha : PUE X E a f) : PUT X E (.Compare a [.Is] [.Constant .none j p1] pos) (xB (xUn isND f)) := by
  obtain ⟨ta, a1, a2⟩ := ha
  exact ⟨_, pt_cmp (pc_isN a1), PuT.of (Pu.isN a2)⟩
theorem t_notN {j} (ha : PUE X E a f) : PUT X E (.Compare a [.IsNot] [.Constant .none j p1] pos) (xB (xUn isNN f)) := by
  obtain ⟨ta, a1, a2⟩ := ha
  exact ⟨_, pt_cmp (pc_notN a1), PuT.of (Pu.notN a2)⟩
/-! tests -/
theorem t_val (ha : PUE X E a f) (he : ∀ whole, isTrue a X.env whole = (do let v ← whole; standAt a.pos; holding [v] (truthy v)) := by intro _; rfl) : PUT X E a (xB f) := by
  obtain ⟨ta, a1, a2⟩ := ha
  exact ⟨_, pt_val a1 he, PuT.of a2⟩
theorem w_and1 (ha : PUT X E a p) : PUW X E (.BoolOp .And [a] pos) p := by
  obtain ⟨ta, a1, a2⟩ := ha
  exact ⟨_, pw_and1 a1, a2⟩
theorem w_or1 (ha : PUT X E a p) : PUW X E (.BoolOp .Or [a] pos) p := by
  obtain ⟨ta, a1, a2⟩ := ha
  exact ⟨_, pw_or1 a1, a2⟩
theorem w_and (ha : PUT X E a p) (hb : PUW X E (.BoolOp .And (b :: rest) pos) q) : PUW X E (.BoolOp .And (a :: b :: rest) pos) (xAnd p q) := by
  obtain ⟨ta, a1, a2⟩ := ha
  obtain ⟨tb, b1, b2⟩ := hb
  exact ⟨_, pw_and a1 b1, PuT.and a2 b2⟩
theorem w_or (ha : PUT X E a p) (hb : PUW X E (.BoolOp .Or (b :: rest) pos) q) : PUW X E (.BoolOp .Or (a :: b :: rest) pos) (xOr p q) := by
  obtain ⟨ta, a1, a2⟩ := ha
  obtain ⟨tb, b1, b2⟩ := hb
  exact ⟨_, pw_or a1 b1, PuT.or a2 b2⟩
theorem t_w (ha : PUW X E a p) : PUT X E a p := by
  obtain ⟨ta, a1, a2⟩ := ha
  exact ⟨_, a1.pt, a2⟩
theorem t_not (ha : PUT X E a p) : PUT X E (.UnaryOp .Not a pos) (xNot p) := by
  obtain ⟨ta, a1, a2⟩ := ha
  exact ⟨_, pt_not a1, PuT.not a2⟩
theorem u_one {op} (ha : PUE X E a f) : PUE X E (.BoolOp op [a] pos) f := by
  obtain ⟨ta, a1, a2⟩ := ha
  exact ⟨_, pe_one a1, a2⟩
theorem u_and (ha : PUE X E a f) (hb : PUE X E (.BoolOp .And (b :: rest) pos) g) : PUE X E (.BoolOp .And (a :: b :: rest) pos) (xAndV f g) := by
  obtain ⟨ta, a1, a2⟩ := ha
  obtain ⟨tb, b1, b2⟩ := hb
  exact ⟨_, pe_and a1 b1, Pu.andV a2 b2⟩
theorem u_or (ha : PUE X E a f) (hb : PUE X E (.BoolOp .Or (b :: rest) pos) g) : PUE X E (.BoolOp .Or (a :: b :: rest) pos) (xOrV f g) := by
  obtain ⟨ta, a1, a2⟩ := ha
  obtain ⟨tb, b1, b2⟩ := hb
  exact ⟨_, pe_or a1 b1, Pu.orV a2 b2⟩
theorem u_not (ha : PUE X E a f) : PUE X E (.UnaryOp .Not a pos) (xNotV f) := by
  obtain ⟨ta, a1, a2⟩ := ha
  exact ⟨_, pe_not a1, Pu.notV a2⟩
theorem u_ite (hc : PUT X E c p) (ha : PUE X E a f) (hb : PUE X E b g) : PUE X E (.IfExp c a b pos) (xIf p f g) := by
  obtain ⟨tc, c1, c2⟩ := hc
  obtain ⟨ta, a1, a2⟩ := ha
  obtain ⟨tb, b1, b2⟩ := hb
  exact ⟨_, pe_ifExp c1 a1 b1, Pu.ite c2 a2 b2⟩
/-! rows -/
theorem a_nil : PUA X E [] xNil := ⟨_, pa_nil, PuA.nil⟩
theorem a_cons (ha : PUE X E a f) (hb : PUA X E es fa) (hs : starEach (a :: es) X.env = (false, eval a X.env) :: starEach es X.env := by rfl) : PUA X E (a :: es) (xCons f fa) := by
  obtain ⟨ta, a1, a2⟩ := ha
  obtain ⟨tb, b1, b2⟩ := hb
  exact ⟨_, pa_cons a1 b1 hs, PuA.cons a2 b2⟩
theorem r_nil : PUAr X E [] xNil := ⟨_, pa_nil, PuAr.nil⟩
theorem r_cons (ha : PUE X E a f) (hb : PUAr X E es fa) (hs : starEach (a :: es) X.env = (false, eval a X.env) :: starEach es X.env := by rfl) : PUAr X E (a :: es) (xConsR f fa) := by
  obtain ⟨ta, a1, a2⟩ := ha
  obtain ⟨tb, b1, b2⟩ := hb
  exact ⟨_, pa_cons a1 b1 hs, PuAr.cons a2 b2⟩
theorem u_tup {x1} (ha : PUA X E es fa) : PUE X E (.Tuple es x1 pos) (xTup fa) := by
  obtain ⟨t, a1, a2⟩ := ha
  exact ⟨_, pe_tup a1, Pu.tup a2⟩
theorem u_lst (ha : PUA X E es fa) : PUE X E (.List es pos) (xLst fa) := by
  obtain ⟨t, a1, a2⟩ := ha
  exact ⟨_, pe_lst a1, Pu.lst a2⟩
theorem u_ix (ha : PUE X E a f) (hb : PUE X E b h) (hs : PlainIx b := by exact fun _ _ => rfl) : PUE X E (.Subscript a b pos) (xBin ixD f h) := by
  obtain ⟨ta, a1, a2⟩ := ha
  obtain ⟨tb, b1, b2⟩ := hb
  exact ⟨_, pe_ix ix_seq a1 b1 hs, Pu.bin pop_ix a2 b2⟩
/-! calls -/
structure Cal (P : Program) (w : World) (K : PySem.W.Frag) (mg : MG) (base : Heap) (k : Nat) (x : Str) (ps : List Str) (dds : List D) (m : List D → R Rs) : Prop where
  ex : ∃ (f : Addr) (fd : FuncData) (ds : List Value) (dvs : List V), FnOk P w K mg base (L2.CX P w) k f fd ps (spP K mg ps.length m) ∧ mg x = some (.ref f) ∧ PySem.W.keepIn K (.ref f) = true ∧ Binds K fd ps ds ∧ Vals dvs ds ∧ ∀ G, RepA K mg G dvs dds
theorem pe_call0S {CX : CXT} {f : Addr} {fd : FuncData} {ps : List Str} {ds : List Value} {dvs : List V} {sp : Sp} (F : FnOk X.prog X.w X.K X.mg X.base CX k f fd ps sp) (hr : Room k X.A) (hg : Gl X x) (hm : X.mg x = some (.ref f)) (hk : PySem.W.keepIn X.K (.ref f) = true) (hb : Binds X.K fd ps ds) (hd : Vals dvs ds) (hx : ∀ σ, PassesAt CX X σ (E σ))
    (hdb : (x == ("__debug__" : Str)) = false := by decide) : PE X (.Call (.Name x p1) [] [] pos) (tCallSD sp dvs E tNil) := by
  refine ⟨fun pins s σ H Q I h => ?_⟩
  refine wpAny_Call_Name_kw (ld_glob I hg hm ?_ hdb)
  exact PySem.W.callWith_K0 I.kIn hk (run_fnSD (us := []) F hr hb hd (hx σ) I .nil h)
theorem u_call {j : Nat} {ps : List Str} {dds : List D} {m : List D → R Rs} (C : Cal X.prog X.w X.K X.mg X.base j x ps dds m) (hr : Room k X.A) (hk : j ≤ k) (hx : ∀ σ, PassesAt (L2.CX X.prog X.w) X σ (E σ)) (ha : PUA X E (e :: es) fa) (hg : Gl X x := by rfl)
    (hdb : (x == ("__debug__" : Str)) = false := by decide) (he : starEach (e :: es) X.env = (false, eval e X.env) :: starEach es X.env := by rfl) (hpl : (backTo pos (starEach es X.env)).any (·.1) = false := by rfl) :
    PUE X E (.Call (.Name x p1) (e :: es) [] pos) (xCall ps.length m dds fa) := by
  obtain ⟨t, a1, a2⟩ := ha
  obtain ⟨f, fd, ds, dvs, F, hm, kp, hb, hv, rp⟩ := C.ex
  exact ⟨_, pe_callSD (F.mono hk) hr hg hm kp hb hv hx a1 hdb he hpl, Pu.call rp a2⟩
theorem u_call0 {j : Nat} {ps : List Str} {dds : List D} {m : List D → R Rs} (C : Cal X.prog X.w X.K X.mg X.base j x ps dds m) (hr : Room k X.A) (hk : j ≤ k) (hx : ∀ σ, PassesAt (L2.CX X.prog X.w) X σ (E σ)) (hg : Gl X x := by rfl)
    (hdb : (x == ("__debug__" : Str)) = false := by decide) : PUE X E (.Call (.Name x p1) [] [] pos) (xCall ps.length m dds xNil) := by
  obtain ⟨f, fd, ds, dvs, F, hm, kp, hb, hv, rp⟩ := C.ex
  exact ⟨_, pe_call0S (F.mono hk) hr hg hm kp hb hv hx hdb, Pu.call rp PuA.nil⟩
/-- own things are lent; the answer is no object -/
theorem u_lend {j : Nat} {ps : List Str} {dds : List D} {m : List D → R Rs} (C : Cal X.prog X.w X.K X.mg X.base j x ps dds m) (hr : Room k X.A) (hk : j ≤ k) (hx : ∀ σ, PassesAt (L2.CX X.prog X.w) X σ (E σ)) (ha : PUAr X E (e :: es) fa) (hg : Gl X x := by rfl)
    (hdb : (x == ("__debug__" : Str)) = false := by decide) (he : starEach (e :: es) X.env = (false, eval e X.env) :: starEach es X.env := by rfl) (hpl : (backTo pos (starEach es X.env)).any (·.1) = false := by rfl) :
    PUE X E (.Call (.Name x p1) (e :: es) [] pos) (xLend ps.length m dds fa) := by
  obtain ⟨t, a1, a2⟩ := ha
  obtain ⟨f, fd, ds, dvs, F, hm, kp, hb, hv, rp⟩ := C.ex
  exact ⟨_, pe_callSD (F.mono hk) hr hg hm kp hb hv hx a1 hdb he hpl, Pu.lend rp a2⟩
theorem u_blt {id : String} {r : List V → Hp → VK → Prop} {g : List D → R Rs} (hc : CallR X (.builtin id) r) (hp : PCall X.K X.mg r g) (hm : X.mg x = none) (hv : bootBuiltins x = some (.builtin id)) (ha : PUAr X E (e :: es) fa) (hg : Gl X x := by rfl) (hn : x ≠ "__name__" := by decide) (hdb : (x == ("__debug__" : Str)) = false := by decide)
    (he : starEach (e :: es) X.env = (false, eval e X.env) :: starEach es X.env := by rfl) (hpl : (backTo pos (starEach es X.env)).any (·.1) = false := by rfl) :
    PUE X E (.Call (.Name x p1) (e :: es) [] pos) (xBlt g fa) := by
  obtain ⟨t, a1, a2⟩ := ha
  exact ⟨_, pe_callB hc hg hm hv a1 hn hdb he hpl, Pu.blt hp a2⟩
theorem u_bty {T : String} {r : List V → Hp → VK → Prop} {g : List D → R Rs} (hc : CallR X (.type T) r) (hp : PCall X.K X.mg r g) (hm : X.mg x = none) (hv : bootBuiltins x = some (.type T)) (ha : PUAr X E (e :: es) fa) (hg : Gl X x := by rfl) (hn : x ≠ "__name__" := by decide) (hdb : (x == ("__debug__" : Str)) = false := by decide)
    (he : starEach (e :: es) X.env = (false, eval e X.env) :: starEach es X.env := by rfl) (hpl : (backTo pos (starEach es X.env)).any (·.1) = false := by rfl) :
    PUE X E (.Call (.Name x p1) (e :: es) [] pos) (xBlt g fa) := by
  obtain ⟨t, a1, a2⟩ := ha
  exact ⟨_, pe_callTy hc hg hm hv a1 hn hdb he hpl, Pu.blt hp a2⟩
end
end PL

set_option Elab.async false
set_option linter.all false
set_option maxRecDepth 100000
set_option maxHeartbeats 4000000
/-! PURE LAYER, statements by syntax, defs, the head. -/
namespace PL
open PySem PySem.Spec PyProof.Rows L2
section
variable {X : Cx} {E : L2.St → XK} {k : Nat} {a b c e tg iter : Expr} {es rest : List Expr} {f g h : Ev → R Rs} {fa : Ev → R (List D)} {p q r : Ev → R Bool} {pos apos p1 p2 p3 : Pos} {x : Str} {s : Stmt} {ss body orelse : List Stmt} {u v : Ev → Out} {put : D → Option (List (Nat × D))}
theorem ss_nil : PUSs X E [] sNext := ⟨_, pss_nil, Pus.next⟩
theorem ss_cons (ha : PUS X E s u) (hb : PUSs X E ss v) : PUSs X E (s :: ss) (sSeq u v) := by
  obtain ⟨t, a1, a2⟩ := ha
  obtain ⟨t', b1, b2⟩ := hb
  exact ⟨_, pss_cons a1 b1, Pus.seq a2 b2⟩
theorem ss_one (ha : PUS X E s u) : PUSs X E [s] u := by
  obtain ⟨t, a1, a2⟩ := ha
  exact ⟨_, pss_one a1, a2⟩
theorem s_doc {z j} : PUS X E (.Expr (.Constant (.str z) j p1) pos) sNext := ⟨_, ps_doc, Pus.next⟩
theorem s_pass : PUS X E (.Pass pos) sNext := ⟨_, ps_pass, Pus.next⟩
theorem s_brk : PUS X E (.Break pos) sBreak := ⟨_, ps_break, Pus.brk⟩
theorem s_cont : PUS X E (.Continue pos) sCont := ⟨_, ps_continue, Pus.cont⟩
theorem s_set (i : Nat) (nd : X.N.Nodup) (ha : PUE X E e f) (hi : X.N[i]? = some x := by rfl) (hx : X.env.scope.names.lookup x = some .local ∨ X.env.scope.names.lookup x = some .cell := by first | exact Or.inl rfl | exact Or.inr rfl) (hs : swapsWith e (some (.Name x p1)) pos.line X.env = pure false := by rfl)
    (hf : X.fn x = true ∨ X.env.scope.names.lookup x = some .local := by first | exact .inl rfl | exact .inr rfl) : PUS X E (.Assign [.Name x p1] e pos) (sSet i f) := by
  obtain ⟨t, a1, a2⟩ := ha
  exact ⟨_, ps_set nd hi hx a1 hs hf, Pus.set a2⟩
theorem s_asg (ha : PUE X E e f) (hg : PUG X tg put) (hs : swapsWithSole [tg] e pos.line X.env = pure false := by rfl) (hw : swappedStores [tg] e X.env = pure none := by rfl)
    (h1 : (assignEach [tg] X.env).map (·.2) = [assign tg X.env] := by rfl) : PUS X E (.Assign [tg] e pos) (sAsg put f) := by
  obtain ⟨t, a1, a2⟩ := ha
  obtain ⟨t', b1, b2⟩ := hg
  exact ⟨_, ps_asg a1 b1 hs hw h1, Pus.asg a2 b2⟩
theorem s_expr (ha : PUE X E e f) (hs : swapsWith e none pos.line X.env = pure false := by rfl) : PUS X E (.Expr e pos) (sDrop f) := by
  obtain ⟨t, a1, a2⟩ := ha
  exact ⟨_, ps_expr a1 hs, Pus.drop a2⟩
theorem s_ret (ha : PUE X E e f) : PUS X E (.Return (some e) pos) (sRet f) := by
  obtain ⟨t, a1, a2⟩ := ha
  exact ⟨_, ps_ret a1, Pus.ret a2⟩
theorem s_retN : PUS X E (.Return none pos) sRetN := ⟨_, ps_retN, Pus.retN⟩
theorem s_retV (i : Nat) (hN : X.N[i]? = some x := by rfl) (hv : Vis X.env.scope x := by first | exact Or.inl rfl | exact Or.inr (Or.inl rfl) | exact Or.inr (Or.inr rfl)) (hd : (x == ("__debug__" : Str)) = false := by decide)
    (hcd : (x == ("__classdict__" : Str)) = false := by decide) : PUS X E (.Return (some (.Name x p1)) pos) (sRetV i) := ⟨_, ps_ret (pv i hN hv hd hcd), Pus.retV i⟩
theorem s_if (hc : PUT X E c p) (ha : PUSs X E body u) (hb : PUSs X E orelse v) : PUS X E (.If c body orelse pos) (sIf p u v) := by
  obtain ⟨t, c1, c2⟩ := hc
  obtain ⟨ta, a1, a2⟩ := ha
  obtain ⟨tb, b1, b2⟩ := hb
  exact ⟨_, ps_if c1 a1 b1, Pus.ite c2 a2 b2⟩
theorem s_frz (i : Nat) (h : PUS X E s u) : PUS X E s (sFrz i u) := by
  obtain ⟨t, a1, a2⟩ := h
  exact ⟨_, a1, Pus.frz i a2⟩
theorem s_for (hp : PassesOwn (model X.prog X.w) X.A X.env X.xe) (hi : PUI X E tg iter fa) (hg : PUG X tg put) (hb : PUSs X E body u) (hc : X.calm = true := by rfl) (hs : ∀ x, foldedSetIterable iter X.env x = pure x := by intro _; rfl) :
    PUS X E (.For tg iter body [] pos) (sFor put fa u) := by
  obtain ⟨ti, i1, i2⟩ := hi
  obtain ⟨t, g1, g2⟩ := hg
  obtain ⟨tb, b1, b2⟩ := hb
  exact ⟨_, ps_for hp hc i1 g1 b1 hs, Pus.for_ i2 g2 b2⟩
theorem s_while (hp : PassesOwn (model X.prog X.w) X.A X.env X.xe) (hc : PUT X E c p) (hb : PUSs X E body u) : PUS X E (.While c body [] pos) (sWh p u) := by
  obtain ⟨t, c1, c2⟩ := hc
  obtain ⟨tb, b1, b2⟩ := hb
  exact ⟨_, ps_while hp c1 b1, Pus.while_ c2 b2⟩
/-! targets -/
theorem g_name (i : Nat) (nd : X.N.Nodup) (hi : X.N[i]? = some x := by rfl) (hx : Loc X.env.scope x := by first | exact Or.inl rfl | exact Or.inr rfl) (hf : X.fn x = true ∨ X.env.scope.names.lookup x = some .local := by first | exact .inl rfl | exact .inr rfl) : PUG X (.Name x pos) (gN i) :=
  ⟨_, pg_name nd hi hx hf, PuG.name i⟩
theorem gs_nil : PUGs X 0 [] gNil' := ⟨rfl, _, pgs_nil, PuGs.nil⟩
theorem gs_cons {n : Nat} {qq : List D → Option (List (Nat × D))} (ha : PUG X e put) (hb : PUGs X n es qq) (hs : (assignEach (e :: es) X.env).map (·.2) = assign e X.env :: (assignEach es X.env).map (·.2) := by rfl) : PUGs X (n + 1) (e :: es) (gCons' put qq) := by
  obtain ⟨t, a1, a2⟩ := ha
  obtain ⟨hl, t', b1, b2⟩ := hb
  exact ⟨congrArg (· + 1) hl, _, pgs_cons a1 b1 hs, PuGs.cons a2 b2⟩
theorem g_tup {n : Nat} {x1} {qq : List D → Option (List (Nat × D))} (h : PUGs X n es qq) (hc : X.calm = true := by rfl) (hn : (assignEach es X.env).length = n := by rfl) (hst : (assignEach es X.env).findIdx? (·.1) = none := by rfl) : PUG X (.Tuple es x1 pos) (gT n qq) := by
  obtain ⟨hl, t, a1, a2⟩ := h
  exact ⟨_, pg_tup hc a1 hn hst, PuG.tup a2⟩
/-! what is walked -/
theorem i_rng1 (ha : PUAr X E [a] fa) (hm : X.mg "range" = none) (hg : Gl X "range" := by rfl) (hs : starEach [a] X.env = [(false, eval a X.env)] := by rfl) : PUI X E tg (.Call (.Name "range" p1) [a] [] pos) (iR1 fa) := by
  obtain ⟨t, a1, a2⟩ := ha
  exact ⟨_, pi_range1 hg hm a1 hs, PuI.rng1 a2⟩
theorem i_rng2 (ha : PUAr X E [a, b] fa) (hm : X.mg "range" = none) (hg : Gl X "range" := by rfl) (hs : starEach [a, b] X.env = [(false, eval a X.env), (false, eval b X.env)] := by rfl) (hs2 : starEach [b] X.env = [(false, eval b X.env)] := by rfl) :
    PUI X E tg (.Call (.Name "range" p1) [a, b] [] pos) (iR2 fa) := by
  obtain ⟨t, a1, a2⟩ := ha
  exact ⟨_, pi_range2 hg hm a1 hs hs2, PuI.rng2 a2⟩
theorem i_lst (ha : PUE X E iter f) : PUI X E tg iter (iL f) := by
  obtain ⟨t, a1, a2⟩ := ha
  exact ⟨_, pi_list a1, PuI.lst a2⟩
theorem i_tup (ha : PUE X E iter f) : PUI X E tg iter (iT f) := by
  obtain ⟨t, a1, a2⟩ := ha
  exact ⟨_, pi_tup a1, PuI.tup a2⟩
/-! isinstance, len, abs -/
theorem u_isi (T : String) {tn : Str} (ha : PUE X E e f) (hm : X.mg "isinstance" = none) (hT : X.mg tn = none) (hv : bootBuiltins tn = some (.type T)) (hg : Gl X "isinstance" := by rfl) (hgT : Gl X tn := by rfl) (hnT : tn ≠ "__name__" := by decide) (hdT : (tn == ("__debug__" : Str)) = false := by decide)
    (hs1 : starEach [e, .Name tn p2] X.env = (false, eval e X.env) :: starEach [.Name tn p2] X.env := by rfl) (hs2 : starEach [.Name tn p2] X.env = (false, eval (.Name tn p2) X.env) :: starEach [] X.env := by rfl) (hpl : (backTo pos (starEach [.Name tn p2] X.env)).any (·.1) = false := by rfl) :
    PUE X E (.Call (.Name "isinstance" p1) [e, .Name tn p2] [] pos) (xUn (isiD T) f) := by
  obtain ⟨t, a1, a2⟩ := ha
  exact ⟨_, pe_callB call_isi hg hm (by decide +kernel) (pa_cons a1 (pa_cons (pe_bltn hgT hT hv (v := .ty T) rfl hnT hdT) pa_nil hs2) hs1) (by decide) (by decide) hs1 hpl, Pu.isi a2⟩
def rLen2 (K : PySem.W.Frag) : List V → Hp → VK → Prop := fun xs H Q => (∃ p ys, xs = [.ref p] ∧ (SqL K H p ys ∨ SqT K H p ys) ∧ Q (.int ys.length) H) ∨ ∃ x n, xs = [x] ∧ LenV K x H n ∧ Q (.int n) H
theorem call_len2 : CallR X (.builtin "len") (rLen2 X.K) := callR_or call_len_seq call_len
end
section
variable {K : PySem.W.Frag} {mg : MG} {E : XK} {G H : Hp} {v w : V} {d e : D}
theorem RepD.length : ∀ {vs : List (Key × V)} {ds : List (Key × D)}, RepD K mg G vs ds → vs.length = ds.length
  | _, _, .nil => rfl
  | _, _, .cons _ r => congrArg (· + 1) r.length
end
end PL

set_option Elab.async false
set_option linter.all false
set_option maxRecDepth 100000
set_option maxHeartbeats 4000000
/-! PURE LAYER, defs, the head. -/
namespace PL
open PySem PySem.Spec PyProof.Rows L2
section
variable {K : PySem.W.Frag} {mg : MG} {E : XK} {G H : Hp} {v w : V} {d e : D}
theorem lenV_ok (s : Same G H) : ∀ {d : D} {v : V}, Rd1 K mg G H v d → ∀ n : Int, (match d with
  | .lst ds => n = ds.length
  | .tup ds => n = ds.length
  | .str z => z.length ≤ sizeLine ∧ n = z.length
  | _ => False) → ∃ m : Nat, LenV K v H m ∧ n = m := by
  intro d v h n hn
  cases d with
  | lst ds => obtain ⟨a, vs, rfl, q, r⟩ := h.lst s; exact ⟨vs.length, .inl ⟨vs, q, rfl⟩, by rw [r.length]; exact hn⟩
  | tup ds => obtain ⟨a, vs, rfl, q, _, r⟩ := h.tup s; exact ⟨vs.length, .inr ⟨vs, q, rfl⟩, by rw [r.length]; exact hn⟩
  | str z => cases h.str; exact ⟨z.length, ⟨hn.1, rfl⟩, hn.2⟩
  | _ => exact hn.elim
theorem pcall_len : PCall K mg (fun xs H Q => (∃ x n, xs = [x] ∧ LenV K x H n ∧ Q (.int n) H) ∨ ∃ d kvs, xs = [.ref d] ∧ H d = some (.dK kvs) ∧ Q (.int kvs.length) H) lenD := by
  intro E G H vs ds Q s r p
  unfold lenD at p
  split at p
  · obtain ⟨v, rfl, h⟩ := r.one
    obtain ⟨m, h1, h2⟩ := lenV_ok s h _ rfl
    rw [h2] at p
    exact .inl ⟨v, m, rfl, h1, post_int s p⟩
  · obtain ⟨v, rfl, h⟩ := r.one
    obtain ⟨m, h1, h2⟩ := lenV_ok s h _ rfl
    rw [h2] at p
    exact .inl ⟨v, m, rfl, h1, post_int s p⟩
  · obtain ⟨v, rfl, h⟩ := r.one
    obtain ⟨c, p⟩ := post_need p
    obtain ⟨m, h1, h2⟩ := lenV_ok s h _ ⟨c, rfl⟩
    rw [h2] at p
    exact .inl ⟨v, m, rfl, h1, post_int s p⟩
  · obtain ⟨v, rfl, h⟩ := r.one
    obtain ⟨a, kvs, rfl, q, rr⟩ := h.dic s
    rw [← rr.length] at p
    exact .inr ⟨a, kvs, rfl, q, post_int s p⟩
  · exact p.elim
end
section
variable {X : Cx} {E : L2.St → XK} {e : Expr} {es : List Expr} {fa : Ev → R (List D)} {pos p1 : Pos}
theorem u_len (hm : X.mg "len" = none) (ha : PUAr X E (e :: es) fa) (hg : Gl X "len" := by rfl) (he : starEach (e :: es) X.env = (false, eval e X.env) :: starEach es X.env := by rfl) (hpl : (backTo pos (starEach es X.env)).any (·.1) = false := by rfl) :
    PUE X E (.Call (.Name "len" p1) (e :: es) [] pos) (xBlt lenD fa) := u_blt (callR_or call_len call_lenD) pcall_len hm PySem.boot_len ha hg (by decide) (by decide) he hpl
theorem u_abs (hm : X.mg "abs" = none) (ha : PUAr X E (e :: es) fa) (hg : Gl X "abs" := by rfl) (he : starEach (e :: es) X.env = (false, eval e X.env) :: starEach es X.env := by rfl) (hpl : (backTo pos (starEach es X.env)).any (·.1) = false := by rfl) :
    PUE X E (.Call (.Name "abs" p1) (e :: es) [] pos) (xBlt absD fa) := u_blt call_abs pcall_abs hm (by decide +kernel) ha hg (by decide) (by decide) he hpl
end
/-! ### a def -/
def runB (nN : Nat) (g : Ev → Out) (ds : List D) : R Rs := match g (ds.map .fz ++ List.replicate (nN - ds.length) .no) with
  | .nx _ => .ok (.fz .non)
  | .rt r => .ok r
  | .ex x _ => .ex x
  | _ => .stuck
structure GoodX (X : Cx) (E : L2.St → XK) (k : Nat) : Prop where
  nd : X.N.Nodup
  hr : Room k X.A
  hx : ∀ σ, PassesAt (L2.CX X.prog X.w) X σ (E σ)
  po : PassesOwn (model X.prog X.w) X.A X.env X.xe
  tk : Takes X (fun cls d σ H => E σ cls d H)
theorem startE {K : PySem.W.Frag} {mg : MG} {G H : Hp} {N : List Str} {vs : List V} {ds : List D} (s : Same G H) (r : RepA K mg G vs ds) (hl : vs.length ≤ N.length) :
    CorS K mg G H G H (ds.map .fz ++ List.replicate (N.length - ds.length) .no) (start N vs) := by
  have el := r.length
  have noow : ∀ (i : Nat) (d : D), ¬ (ds.map Sl.fz ++ List.replicate (N.length - ds.length) .no)[i]? = some (.ow d) := fun i d h => by
    have m := List.mem_of_getElem? h
    rcases List.mem_append.mp m with m | m
    · obtain ⟨z, _, e⟩ := List.mem_map.mp m; cases e
    · have e := (List.mem_replicate.mp m).2; cases e
  have hlen : (ds.map Sl.fz ++ List.replicate (N.length - ds.length) Sl.no).length = (L2.start N vs).length := by
    unfold L2.start
    simp only [List.length_append, List.length_map, List.length_replicate]
    omega
  refine ⟨Ext.refl s, ⟨hlen, fun i sl h => ?_⟩, ?_, fun i d a h => absurd h (noow i d), fun i j d e a h => absurd h (noow i d)⟩
  · by_cases hi : i < ds.length
    · rw [List.getElem?_append_left (by simpa using hi), List.getElem?_map] at h
      have hd : ds[i]? = some ds[i] := by simp [hi]
      rw [hd] at h
      cases h
      obtain ⟨v, h1, h2⟩ := r.get hd
      refine ⟨v, ?_, h2⟩
      unfold L2.start
      rw [List.getElem?_append_left (by simpa [el] using hi), List.getElem?_map, h1]
      rfl
    · rw [List.getElem?_append_right (by simpa using hi)] at h
      have m := List.mem_of_getElem? h
      have e := (List.mem_replicate.mp m).2
      subst e
      trivial
  · unfold L2.start
    simp only [List.length_append, List.length_map, List.length_replicate]
    omega
theorem def_ok {P : Program} {w : World} {K : PySem.W.Frag} {mg : MG} {base : Heap} {x qual : Str} {params : Arguments} {body : List Stmt} {scope : Scope} {dvs : List V} {kws : List (Str × V)} {f : Addr} {fd : FuncData} {N ps : List Str} {k : Nat} {g : Ev → Out}
    (F : FunD K x qual params body scope dvs kws f fd) (S : FnScope N ps scope)
    (hb : ∀ (cdv : Value) (A : Around) (outer : List Env) (s : Shared) (H : Hp) (E : XK), GoodX (cxOf (L2.CX P w) P w K mg base N qual scope f cdv A outer s H E) (fun _ => E) k → PUSs (cxOf (L2.CX P w) P w K mg base N qual scope f cdv A outer s H E) (fun _ => E) body g) :
    FnOk P w K mg base (L2.CX P w) (k + 1) f fd ps (spP K mg ps.length (runB N.length g)) := by
  refine F.ok S (fun vs H Q E h => h.1) fun cdv A outer s H vs Q E hr hsp => ?_
  have tk : Takes (cxOf (L2.CX P w) P w K mg base N qual scope f cdv A outer s H E) (fun cls d _ H => E cls d H) := takes_of rfl rfl rfl rfl
  obtain ⟨t, h1, h2⟩ := hb cdv A outer s H E ⟨S.nd, hr, fun σ => passAt tk σ, passes_of rfl, tk⟩
  refine ⟨t, h1, ?_⟩
  obtain ⟨hl, G, ds, sm, r, p⟩ := hsp
  have hN : ps.length ≤ N.length := by
    have e := congrArg List.length S.pre
    rw [List.length_take] at e
    omega
  refine h2 G H G H _ (start N vs) _ (startE sm r (by rw [hl]; exact hN)) ?_
  unfold runB at p
  cases e : g (ds.map .fz ++ List.replicate (N.length - ds.length) .no) with
  | nx env => rw [e] at p; exact fun G' H' σ' s' c => p G' H' _ c.ext .non
  | rt r => rw [e] at p; exact fun G' H' v s' x rr => p G' H' v x rr
  | ex x env => rw [e] at p; exact ⟨p.1, fun u G' H' σ' _ m c => p.2 u G' H' m c.ext⟩
  | bk env => rw [e] at p; exact p.elim
  | ct env => rw [e] at p; exact p.elim
  | stuck => rw [e] at p; exact p.elim
theorem cal_mk {P : Program} {w : World} {K : PySem.W.Frag} {mg : MG} {base : Heap} {x : Str} {ps : List Str} {k : Nat} {m : List D → R Rs} {f : Addr} {fd : FuncData} (F : FnOk P w K mg base (L2.CX P w) k f fd ps (spP K mg ps.length m)) (hm : mg x = some (.ref f)) (kp : PySem.W.keepIn K (.ref f) = true) (b : Binds K fd ps []) :
    Cal P w K mg base k x ps [] m := ⟨f, fd, [], [], F, hm, kp, b, .nil, fun _ => .nil⟩
theorem cal_mkD {P : Program} {w : World} {K : PySem.W.Frag} {mg : MG} {base : Heap} {x : Str} {ps : List Str} {k : Nat} {m : List D → R Rs} {f : Addr} {fd : FuncData} {dvs : List V} {dds : List D} (F : FnOk P w K mg base (L2.CX P w) k f fd ps (spP K mg ps.length m)) (hm : mg x = some (.ref f)) (kp : PySem.W.keepIn K (.ref f) = true) (b : ∃ ds, Vals dvs ds ∧ Binds K fd ps ds) (r : ∀ G, RepA K mg G dvs dds) :
    Cal P w K mg base k x ps dds m := by
  obtain ⟨ds, h1, h2⟩ := b
  exact ⟨f, fd, ds, dvs, F, hm, kp, h2, h1, r⟩
/-! ### the head's facts -/
def obsP (ps : List (PySem.W.Frag → Bool)) (fn : List He.DefD) (K : PySem.W.Frag) : He.AlD := ((ps.all fun p => p K) && fn.all fun d => d.ok K, fn.map fun d => He.fnW K d.at_)
def SaysP (ps : List (PySem.W.Frag → Bool)) (fn : List He.DefD) (K : PySem.W.Frag) : Prop := obsP ps fn K = He.valD fn
def obsPG (n : Nat) (ps : List (PySem.W.Frag → Bool)) (fn : List He.DefD) (g : Addr → Option Obj) : He.AlD := obsP ps fn (He.frG g (He.asD g n))
def hookP (n : Nat) (ps : List (PySem.W.Frag → Bool)) (fn : List He.DefD) : PySem.W.Hook where
  α := He.AlD
  obs := fun s => obsPG n ps fn s.heap.get?
  val := fun _ => He.valD fn
  says := fun _ h => ∃ K : PySem.W.Frag, K.In h ∧ SaysP ps fn K
  of := fun _ _ e => ⟨_, He.frG_in, e⟩
  keeps := fun _ _ _ ⟨K, hK, c⟩ k => ⟨K, PySem.W.Frag.In.keeps hK k, c⟩
theorem obsPG_eq {n : Nat} {ps : List (PySem.W.Frag → Bool)} {fn : List He.DefD} {g : Addr → Option Obj} {s : Shared} (h : ∀ a, g a = s.heap.get? a) : obsPG n ps fn g = (hookP n ps fn).obs s := by
  have e : g = s.heap.get? := funext h
  rw [e] <;> rfl
section
variable {ps : List (PySem.W.Frag → Bool)} {fn : List He.DefD} {K : PySem.W.Frag}
theorem SaysP.fact (c : SaysP ps fn K) (i : Nat) {p : PySem.W.Frag → Bool} (h : ps[i]? = some p := by rfl) : p K = true := by
  have c1 := (He.ba (show ((ps.all fun p => p K) && fn.all fun d => d.ok K) = true from congrArg (fun z : He.AlD => z.1) c)).1
  exact List.all_eq_true.mp c1 p (List.mem_of_getElem? h)
theorem SaysP.def_ (c : SaysP ps fn K) (i : Nat) {d : He.DefD} (h : fn[i]? = some d := by rfl) : ∃ fd, FunD K d.name d.qual d.params d.body d.scope (d.dvs K) (d.kws K) (He.fAd K d.at_) fd := by
  have c2 := (He.ba (show ((ps.all fun p => p K) && fn.all fun d => d.ok K) = true from congrArg (fun z : He.AlD => z.1) c)).2
  have e : fn.map (fun d => He.fnW K d.at_) = fn.map He.DefD.val := congrArg (fun z : He.AlD => z.2) c
  have e2 : (fn.map fun d => He.fnW K d.at_)[i]? = (fn.map He.DefD.val)[i]? := by rw [e]
  rw [List.getElem?_map, List.getElem?_map, h] at e2
  exact He.DefD.funD (Option.some.inj e2) (List.all_eq_true.mp c2 d (List.mem_of_getElem? h))
end
/-! ### the law's end -/
def spLaw (K : PySem.W.Frag) : Sp := fun vs H Q _ => ∃ (a : Addr) (ns : List Int), vs = [.ref a] ∧ SqL K H a (ns.map V.int) ∧ ns.length ≤ 63 ∧ (∀ z ∈ ns, Builtin.Int.intBits z ≤ 1048576) ∧ ∀ H', Q (.bl true) H'
theorem repA_ints {K : PySem.W.Frag} {mg : MG} {G : Hp} : ∀ ns : List Int, RepA K mg G (ns.map V.int) (ns.map D.int)
  | [] => .nil
  | n :: r => .cons (.int n) (repA_ints r)
/-- the mirror says True of every script -/
def LawD (m : List D → R Rs) : Prop := ∀ ns : List Int, ns.length ≤ 63 → (∀ z ∈ ns, Builtin.Int.intBits z ≤ 1048576) → m [.lst (ns.map D.int)] = .ok (.fz (.bl true))
theorem law_sp {P : Program} {w : World} {K : PySem.W.Frag} {mg : MG} {base : Heap} {k : Nat} {f : Addr} {fd : FuncData} {x : Str} {m : List D → R Rs} (F : FnOk P w K mg base (L2.CX P w) k f fd [x] (spP K mg 1 m)) (h : LawD m) :
    FnOk P w K mg base (L2.CX P w) k f fd [x] (spLaw K) := F.imp fun vs H Q E ⟨a, ns, e, hS, hl, hb, q⟩ => by
  subst e
  refine ⟨rfl, H, [.lst (ns.map D.int)], fun _ _ z => z, .cons (.lst hS (repA_ints ns)) .nil, ?_⟩
  rw [h ns hl hb]
  intro G' H' v x r
  cases r
  exact q H'
theorem walk_ofEB {l : PySem.W.OpenLaw} {k : Nat} {q : Program} {loose : List Str} {XP : (Str → Option Value) → Heap → Prop} {YP : World → Heap → Prop} {d : DefRec} {x : Str}
    (hn : l.most = some 63) (hdf : d.params.defaults = []) (hr : Room k callerA)
    (F : ∀ (w : World) (mg : Str → Option Value) (fa : Addr) (h : Heap), YP w h → h.Ns mainGlobals mg → mg d.name = some (.ref fa) →
      ∃ (K : PySem.W.Frag) (fd : FuncData), K.In h ∧ (∀ (s : Shared) (u : Value), BindsTo s fd ⟨[u], []⟩ [(x, u)]) ∧
        ∀ base : Heap, K.In base → base.Ns mainGlobals mg → FnOk l.prog w K mg base (L2.CX l.prog w) k fa fd [x] (spLaw K)) :
    PySem.W.WalkO q loose XP YP l.row.toRowW d [] (fun f vs => PySem.call f vs) := by
  refine Att.attach_callB hn hdf fun w s₀ s₁ mg mb fa o pm cd doc a vs ns G Y ho hd hcd hmg hobj hints hlen hbits hg => ?_
  obtain ⟨K, fd, KX, hb, hF⟩ := F w mg fa _ Y G.T.g hmg
  exact law_call KX G.T.g G.T.b G.T.builtins G.T.nolimit hg hobj hints (Nat.le_trans hlen (by decide)) hr hF hb (fun H hO hS => ⟨a, ns, rfl, hS, hlen, hbits, fun _ => rfl⟩) fun H e s' h => by
    obtain ⟨_, _, _, _, _, _, _, _, _, _, _, _, z⟩ := h
    exact z
end PL

set_option Elab.async false
set_option linter.all false
set_option maxRecDepth 100000
set_option maxHeartbeats 4000000
/-! PURE LAYER, more constructs. -/
namespace PL
open PySem PySem.Spec PyProof.Rows L2
section
variable {K : PySem.W.Frag} {mg : MG} {E : L2.St → XK} {G0 H0 G H G' H' : Hp} {v w : V} {d e : D} {env : Ev} {σ : L2.St}
/-! ### chains of comparisons -/
def xChain (g g' : D → D → R Rs) (fa fb fc : Ev → R Rs) : Ev → R Rs := fun env => R.bind (fa env) fun r1 => R.bind (fb env) fun r2 => R.bind (R.bind (g r1.d r2.d) fun r => asB r.d) fun b =>
  if b = true then R.bind (fc env) fun r3 => g' r2.d r3.d else .ok (.fz (.bl false))
theorem Pu.chain {ta tb tc : TE} {fa fb fc : Ev → R Rs} {r r' : R2} {g g' : D → D → R Rs} (o : POp K mg r g) (o' : POp K mg r' g') (ha : Pu K mg E ta fa) (hb : Pu K mg E tb fb) (hc : Pu K mg E tc fc) : Pu K mg E (tChain r r' ta tb tc) (xChain g g' fa fb fc) := by
  intro G H env σ Q s c p
  refine ha.thn s c p fun r1 G1 H1 v e1 x1 rr1 p1 => ?_
  refine hb.thn x1.sub (c.ext x1) p1 fun r2 G2 H2 w e2 x2 rr2 p2 => ?_
  refine o (E σ) G2 H2 v w _ _ _ x2.sub (rr1.rd.ext x2) rr2.rd ?_
  cases e3 : g r1.d r2.d with
  | ok r3 =>
    rw [e3] at p2
    intro G3 H3 z x3 rr3
    have p3 := Post.fwd x3 p2
    rw [bind_ok] at p3
    cases hd : r3.d with
    | bl b =>
      rw [hd] at p3
      have q := rr3.rd
      rw [hd] at q
      refine ⟨b, q.bl, ?_⟩
      cases b with
      | true =>
        rw [if_pos rfl]
        exact hc.thn x3.sub (c.ext ((x1.trans x2).trans x3)) p3 fun r4 G4 H4 u e4 x4 rr4 p4 => o' (E σ) G4 H4 w u _ _ Q x4.sub ((rr2.rd.ext x3).ext x4) rr4.rd p4
      | false => rw [if_neg Bool.false_ne_true]; exact p3 G3 H3 _ (Ext.refl x3.sub) (.bl false)
    | _ => rw [hd] at p3; exact p3.elim
  | ex x => rw [e3] at p2; exact p2
  | stuck => rw [e3] at p2; exact p2.elim
/-! ### in -/
def strSign (s : Str) : Option Nat := match s.cps.toList with
  | [c] => some c
  | _ => none
theorem strSign_ok {s : Str} {c : Nat} (h : strSign s = some c) : s = ⟨#[c]⟩ := by
  unfold strSign at h
  split at h
  · rename_i a e
    cases h
    obtain ⟨cps⟩ := s
    have e' : cps = #[c] := by
      apply Array.ext'
      simpa using e
    rw [e']
  · cases h
def D.flat : D → Bool
  | .non => true
  | .bl _ => true
  | .int _ => true
  | .str _ => true
  | _ => false
/-- == of flat things -/
def eqF : D → D → Bool
  | .non, .non => true
  | .bl a, .bl b => a == b
  | .bl a, .int b => (if a then 1 else 0) == b
  | .int a, .bl b => a == (if b then 1 else 0)
  | .int a, .int b => a == b
  | .str a, .str b => a == b
  | _, _ => false
def D.key : D → Option Key
  | .int i => some (.inl i)
  | .str s => some (.inr s)
  | _ => none
def hasK (ks : List (Key × D)) (k : Key) : Bool := ks.any fun p => decide (p.1 = k)
noncomputable def inB (d e : D) : R Bool := match e with
  | .str z => match d with
    | .str s => match strSign s with
      | some c => .ok (decide (c ∈ z.cps.toList))
      | none => .ok (!(Builtin.Str.occurrences z s 0 z.length 1).isEmpty)
    | _ => .stuck
  | .lst ds => need (D.pl 59 d = true ∧ D.plA 59 ds = true) (.ok (ds.any fun y => eqB y d))
  | .tup ds => if d.flat && ds.all D.flat then .ok (ds.any fun y => eqF y d) else .stuck
  | .dic ks => match d.key with
    | some k => .ok (hasK ks k)
    | none => .stuck
  | _ => .stuck
noncomputable def inD (d e : D) : R Rs := R.bind (inB d e) okB
noncomputable def ninD (d e : D) : R Rs := R.bind (inB d e) fun b => okB (!b)
def rInA (K : PySem.W.Frag) (n : Bool) : R2 := fun x y H Q =>
  (((∃ (c : Nat) (z : Str), x = .str ⟨#[c]⟩ ∧ y = .str z ∧ Q (.bl (n != decide (c ∈ z.cps.toList))) H) ∨
   (∃ i j, x = .str i ∧ y = .str j ∧ Q (.bl (n != !(Builtin.Str.occurrences j i 0 j.length 1).isEmpty)) H)) ∨
   (∃ d ds, Dp K H x d ∧ Dp K H y (.list ds) ∧ SeqAt.shaped d = true ∧ SeqAt.shaped (.list ds) = true ∧ Q (.bl (n != ds.any fun z => PyData.eqv z d)) H)) ∨
   ((∃ p xs, y = .ref p ∧ (SqL K H p xs ∨ SqT K H p xs) ∧ flatV x = true ∧ xs.all flatV = true ∧ Q (.bl (n != inV x xs)) H) ∨
   (∃ a o, y = .ref a ∧ DGet H a x o ∧ Q (.bl (n != o.isSome)) H))
theorem rep_flat (h : Rep K mg G v d) (hd : d.flat = true) : flatV v = true := by
  cases h <;> first
    | rfl
    | cases hd
theorem rep_eqF {v' : V} {d' : D} (h : Rep K mg G v d) (h' : Rep K mg G v' d') (hd : d.flat = true) (hd' : d'.flat = true) : eqV v v' = eqF d d' := by
  cases h <;> cases h' <;> first
    | rfl
    | cases hd
    | cases hd'
theorem repA_flat : ∀ {vs : List V} {ds : List D}, RepA K mg G vs ds → ds.all D.flat = true → vs.all flatV = true
  | _, _, .nil, _ => rfl
  | _, _, .cons h r, hd => by
    rw [List.all_cons, Bool.and_eq_true] at hd
    rw [List.all_cons, rep_flat h hd.1, repA_flat r hd.2]
    rfl
theorem repA_eqF {v' : V} {d' : D} (h' : Rep K mg G v' d') (hd' : d'.flat = true) : ∀ {vs : List V} {ds : List D}, RepA K mg G vs ds → ds.all D.flat = true → inV v' vs = ds.any fun y => eqF y d'
  | _, _, .nil, _ => rfl
  | _, _, .cons h r, hd => by
    rw [List.all_cons, Bool.and_eq_true] at hd
    have ih := repA_eqF h' hd' r hd.2
    unfold inV at ih ⊢
    rw [List.any_cons, List.any_cons, rep_eqF h h' hd.1 hd', ih]
theorem repD_get : ∀ {vs : List (Key × V)} {ds : List (Key × D)} (k : Key), RepD K mg G vs ds → (valV vs k).isSome = hasK ds k
  | _, _, k, .nil => rfl
  | _, _, k, .cons (k := k') (vs := vs) (ds := ds) h r => by
    have ih := repD_get k r
    unfold valV hasK at ih ⊢
    by_cases c : k' = k
    · simp [List.find?_cons, c]
    · simpa [List.find?_cons, c] using ih
theorem flat_of (h : Rd1 K mg G H v d) (hd : d.flat = true) : Rep K mg G v d := by
  rcases h with h | ⟨a, e, _, o⟩
  · exact h
  · cases d <;> first
      | exact o.elim
      | cases hd
theorem kV_of {k : Key} (h : Rd1 K mg G H v d) (hk : d.key = some k) : v = kV k := by
  cases d <;> first
    | (cases hk; exact h.int)
    | (cases hk; exact h.str)
    | cases hk
theorem pop_inA (n : Bool) : POp K mg (rInA K n) (fun d e => R.bind (inB d e) fun b => okB (n != b)) := by
  intro E G H v w d e Q s h1 h2 p
  unfold inB at p
  cases e with
  | str z =>
    cases h2.str
    cases d with
    | str t =>
      cases h1.str
      dsimp only at p
      cases hs : strSign t with
      | some c =>
        rw [hs] at p
        rw [strSign_ok hs] at *
        exact .inl (.inl (.inl ⟨c, z, rfl, rfl, post_bl s p⟩))
      | none =>
        rw [hs] at p
        exact .inl (.inl (.inr ⟨t, z, rfl, rfl, post_bl s p⟩))
    | _ => exact p.elim
  | lst ds =>
    have p0 : Post K mg E G H Q (need (D.pl 59 d = true ∧ D.plA 59 ds = true) (okB (n != ds.any fun y => eqB y d))) := by
      rcases need_cs (D.pl 59 d = true ∧ D.plA 59 ds = true) (R.ok (ds.any fun y => eqB y d)) with ⟨c, e⟩ | e
      · dsimp only at p
        rw [e] at p
        rw [need_pos c]
        exact p
      · dsimp only at p
        rw [e] at p
        exact p.elim
    obtain ⟨⟨c1, c2⟩, p1⟩ := post_need p0
    have q1 := D.pl_lay c1
    have q2 := D.pl_layA c2
    have ea : ((D.toPyA ds).any fun z => PyData.eqv z (D.toPy d)) = ds.any fun y => eqB y d := by
      clear p p0 p1 h2 c2 q2
      induction ds with
      | nil => simp [D.toPyA]
      | cons a r ih => simp only [D.toPyA, List.any_cons, ih]; rfl
    refine .inl (.inr ⟨D.toPy d, D.toPyA ds, Rep.dp c1 (h1.repH s), ?_, ?_, ?_, by rw [ea]; exact post_bl s p1⟩)
    · have z := Rep.dp (n := 60) (d := .lst ds) (by simpa [D.pl] using c2) (h2.repH s)
      simpa only [D.toPy] using z
    · unfold SeqAt.shaped
      rw [q1.1, Bool.true_and]
      exact decide_eq_true (by omega)
    · unfold SeqAt.shaped
      rw [show (PyData.list (D.toPyA ds)).canLay0 = PyData.canLayAll0 (D.toPyA ds) by simp only [PyData.canLay0], q2.1, Bool.true_and]
      exact decide_eq_true (by simp only [PyData.depth]; omega)
  | tup ds =>
    obtain ⟨a, vs, rfl, hs, _, r⟩ := h2.tup s
    dsimp only at p
    by_cases c : (d.flat && ds.all D.flat) = true
    · rw [if_pos c] at p
      rw [Bool.and_eq_true] at c
      have h := flat_of h1 c.1
      exact .inr (.inl ⟨a, vs, rfl, .inr hs, rep_flat h c.1, repA_flat r c.2, by rw [repA_eqF h c.1 r c.2]; exact post_bl s p⟩)
    · rw [if_neg c] at p; exact p.elim
  | dic ks =>
    obtain ⟨a, vs, rfl, hs, r⟩ := h2.dic s
    dsimp only at p
    cases hk : d.key with
    | none => rw [hk] at p; exact p.elim
    | some k =>
      rw [hk] at p
      rw [kV_of h1 hk]
      exact .inr (.inr ⟨a, _, rfl, DGet.k hs, by rw [repD_get k r]; exact post_bl s p⟩)
  | _ => exact p.elim
theorem xor_f (b : Bool) : (false != b) = b := by cases b <;> rfl
theorem xor_t (b : Bool) : (true != b) = !b := by cases b <;> rfl
end
theorem pop_in {K : PySem.W.Frag} {mg : MG} : POp K mg (rInA K false) inD := by
  have z : (fun d e => R.bind (inB d e) fun b => okB (false != b)) = inD := by
    funext d e; unfold inD; congr 1; funext b; rw [xor_f]
  rw [← z]; exact pop_inA false
theorem pop_nin {K : PySem.W.Frag} {mg : MG} : POp K mg (rInA K true) ninD := by
  have z : (fun d e => R.bind (inB d e) fun b => okB (true != b)) = ninD := by
    funext d e; unfold ninD; congr 1; funext b; rw [xor_t]
  rw [← z]; exact pop_inA true
section
variable {X : Cx}
theorem op_din (hu : X.A.units + 1 < cLine) : OpR X (compareOp .In) (fun x y H Q => ∃ a o, y = .ref a ∧ DGet H a x o ∧ Q (.bl o.isSome) H) := by
  intro pins s σ H x y v u Q I rx ry h
  obtain ⟨a, o, rfl, g, q⟩ := h
  cases ry
  exact d_in hu I g rx fun s' I' => ⟨.bl _, H, I', rfl, q⟩
theorem op_dnin (hu : X.A.units + 1 < cLine) : OpR X (compareOp .NotIn) (fun x y H Q => ∃ a o, y = .ref a ∧ DGet H a x o ∧ Q (.bl (!o.isSome)) H) := by
  intro pins s σ H x y v u Q I rx ry h
  obtain ⟨a, o, rfl, g, q⟩ := h
  cases ry
  exact d_notIn hu I g rx fun s' I' => ⟨.bl _, H, I', rfl, q⟩
theorem opR_imp {f : Value → Value → Sem Value} {r r' : R2} (h : OpR X f r) (i : ∀ x y H Q, r' x y H Q → r x y H Q) : OpR X f r' :=
  fun pins s σ H x y v u Q I rx ry q => h pins s σ H x y v u Q I rx ry (i _ _ _ _ q)
theorem op_inA (hu : X.A.units + 64 + 1 < cLine) : OpR X (compareOp .In) (rInA X.K false) := by
  refine opR_or (opR_or (opR_or (opR_imp op_in_sign ?_) (opR_imp op_in_str ?_)) (opR_imp (op_inD (by omega)) ?_)) (opR_or (opR_imp op_in_seq ?_) (opR_imp (op_din (by omega)) ?_))
  · rintro x y H Q ⟨c, z, h1, h2, q⟩; exact ⟨c, z, h1, h2, by rw [xor_f] at q; exact q⟩
  · rintro x y H Q ⟨c, z, h1, h2, q⟩; exact ⟨c, z, h1, h2, by rw [xor_f] at q; exact q⟩
  · rintro x y H Q ⟨c, z, h1, h2, h3, h4, q⟩; exact ⟨c, z, h1, h2, h3, h4, by rw [xor_f] at q; exact q⟩
  · rintro x y H Q ⟨c, z, h1, h2, h3, h4, q⟩; exact ⟨c, z, h1, h2, h3, h4, by rw [xor_f] at q; exact q⟩
  · rintro x y H Q ⟨c, z, h1, h2, q⟩; exact ⟨c, z, h1, h2, by rw [xor_f] at q; exact q⟩
theorem op_ninA (hu : X.A.units + 64 + 1 < cLine) : OpR X (compareOp .NotIn) (rInA X.K true) := by
  refine opR_or (opR_or (opR_or (opR_imp op_notIn_sign ?_) (opR_imp op_notin_str ?_)) (opR_imp (op_notInD (by omega)) ?_)) (opR_or (opR_imp op_notIn_seq ?_) (opR_imp (op_dnin (by omega)) ?_))
  · rintro x y H Q ⟨c, z, h1, h2, q⟩; exact ⟨c, z, h1, h2, by rw [xor_t] at q; exact q⟩
  · rintro x y H Q ⟨c, z, h1, h2, q⟩; exact ⟨c, z, h1, h2, by rw [xor_t] at q; exact q⟩
  · rintro x y H Q ⟨c, z, h1, h2, h3, h4, q⟩; exact ⟨c, z, h1, h2, h3, h4, by rw [xor_t] at q; exact q⟩
  · rintro x y H Q ⟨c, z, h1, h2, h3, h4, q⟩; exact ⟨c, z, h1, h2, h3, h4, by rw [xor_t] at q; exact q⟩
  · rintro x y H Q ⟨c, z, h1, h2, q⟩; exact ⟨c, z, h1, h2, by rw [xor_t] at q; exact q⟩
end
section
variable {X : Cx} {E : L2.St → XK} {k : Nat} {a b c e : Expr} {f g h : Ev → R Rs} {pos : Pos}
theorem room65 {A : Around} (hr : Room k A) : A.units + 64 + 1 < cLine := by have := hr.un; omega
theorem u_in (hr : Room k X.A) (ha : PUE X E a f) (hb : PUE X E b h) (hm : behindInMarks .In b = false := by first | exact nomark _ | rfl) : PUE X E (.Compare a [.In] [b] pos) (xBin inD f h) :=
  u_cmp (op_inA (room65 hr)) pop_in ha hb hm
theorem u_nin (hr : Room k X.A) (ha : PUE X E a f) (hb : PUE X E b h) (hm : behindInMarks .NotIn b = false := by first | exact nomark _ | rfl) : PUE X E (.Compare a [.NotIn] [b] pos) (xBin ninD f h) :=
  u_cmp (op_ninA (room65 hr)) pop_nin ha hb hm
theorem t_in (hr : Room k X.A) (ha : PUE X E a f) (hb : PUE X E b h) (hm : behindInMarks .In b = false := by first | exact nomark _ | rfl) : PUT X E (.Compare a [.In] [b] pos) (xB (xBin inD f h)) :=
  t_cmp (op_inA (room65 hr)) pop_in ha hb hm
theorem t_nin (hr : Room k X.A) (ha : PUE X E a f) (hb : PUE X E b h) (hm : behindInMarks .NotIn b = false := by first | exact nomark _ | rfl) : PUT X E (.Compare a [.NotIn] [b] pos) (xB (xBin ninD f h)) :=
  t_cmp (op_ninA (room65 hr)) pop_nin ha hb hm
theorem u_chain {op op' : CmpOp} {r r' : R2} {g1 g2 : D → D → R Rs} (ho : OpR X (compareOp op) r ∧ POp X.K X.mg r g1) (ho' : OpR X (compareOp op') r' ∧ POp X.K X.mg r' g2) (ha : PUE X E a f) (hb : PUE X E b g) (hc : PUE X E c h)
    (hm : lastMarks [op, op'] [b, c] = false := by with_unfolding_all rfl) : PUE X E (.Compare a [op, op'] [b, c] pos) (xChain g1 g2 f g h) := by
  obtain ⟨ta, a1, a2⟩ := ha
  obtain ⟨tb, b1, b2⟩ := hb
  obtain ⟨tc, c1, c2⟩ := hc
  exact ⟨_, pe_chain ho.1 ho'.1 a1 b1 c1 hm, Pu.chain ho.2 ho'.2 a2 b2 c2⟩
theorem o_lt : OpR X (compareOp .Lt) (rI0 fun i j => .bl (decide (i < j))) ∧ POp X.K X.mg (rI0 fun i j => .bl (decide (i < j))) ltI := ⟨op_lt, pop_lt⟩
theorem o_le : OpR X (compareOp .LtE) (rI0 fun i j => .bl (decide (i ≤ j))) ∧ POp X.K X.mg (rI0 fun i j => .bl (decide (i ≤ j))) leI := ⟨op_le, pop_le⟩
end
end PL

set_option Elab.async false
set_option linter.all false
set_option maxRecDepth 100000
set_option maxHeartbeats 4000000
/-! PURE LAYER, comprehensions. -/
namespace PL
open PySem PySem.Spec PyProof.Rows L2
abbrev E00 : L2.St → XK := fun _ => E0
theorem pass00 {X : Cx} : ∀ σ, PassesAt (L2.CX X.prog X.w) X σ (E00 σ) := fun σ pins H s e s' I h => passL pins σ H s e s' I h
/-! ### the weakest readings -/
section
variable (K : PySem.W.Frag) (mg : MG) (E : L2.St → XK)
def tOf (f : Ev → R Rs) : TE := fun σ H Q => ∃ G env, Same G H ∧ CorE K mg G H env σ ∧ Post K mg (E σ) G H Q (f env)
def tOfT (f : Ev → R Bool) : TT := fun σ H Q => ∃ G env, Same G H ∧ CorE K mg G H env σ ∧ PostT mg (E σ) G H Q (f env)
def gOf (put : D → Option (List (Nat × D))) : TG := fun v σ H Q => ∃ G d l, Same G H ∧ Rep K mg G v d ∧ put d = some l ∧ ∀ vs, RepT K mg G vs l → Q (setV σ vs) H
end
section
variable {X : Cx} {E : L2.St → XK} {e tg : Expr} {es : List Expr} {f : Ev → R Rs} {p : Ev → R Bool} {put : D → Option (List (Nat × D))}
theorem PUE.of (h : PUE X E e f) : PE X e (tOf X.K X.mg E f) := by
  obtain ⟨t, h1, h2⟩ := h
  exact ⟨fun pins s σ H Q I ⟨G, env, sm, c, q⟩ => h1.run pins s σ H Q I (h2 G H env σ Q sm c q)⟩
theorem PUG.of (h : PUG X tg put) : PG X tg (gOf X.K X.mg put) := by
  obtain ⟨t, h1, h2⟩ := h
  exact ⟨fun pins s σ H v u Q I r ⟨G, d, l, sm, rp, e, q⟩ => h1.run pins s σ H v u Q I r (h2 G H σ v d l Q sm rp e q)⟩
theorem Pu.ofT {K : PySem.W.Frag} {mg : MG} : Pu K mg E (tOf K mg E f) f := fun G H env σ Q s c p => ⟨G, env, s, c, p⟩
def PUTs (X : Cx) (E : L2.St → XK) (es : List Expr) (p : Ev → R Bool) : Prop := ∃ t, PTs X es t ∧ PuT X.K X.mg E t p
theorem PUTs.of (h : PUTs X E es p) : PTs X es (tOfT X.K X.mg E p) := by
  obtain ⟨t, h1, h2⟩ := h
  exact ⟨fun pins s σ H Q I ⟨G, env, sm, c, q⟩ => h1.run pins s σ H Q I (h2 G H env σ Q sm c q)⟩
def xYes : Ev → R Bool := fun _ => .ok true
theorem ts_nil : PUTs X E [] xYes := ⟨_, pts_nil, fun G H env σ Q s c p => p G H (Ext.refl s)⟩
theorem ts_one (h : PUT X E e p) : PUTs X E [e] p := by
  obtain ⟨t, h1, h2⟩ := h
  exact ⟨_, pts_one h1, h2⟩
end
/-! ### slots of a comprehension -/
def wipeE (env : Ev) : List Nat → Ev
  | [] => env
  | v :: vs => (wipeE env vs).set v .no
theorem wipe_cor {K : PySem.W.Frag} {mg : MG} {G H : Hp} {env : Ev} {σ : L2.St} (c : CorE K mg G H env σ) : ∀ vs : List Nat, CorE K mg G H (wipeE env vs) (wipe σ vs)
  | [] => c
  | v :: vs => by
    have ih := wipe_cor c vs
    refine ⟨by unfold wipeE wipe; simpa using ih.1, fun i s h => ?_⟩
    unfold wipeE at h
    unfold wipe
    by_cases hv : v = i
    · subst hv
      by_cases hlt : v < (wipeE env vs).length
      · rw [List.getElem?_set_self hlt] at h; cases h; trivial
      · rw [List.getElem?_eq_none (by simpa using hlt)] at h; cases h
    · rw [List.getElem?_set_ne hv] at h
      rw [List.getElem?_set_ne hv]
      exact ih.2 i s h
theorem CorE.fz {K : PySem.W.Frag} {mg : MG} {G H : Hp} {env : Ev} {σ : L2.St} {v : V} {d : D} (c : CorE K mg G H env σ) (i : Nat) (r : Rep K mg G v d) : CorE K mg G H (env.set i (.fz d)) (σ.set i (some v)) := by
  refine ⟨by simpa using c.1, fun j s h => ?_⟩
  have hl := c.1
  by_cases hj : i = j
  · subst hj
    by_cases hlt : i < env.length
    · rw [List.getElem?_set_self hlt] at h
      cases h
      exact ⟨v, List.getElem?_set_self (by rw [← hl]; exact hlt), r⟩
    · rw [List.getElem?_eq_none (by simpa using hlt)] at h; cases h
  · rw [List.getElem?_set_ne hj] at h
    rw [List.getElem?_set_ne hj]
    exact c.2 j s h
theorem CorE.setL {K : PySem.W.Frag} {mg : MG} {G H : Hp} : ∀ {vs : List (Nat × V)} {ds : List (Nat × D)} {env : Ev} {σ : L2.St}, CorE K mg G H env σ → RepT K mg G vs ds → CorE K mg G H (PL.setL env ds) (setV σ vs)
  | _, _, _, _, c, .nil => c
  | _, _, _, _, c, .cons (i := i) h r => CorE.setL (env := List.set _ i _) (σ := List.set _ i _) (c.fz i h) r
theorem wipe_get (σ : L2.St) : ∀ (vs : List Nat) (i : Nat), (wipe σ vs)[i]? = if i ∈ vs ∧ i < σ.length then some none else σ[i]?
  | [], i => by simp [wipe]
  | v :: vs, i => by
    have ih := wipe_get σ vs i
    unfold wipe
    by_cases hv : v = i
    · subst hv
      by_cases hlt : v < σ.length
      · rw [List.getElem?_set_self (by rw [wipe_length]; exact hlt), if_pos ⟨List.mem_cons_self, hlt⟩]
      · rw [List.getElem?_eq_none (by rw [List.length_set, wipe_length]; omega), if_neg (fun z => hlt z.2), List.getElem?_eq_none (by omega)]
    · rw [List.getElem?_set_ne hv, ih]
      have e : (i ∈ v :: vs ∧ i < σ.length) ↔ (i ∈ vs ∧ i < σ.length) := by
        rw [List.mem_cons]
        constructor
        · rintro ⟨z | z, h⟩
          · exact absurd z.symm hv
          · exact ⟨z, h⟩
        · rintro ⟨z, h⟩
          exact ⟨.inr z, h⟩
      by_cases c : i ∈ vs ∧ i < σ.length
      · rw [if_pos c, if_pos (e.mpr c)]
      · rw [if_neg c, if_neg fun z => c (e.mp z)]
theorem setV_len : ∀ (ws : List (Nat × V)) (σ : L2.St), (setV σ ws).length = σ.length
  | [], _ => rfl
  | (i, v) :: r, σ => by unfold setV; rw [setV_len r, List.length_set]
theorem setV_out : ∀ (ws : List (Nat × V)) (σ : L2.St) (i : Nat), (∀ p ∈ ws, p.1 ≠ i) → (setV σ ws)[i]? = σ[i]?
  | [], _, _, _ => rfl
  | (j, v) :: r, σ, i, h => by
    unfold setV
    rw [setV_out r _ i fun p hp => h p (List.mem_cons_of_mem _ hp), List.getElem?_set_ne (h (j, v) List.mem_cons_self)]
theorem wipe_setV {σ : L2.St} {vs : List Nat} {ws : List (Nat × V)} (h : ∀ p ∈ ws, p.1 ∈ vs) : wipe (setV (wipe σ vs) ws) vs = wipe σ vs := by
  apply List.ext_getElem?
  intro i
  rw [wipe_get, setV_len, wipe_length]
  by_cases c : i ∈ vs ∧ i < σ.length
  · rw [if_pos c, wipe_get, if_pos c]
  · rw [if_neg c]
    by_cases ci : i ∈ vs
    · have hlt : ¬ i < σ.length := fun z => c ⟨ci, z⟩
      rw [List.getElem?_eq_none (by rw [setV_len, wipe_length]; omega), List.getElem?_eq_none (by rw [wipe_length]; omega)]
    · exact setV_out ws _ i fun p hp e => ci (e ▸ h p hp)
def PutIn (vs : List Nat) (put : D → Option (List (Nat × D))) : Prop := ∀ d l, put d = some l → ∀ p ∈ l, p.1 ∈ vs
def PutIns (vs : List Nat) (put : List D → Option (List (Nat × D))) : Prop := ∀ d l, put d = some l → ∀ p ∈ l, p.1 ∈ vs
theorem q_name {vs : List Nat} {i : Nat} (h : i ∈ vs) : PutIn vs (gN i) := fun d l e p hp => by
  cases e
  rw [List.mem_singleton] at hp
  subst hp
  exact h
theorem qs_nil {vs : List Nat} : PutIns vs gNil' := fun d l e p hp => by
  cases d with
  | nil => cases e; cases hp
  | cons _ _ => cases e
theorem qs_cons {vs : List Nat} {a : D → Option (List (Nat × D))} {b : List D → Option (List (Nat × D))} (ha : PutIn vs a) (hb : PutIns vs b) : PutIns vs (gCons' a b) := fun d l e p hp => by
  cases d with
  | nil => cases e
  | cons d ds =>
    unfold gCons' at e
    dsimp only at e
    cases e1 : a d with
    | none => rw [e1] at e; cases e
    | some x =>
      cases e2 : b ds with
      | none => rw [e1, e2] at e; cases e
      | some y =>
        rw [e1, e2] at e
        cases e
        rcases List.mem_append.mp hp with z | z
        · exact ha d x e1 p z
        · exact hb ds y e2 p z
theorem q_tup {vs : List Nat} {n : Nat} {b : List D → Option (List (Nat × D))} (hb : PutIns vs b) : PutIn vs (gT n b) := fun d l e p hp => by
  unfold gT at e
  cases d with
  | tup ds =>
    dsimp only at e
    by_cases c : ds.length = n
    · rw [if_pos c] at e; exact hb ds l e p hp
    · rw [if_neg c] at e; cases e
  | _ => cases e
theorem RepT.keys {K : PySem.W.Frag} {mg : MG} {G : Hp} : ∀ {ws : List (Nat × V)} {l : List (Nat × D)}, RepT K mg G ws l → ∀ p ∈ ws, ∃ q ∈ l, q.1 = p.1
  | _, _, .nil, p, hp => by cases hp
  | _, _, .cons h r, p, hp => by
    rcases List.mem_cons.mp hp with z | z
    · subst z; exact ⟨_, List.mem_cons_self, rfl⟩
    · obtain ⟨q, h1, h2⟩ := RepT.keys r p z; exact ⟨q, List.mem_cons_of_mem _ h1, h2⟩
/-! ### the mirror -/
def lcL (put : D → Option (List (Nat × D))) (p : Ev → R Bool) (f : Ev → R Rs) : List D → Ev → R (List D)
  | [], _ => .ok []
  | d :: ds, env => match put d with
    | none => .stuck
    | some l => match p (setL env l) with
      | .ok b => if b = true then (match fzR (f (setL env l)) with
        | .ok x => R.bind (lcL put p f ds env) fun xs => .ok (x :: xs)
        | _ => .stuck) else lcL put p f ds env
      | _ => .stuck
noncomputable def xLc (put : D → Option (List (Nat × D))) (src : Ev → R (List D)) (p : Ev → R Bool) (f : Ev → R Rs) (vs : List Nat) : Ev → R Rs := fun env => R.bind (src env) fun ds => need (ds.length < 16000000) (R.bind (lcL put p f ds (wipeE env vs)) fun xs => .ok (.ow (.lst xs)))
theorem wipeE_len (env : Ev) : ∀ vs : List Nat, (wipeE env vs).length = env.length
  | [] => rfl
  | v :: vs => by unfold wipeE; rw [List.length_set, wipeE_len env vs]
section
variable {K : PySem.W.Frag} {mg : MG} {E : L2.St → XK}
theorem Pu.lc {wi : TI} {put : D → Option (List (Nat × D))} {src : Ev → R (List D)} {p : Ev → R Bool} {f : Ev → R Rs} {vs : List Nat} (hi : PuI K mg E wi src) (hp : PutIn vs put) : Pu K mg E (tLc wi (gOf K mg put) (tOfT K mg E00 p) (tOf K mg E00 f) vs) (xLc put src p f vs) := by
  intro G H env σ Q s c q
  refine hi G H env σ _ s c ?_
  unfold xLc at q
  cases e : src env with
  | ok ds =>
    rw [e] at q
    have q0 : Post K mg (E σ) G H Q (need (ds.length < 16000000) (R.bind (lcL put p f ds (wipeE env vs)) fun xs => .ok (.ow (.lst xs)))) := q
    obtain ⟨hz, q1⟩ := post_need q0
    intro G1 H1 J x wk L hL
    have q2 := Post.fwd x q1
    cases e1 : lcL put p f ds (wipeE env vs) with
    | ok F =>
      rw [e1] at q2
      let Inv : Nat → Hp → Prop := fun i Hc => ∃ Gc acc da xs, Ext G1 H1 Gc Hc ∧ Hc L = some (.lst acc) ∧ Gc L = none ∧ RepA K mg Gc acc da ∧ da.length ≤ i ∧ lcL put p f (ds.drop i) (wipeE env vs) = .ok xs ∧ da ++ xs = F
      refine ⟨fun i m Hc => m = ds.length - i ∧ i ≤ ds.length ∧ Inv i Hc, ⟨ds.length, by simp, Nat.zero_le _, G1, [], [], F, Ext.own x.sub hL, upd_same, x.sub.free hL, .nil, Nat.le_refl _, e1, rfl⟩, ?_⟩
      rintro i m Hc ⟨rfl, hi2, Gc, acc, da, xs, xc, hA, gL, ra, hd, e2, ef⟩
      have s12 : Same G1 Hc := fun a o z => xc.sub a o (xc.gg a o z)
      by_cases hlt : i < ds.length
      · refine .inr ⟨wk.go i Hc hlt s12, Inv (i + 1), fun H' h' => ⟨ds.length - (i + 1), by omega, rfl, hlt, h'⟩, fun xv H3 hy => ?_⟩
        have hd1 : ds[i]? = some ds[i] := by simp [hlt]
        obtain ⟨G3, x3, r3⟩ := wk.yld i Gc Hc xv H3 ds[i] xc.gg xc.sub hd1 hy
        rw [← List.getElem_cons_drop hlt] at e2
        unfold lcL at e2
        cases e3 : put ds[i] with
        | none => rw [e3] at e2; cases e2
        | some l =>
          rw [e3] at e2
          dsimp only at e2
          refine ⟨G3, ds[i], l, x3.sub, r3, e3, fun ws rt => ⟨wipe_setV fun pr hpr => ?_, ?_⟩⟩
          · obtain ⟨qq, h1, h2⟩ := rt.keys pr hpr
            rw [← h2]
            exact hp ds[i] l e3 qq h1
          have c3 : CorE K mg G3 H3 (setL (wipeE env vs) l) (setV (wipe σ vs) ws) := CorE.setL ((wipe_cor ((c.ext (x.trans xc)).ext x3)) vs) rt
          have keep3 : H3 L = some (.lst acc) := x3.hh _ _ hA
          have gL3 : G3 L = none := by rw [x3.old L (by rw [hA]; exact fun z => nomatch z)]; exact gL
          cases e4 : p (setL (wipeE env vs) l) with
          | ok b =>
            rw [e4] at e2
            dsimp only at e2
            refine ⟨G3, _, x3.sub, c3, ?_⟩
            rw [e4]
            intro G4 H4 x4
            have gL4 : G4 L = none := by rw [x4.old L (by rw [keep3]; exact fun z => nomatch z)]; exact gL3
            cases b with
            | true =>
              rw [if_pos rfl]
              rw [if_pos rfl] at e2
              cases e5 : fzR (f (setL (wipeE env vs) l)) with
              | ok y =>
                rw [e5] at e2
                dsimp only at e2
                refine Pu.ofT.fz x4.sub (c3.ext x4) ?_
                rw [e5]
                intro G5 H5 yv x5 r5
                have keep5 : H5 L = some (.lst acc) := x5.hh _ _ (x4.hh _ _ keep3)
                have gL5 : G5 L = none := by rw [x5.old L (by rw [x4.hh _ _ keep3]; exact fun z => nomatch z)]; exact gL4
                have el := ra.length
                cases e6 : lcL put p f (ds.drop (i + 1)) (wipeE env vs) with
                | ok ys =>
                  rw [e6] at e2
                  have ex : y :: ys = xs := by injection e2
                  have xx := ((xc.trans x3).trans x4).trans x5
                  refine ⟨acc, keep5, ?_, G5, acc ++ [yv], da ++ [y], ys, ⟨xx.gg, fun b o z => ?_, fun b o z => ?_, xx.old⟩, upd_same, gL5, (RepA.mono (fun a o z => x5.gg a o (x4.gg a o (x3.gg a o z))) ra).append (.cons r5 .nil), ?_, e6, ?_⟩
                  · have : (16000000 : Nat) ≤ sizeLine := by decide
                    omega
                  · rw [upd_ne (ne_of_none z hL)]; exact xx.hh b o z
                  · rw [upd_ne fun w => by rw [w, gL5] at z; cases z]; exact xx.sub b o z
                  · rw [List.length_append]; simp; omega
                  · rw [← ef, ← ex]; simp
                | ex z => rw [e6] at e2; cases e2
                | stuck => rw [e6] at e2; cases e2
              | ex z => rw [e5] at e2; cases e2
              | stuck => rw [e5] at e2; cases e2
            | false =>
              rw [if_neg Bool.false_ne_true]
              rw [if_neg Bool.false_ne_true] at e2
              exact ⟨G4, acc, da, xs, (xc.trans x3).trans x4, x4.hh _ _ keep3, gL4, RepA.mono (fun a o z => x4.gg a o (x3.gg a o z)) ra, by omega, e2, ef⟩
          | ex z => rw [e4] at e2; cases e2
          | stuck => rw [e4] at e2; cases e2
      · have ei : i = ds.length := by omega
        subst ei
        rw [List.drop_length] at e2
        have exs : xs = [] := by unfold lcL at e2; injection e2 with e2; exact e2.symm
        rw [exs, List.append_nil] at ef
        subst ef
        exact .inl ⟨wk.stop Hc s12, q2 Gc Hc _ xc ⟨L, rfl, hL, gL, acc, hA, ra⟩⟩
    | ex z => exact absurd (show False from by
        have : ∀ (ds : List D) (env : Ev), lcL put p f ds env ≠ .ex z := by
          intro ds
          induction ds with
          | nil => intro env h; cases h
          | cons d r ih =>
            intro env h
            unfold lcL at h
            cases a1 : put d with
            | none => rw [a1] at h; cases h
            | some l =>
              rw [a1] at h
              dsimp only at h
              cases a2 : p (setL env l) with
              | ok b =>
                rw [a2] at h
                dsimp only at h
                cases b with
                | true =>
                  rw [if_pos rfl] at h
                  cases a3 : fzR (f (setL env l)) with
                  | ok y =>
                    rw [a3] at h
                    dsimp only at h
                    cases a4 : lcL put p f r env with
                    | ok _ => rw [a4] at h; cases h
                    | ex w =>
                      rw [a4] at h
                      have : w = z := by injection h
                      subst this
                      exact ih env a4
                    | stuck => rw [a4] at h; cases h
                  | ex _ => rw [a3] at h; cases h
                  | stuck => rw [a3] at h; cases h
                | false => rw [if_neg Bool.false_ne_true] at h; exact ih env h
              | ex _ => rw [a2] at h; cases h
              | stuck => rw [a2] at h; cases h
        exact this _ _ e1) id
    | stuck => rw [e1] at q2; exact q2.elim
  | ex x => rw [e] at q; exact q
  | stuck => rw [e] at q; exact q.elim
end
section
variable {X : Cx} {E : L2.St → XK} {elt tg iter : Expr} {ifs : List Expr} {scope : Scope} {own : List (Str × Nat)} {pos spos p1 : Pos} {put : D → Option (List (Nat × D))} {src : Ev → R (List D)} {p : Ev → R Bool} {f : Ev → R Rs} {y : Str}
theorem u_lc (own : List (Str × Nat)) (nd : X.N.Nodup) (hi : PUI X E tg iter src) (ok : BlkOk X.N X.env.scope scope own) (hp : PutIn (own.map (·.2)) put)
    (hg : ∀ (s : Shared) (H : Hp) (C : Addr) (cl : List (Str × Addr)) (fp : List Addr), PUG (X.blk s H scope (compEnvC scope cl C X.env) fp) tg put) (ht : ∀ (s : Shared) (H : Hp) (C : Addr) (cl : List (Str × Addr)) (fp : List Addr), PUTs (X.blk s H scope (compEnvC scope cl C X.env) fp) E00 ifs p)
    (he : ∀ (s : Shared) (H : Hp) (C : Addr) (cl : List (Str × Addr)) (fp : List Addr), PUE (X.blk s H scope (compEnvC scope cl C X.env) fp) E00 elt f) (hc : X.calm = true := by rfl) (hs : ∀ x, foldedSetIterable iter X.env x = pure x := by intro _; rfl) :
    PUE X E (.ListComp elt [⟨tg, iter, ifs, 0⟩] scope pos) (xLc put src p f (own.map (·.2))) := by
  obtain ⟨ti, i1, i2⟩ := hi
  exact ⟨_, pe_lc hc nd i1 ok (fun s H C cl fp => (hg s H C cl fp).of) (fun s H C cl fp => (ht s H C cl fp).of) (fun s H C cl fp => (he s H C cl fp).of) hs, Pu.lc i2 hp⟩
/-- y = [..] -/
theorem s_setLc (i : Nat) (own : List (Str × Nat)) (nd : X.N.Nodup) (hi : PUI X E tg iter src) (ok : BlkOk X.N X.env.scope scope own) (hp : PutIn (own.map (·.2)) put)
    (hg : ∀ (s : Shared) (H : Hp) (C : Addr) (cl : List (Str × Addr)) (fp : List Addr), PUG (X.blk s H scope (compEnvC scope cl C X.env) fp) tg put) (ht : ∀ (s : Shared) (H : Hp) (C : Addr) (cl : List (Str × Addr)) (fp : List Addr), PUTs (X.blk s H scope (compEnvC scope cl C X.env) fp) E00 ifs p)
    (he : ∀ (s : Shared) (H : Hp) (C : Addr) (cl : List (Str × Addr)) (fp : List Addr), PUE (X.blk s H scope (compEnvC scope cl C X.env) fp) E00 elt f)
    (hsw : swapsWith (.ListComp elt [⟨tg, iter, ifs, 0⟩] scope pos) (some (.Name y p1)) spos.line X.env = pure true) (hy : X.N[i]? = some y := by rfl) (hyl : X.env.scope.names.lookup y = some .local := by rfl) (hc : X.calm = true := by rfl) (hs : ∀ x, foldedSetIterable iter X.env x = pure x := by intro _; rfl) :
    PUS X E (.Assign [.Name y p1] (.ListComp elt [⟨tg, iter, ifs, 0⟩] scope pos) spos) (sSet i (xLc put src p f (own.map (·.2)))) := by
  obtain ⟨ti, i1, i2⟩ := hi
  exact ⟨_, ps_setLc hc nd hy hyl hsw i1 ok (fun s H C cl fp => (hg s H C cl fp).of) (fun s H C cl fp => (ht s H C cl fp).of) (fun s H C cl fp => (he s H C cl fp).of) hs, Pus.set (Pu.lc i2 hp)⟩
end
end PL

set_option Elab.async false
set_option linter.all false
set_option maxRecDepth 100000
set_option maxHeartbeats 4000000
/-! PURE LAYER, methods, slices, stores. -/
namespace PL
open PySem PySem.AutoSeq1
theorem list_iaddW (l : Addr) (items : Array Value) (n : Nat) (b : Addr) (items2 : Array Value) (n2 : Nat) (dd2 : Option Addr) (sl2 : Array (Option Value)) (hs1 : items.size ≤ sizeLine) (hs0 : ¬(!items.isEmpty && Builtin.List.listTooLong (items.size + items2.size)) = true) (hs2 : items.size + items2.size ≤ sizeLine + 1) :
    Meets (Builtin.«list.__iadd__» ⟨[.ref l, .ref b], []⟩) (fun _ R s => s.heap.get? l = some { cls := .type "list", dict := none, data := .seq items n, slots := #[] } ∧ s.heap.get? b = some { cls := .type "list", dict := dd2, data := .seq items2 n2, slots := sl2 } ∧
      R (.ok (.ret (Value.ref l))) { s with heap := s.heap.update l (Obj.mapSeq fun x => x ++ items2), toks := s.toks }) := by
  refine .of_wp fun prog w A R s h => ?_
  obtain ⟨hp, g, d, tk, os⟩ := s
  obtain ⟨hl, hb, h⟩ := h
  have f1 := idx_int
  have f2 := sub_tuple_tuple
  have f3 := sub_list_list
  have f4 := sub_tuple_list
  have f5 := sub_list_tuple
  have hz' : (items ++ items2).size ≤ sizeLine + 1 := by rw [Array.size_append]; omega
  wp_walk using (wpAny_updateSeq hl rfl (hz := hs1) (_hz' := hz')), wpAny_loadPart' hl, wpAny_loadPart' hb
  exact ⟨_, rfl, h⟩
end PL
namespace PL
open PySem PySem.Spec PyProof.Rows L2
section
variable {K : PySem.W.Frag} {mg : MG} {E : L2.St → XK} {E1 : XK} {G0 H0 G H G' H' : Hp} {v w : V} {d e : D} {env : Ev} {σ : L2.St}
/-! ### an own thing is changed -/
theorem CorS.mut {a : Addr} {o : HO} {i : Nat} {d' : D} (c : CorS K mg G0 H0 G H env σ) (hi : env[i]? = some (.ow d)) (hs : σ[i]? = some (some (.ref a))) (n : OwnAt K mg G (upd H a o) a d') :
    CorS K mg G0 H0 G (upd H a o) (env.set i (.ow d')) σ := by
  have hlt := (List.getElem?_eq_some_iff.mp hi).1
  obtain ⟨b, z1, gA, oA⟩ := c.sl.2 i _ hi
  rw [hs] at z1
  cases z1
  have new := c.new i d a hi hs
  have mo : ∀ b u, H b = some u → b ≠ a → upd H a o b = some u := fun b u z hb => by rw [upd_ne hb]; exact z
  refine ⟨⟨c.ext.gg, fun b u z => mo b u (c.ext.hh b u z) (fun w => by rw [w, new] at z; cases z), fun b u z => mo b u (c.ext.sub b u z) (fun w => by rw [w, gA] at z; cases z), c.ext.old⟩, ⟨by simpa using c.sl.1, fun j s h => ?_⟩, by simpa using c.len, fun j e b h h2 => ?_, fun j k e1 e2 b h1 h2 h3 h4 => ?_⟩
  · by_cases hj : i = j
    · subst hj
      rw [List.getElem?_set_self hlt] at h
      cases h
      exact ⟨a, hs, gA, n⟩
    · rw [List.getElem?_set_ne hj] at h
      have q := c.sl.2 j s h
      cases s with
      | no => trivial
      | fz d2 => exact q
      | ow d2 =>
        obtain ⟨b, z1, z2, z3⟩ := q
        have nb : b ≠ a := fun z => hj (c.apart i j d d2 a hi h hs (by rw [z] at z1; exact z1))
        refine ⟨b, z1, z2, ?_⟩
        cases d2 with
        | lst ds => obtain ⟨vs, q1, q2⟩ := z3; exact ⟨vs, by rw [upd_ne nb]; exact q1, q2⟩
        | dic ds => obtain ⟨vs, q1, q2⟩ := z3; exact ⟨vs, by rw [upd_ne nb]; exact q1, q2⟩
        | _ => exact z3.elim
  · by_cases hj : i = j
    · subst hj
      exact c.new i d b hi h2
    · rw [List.getElem?_set_ne hj] at h
      exact c.new j e b h h2
  · by_cases hj : i = j
    · subst hj
      by_cases hk : i = k
      · exact hk
      · rw [List.getElem?_set_ne hk] at h2
        exact c.apart i k d e2 b hi h2 h3 h4
    · rw [List.getElem?_set_ne hj] at h1
      by_cases hk : i = k
      · subst hk
        exact c.apart j i e1 d b h1 hi h3 h4
      · rw [List.getElem?_set_ne hk] at h2
        exact c.apart j k e1 e2 b h1 h2 h3 h4
/-- what an own slot holds -/
theorem CorS.own (c : CorS K mg G0 H0 G H env σ) {i : Nat} (hi : env[i]? = some (.ow d)) : ∃ a, σ[i]? = some (some (.ref a)) ∧ G a = none ∧ OwnAt K mg G H a d ∧ H0 a = none := by
  obtain ⟨a, z1, z2, z3⟩ := c.sl.2 i _ hi
  exact ⟨a, z1, z2, z3, c.new i d a hi z1⟩
def zOf (env : Ev) (r : R D) (k : D → Out) : Out := match r with
  | .ok d => k d
  | .ex x => .ex x env
  | .stuck => .stuck
theorem Pu.zthn {t : TE} {f : Ev → R Rs} (ha : Pu K mg E t f) {k : D → Out} {D' : Ends} {Q' : VK} (c : CorS K mg G0 H0 G H env σ) (p : PostS K mg E G0 H0 G D' (zOf env (fzR (f env)) k))
    (h : ∀ d G1 H1 v, fzR (f env) = .ok d → Ext G H G1 H1 → Rep K mg G1 v d → PostS K mg E G0 H0 G D' (k d) → Q' v H1) : t σ H Q' := by
  refine ha.fz c.ext.sub c.sl ?_
  cases e : fzR (f env) with
  | ok d => rw [e] at p; exact fun G1 H1 v x r => h d G1 H1 v e x r p
  | ex x => rw [e] at p; exact c.exx (Q := fun _ _ => True) p
  | stuck => rw [e] at p; exact p.elim
noncomputable def needO (c : Prop) (o : Out) : Out := open Classical in if c then o else .stuck
theorem needO_pos {c : Prop} {o : Out} (h : c) : needO c o = o := if_pos h
theorem postS_need {D' : Ends} {c : Prop} {o : Out} (p : PostS K mg E G0 H0 G D' (needO c o)) : c ∧ PostS K mg E G0 H0 G D' o := by
  by_cases h : c
  · rw [needO_pos h] at p; exact ⟨h, p⟩
  · unfold needO at p; rw [if_neg h] at p; exact p.elim
/-- x.append(e), x one's own -/
noncomputable def sApp (i : Nat) (f : Ev → R Rs) : Ev → Out := fun env => match env[i]? with
  | some (.ow (.lst ds)) => zOf env (fzR (f env)) fun d => needO (ds.length < 16000000) (.nx (env.set i (.ow (.lst (ds ++ [d])))))
  | _ => .stuck
theorem Pus.app {i : Nat} {t : TE} {f : Ev → R Rs} (ha : Pu K mg E t f) : Pus K mg E (tDrop (tBM K "list" rAppend (tVar i) (tCons t tNil))) (sApp i f) := by
  intro G0 H0 G H env σ D' c p
  unfold sApp at p
  split at p
  · rename_i ds hi
    obtain ⟨a, hs, gA, ⟨vs, hA, rA⟩, nw⟩ := c.own hi
    refine ⟨.ref a, hs, .inl ⟨rfl, vs, SqL.of hA⟩, ?_⟩
    refine ha.zthn c p fun d G1 H1 v e x r p1 => ?_
    obtain ⟨hz, p2⟩ := postS_need p1
    have hA1 : H1 a = some (.lst vs) := x.hh _ _ hA
    have c1 := c.ext' x
    have hz2 : vs.length < sizeLine := by rw [rA.length]; exact Nat.lt_of_lt_of_le hz (by decide)
    exact ⟨a, vs, v, rfl, rfl, hA1, hz2, p2 G1 _ σ x.gg (c1.mut hi hs ⟨_, upd_same, (RepA.mono x.gg rA).append (.cons r .nil)⟩)⟩
  · exact p.elim
/-! ### a text's join -/
noncomputable def joinD (d e : D) : R Rs := match d, e with
  | .str a, .lst ds => match strsOf ds with
    | some ys => need ((ys.map (·.length)).sum + ys.length * a.length ≤ 16777216) (okS (Txt.join a ys))
    | none => .stuck
  | .str a, .tup ds => match strsOf ds with
    | some ys => need ((ys.map (·.length)).sum + ys.length * a.length ≤ 16777216) (okS (Txt.join a ys))
    | none => .stuck
  | _, _ => .stuck
where strsOf : List D → Option (List Str)
  | [] => some []
  | .str s :: r => (strsOf r).map (s :: ·)
  | _ :: _ => none
theorem strsOf_ok : ∀ {ds : List D} {ys : List Str} {vs : List V}, joinD.strsOf ds = some ys → RepA K mg G vs ds → vs = ys.map V.str
  | [], ys, vs, h, r => by
    unfold joinD.strsOf at h
    cases h; cases r; rfl
  | d :: ds, ys, vs, h, r => by
    cases d with
    | str s =>
      unfold joinD.strsOf at h
      cases e : joinD.strsOf ds with
      | none => rw [e] at h; cases h
      | some zs =>
        rw [e] at h
        cases h
        cases r with
        | cons r1 r2 =>
          cases r1
          rw [strsOf_ok e r2]
          rfl
    | _ => unfold joinD.strsOf at h; cases h
noncomputable def xJoin (f h : Ev → R Rs) : Ev → R Rs := fun env => R.bind (f env) fun r1 => match r1.d with
  | .str a => R.bind (h env) fun r2 => joinD (.str a) r2.d
  | _ => .stuck
theorem Pu.join {ta tb : TE} {f h : Ev → R Rs} (ha : Pu K mg E ta f) (hb : Pu K mg E tb h) :
    Pu K mg E (tM1 (fun x xs H Q => ∃ a p, ∃ ys : List Str, x = .str a ∧ xs = [.ref p] ∧ (SqL K H p (ys.map V.str) ∨ SqT K H p (ys.map V.str)) ∧ (ys.map (·.length)).sum + ys.length * a.length ≤ 16777216 ∧ Q (.str (Txt.join a ys)) H) ta tb) (xJoin f h) := by
  intro G H env σ Q s c p
  refine ha.thn s c p fun r1 G1 H1 v e1 x1 rr1 p1 => ?_
  cases hd : r1.d with
  | str a =>
    have q := rr1.rd
    rw [hd] at q
    cases q.str
    refine ⟨⟨a, rfl⟩, ?_⟩
    rw [hd] at p1
    refine hb.thn x1.sub (c.ext x1) p1 fun r2 G2 H2 w e2 x2 rr2 p2 => ?_
    unfold joinD at p2
    split at p2
    · rename_i a' ds he1 he2
      cases he1
      split at p2
      · rename_i ys hy
        obtain ⟨hz, p3⟩ := post_need p2
        have q2 := rr2.rd
        rw [he2] at q2
        obtain ⟨b, vs, rfl, hs, r⟩ := q2.lst x2.sub
        rw [strsOf_ok hy r] at hs
        exact ⟨a, b, ys, rfl, rfl, .inl hs, hz, post_str x2.sub p3⟩
      · exact p2.elim
    · rename_i a' ds he1 he2
      cases he1
      split at p2
      · rename_i ys hy
        obtain ⟨hz, p3⟩ := post_need p2
        have q2 := rr2.rd
        rw [he2] at q2
        obtain ⟨b, vs, rfl, hs, _, r⟩ := q2.tup x2.sub
        rw [strsOf_ok hy r] at hs
        exact ⟨a, b, ys, rfl, rfl, .inr hs, hz, post_str x2.sub p3⟩
      · exact p2.elim
    · exact p2.elim
  | _ => rw [hd] at p1; exact p1.elim
/-! ### slices -/
def PostO (mg : MG) (E : XK) (G H : Hp) (Q : Option Int → Hp → Prop) : R (Option Int) → Prop
  | .ok b => ∀ G' H', Ext G H G' H' → Q b H'
  | .ex x => x.fs = none ∧ ∀ u G' H', mg x.cls = some u → Ext G H G' H' → E u none H'
  | .stuck => False
def PuO (K : PySem.W.Frag) (mg : MG) (E : L2.St → XK) (t : TO) (f : Ev → R (Option Int)) : Prop := ∀ (G H : Hp) (env : Ev) (σ : L2.St) (Q : Option Int → Hp → Prop), Same G H → CorE K mg G H env σ → PostO mg (E σ) G H Q (f env) → t σ H Q
def oNo : Ev → R (Option Int) := fun _ => .ok none
def asI : D → R (Option Int)
  | .int i => .ok (some i)
  | _ => .stuck
def oSome (f : Ev → R Rs) : Ev → R (Option Int) := fun env => R.bind (f env) fun r => asI r.d
theorem PuO.no : PuO K mg E tNoPart oNo := fun G H env σ Q s c p => p G H (Ext.refl s)
theorem PuO.some_ {t : TE} {f : Ev → R Rs} (h : Pu K mg E t f) : PuO K mg E (tPart t) (oSome f) := by
  intro G H env σ Q s c p
  refine h G H env σ _ s c ?_
  unfold oSome at p
  cases e : f env with
  | ok r =>
    rw [e] at p
    have p' : PostO mg (E σ) G H Q (asI r.d) := p
    intro G1 H1 v x rr
    have q := rr.rd
    cases hd : r.d with
    | int i =>
      rw [hd] at q p'
      exact ⟨i, q.int, p' G1 H1 x⟩
    | _ => rw [hd] at p'; exact p'.elim
  | ex x => rw [e] at p; exact p
  | stuck => rw [e] at p; exact p.elim
def cutD (xs : List D) (lo hi : Option Int) : List D := (xs.drop (HT.sIx xs.length 0 lo)).take (HT.sIx xs.length xs.length hi - HT.sIx xs.length 0 lo)
theorem cut_rep {vs : List V} {ds : List D} (lo hi : Option Int) (r : RepA K mg G vs ds) : RepA K mg G (cutV vs lo hi) (cutD ds lo hi) := by
  unfold cutV cutD
  rw [r.length]
  exact (r.drop _).take _
noncomputable def slD (d : D) (lo hi : Option Int) : R Rs := match d with
  | .str z => need (z.length ≤ sizeLine) (okS (cutS z lo hi))
  | .lst ds => .ok (.ow (.lst (cutD ds lo hi)))
  | .tup ds => .ok (.fz (.tup (cutD ds lo hi)))
  | _ => .stuck
def rSl3 (K : PySem.W.Frag) : V → Option Int → Option Int → Hp → VK → Prop := fun x lo hi H Q => ((∃ z, x = .str z ∧ z.length ≤ sizeLine ∧ Q (.str (cutS z lo hi)) H) ∨ rSlL K x lo hi H Q) ∨ rSlA K x lo hi H Q
theorem sIx_le2 (n d : Nat) (hd : d ≤ n) (o : Option Int) : HT.sIx n d o ≤ n := HT.sIx_le _ _ hd _
theorem psl (s : Same G H) {lo hi : Option Int} {Q : VK} (h : Rd1 K mg G H v d) (p : Post K mg E1 G H Q (slD d lo hi)) : rSl3 K v lo hi H Q := by
  unfold slD at p
  cases d with
  | str z =>
    cases h.str
    obtain ⟨c, p⟩ := post_need p
    exact .inl (.inl ⟨z, rfl, c, post_str s p⟩)
  | lst ds =>
    obtain ⟨a, vs, rfl, hs, r⟩ := h.lst s
    exact .inl (.inr ⟨a, vs, rfl, hs, fun q hq => p _ _ _ (Ext.own s hq) ⟨q, rfl, hq, s.free hq, _, upd_same, cut_rep lo hi r⟩⟩)
  | tup ds =>
    obtain ⟨a, vs, rfl, hs, hg, r⟩ := h.tup s
    refine .inr ⟨a, vs, rfl, hs, fun hw => ?_, fun _ q hq => ?_⟩
    · refine p G H _ (Ext.refl s) (.tup hg ?_)
      have e : cutD ds lo hi = ds := by
        unfold cutD
        rw [← r.length, hw.1, hw.2, r.length]
        simp
      rw [e]
      exact r
    · have xn := Ext.new (o := HO.tup (cutV vs lo hi)) s hq
      exact p _ _ _ xn (.tup (SqT.of upd_same) (RepA.mono xn.gg (cut_rep lo hi r)))
  | _ => exact p.elim
noncomputable def xSl (f : Ev → R Rs) (lo hi : Ev → R (Option Int)) : Ev → R Rs := fun env => R.bind (f env) fun r => R.bind (lo env) fun l => R.bind (hi env) fun h => slD r.d l h
theorem PuO.thn {t : TO} {f : Ev → R (Option Int)} (ha : PuO K mg E t f) {k : Option Int → R Rs} {Q : VK} {Q' : Option Int → Hp → Prop} (s : Same G H) (c : CorE K mg G H env σ) (p : Post K mg (E σ) G H Q (R.bind (f env) k))
    (h : ∀ o G1 H1, f env = .ok o → Ext G H G1 H1 → Post K mg (E σ) G1 H1 Q (k o) → Q' o H1) : t σ H Q' := by
  refine ha G H env σ Q' s c ?_
  cases e : f env with
  | ok r =>
    rw [e] at p
    exact fun G1 H1 x => h r G1 H1 e x (Post.fwd x p)
  | ex x => rw [e] at p; exact p
  | stuck => rw [e] at p; exact p.elim
theorem Pu.sl {te : TE} {tl th : TO} {f : Ev → R Rs} {lo hi : Ev → R (Option Int)} (he : Pu K mg E te f) (hl : PuO K mg E tl lo) (hh : PuO K mg E th hi) : Pu K mg E (tSl (rSl3 K) te tl th) (xSl f lo hi) := by
  intro G H env σ Q s c p
  refine he.thn s c p fun r G1 H1 v e1 x1 rr p1 => ?_
  refine hl.thn x1.sub (c.ext x1) p1 fun l G2 H2 e2 x2 p2 => ?_
  refine hh.thn x2.sub (c.ext (x1.trans x2)) p2 fun h G3 H3 e3 x3 p3 => ?_
  exact psl x3.sub ((rr.rd.ext x2).ext x3) p3
/-! ### all, any -/
def boolsOf : List D → Option (List Bool)
  | [] => some []
  | .bl b :: r => (boolsOf r).map (b :: ·)
  | _ :: _ => none
theorem boolsOf_ok : ∀ {ds : List D} {ys : List Bool} {vs : List V}, boolsOf ds = some ys → RepA K mg G vs ds → vs = ys.map V.bl
  | [], ys, vs, h, r => by
    unfold boolsOf at h
    cases h; cases r; rfl
  | d :: ds, ys, vs, h, r => by
    cases d with
    | bl s =>
      unfold boolsOf at h
      cases e : boolsOf ds with
      | none => rw [e] at h; cases h
      | some zs =>
        rw [e] at h
        cases h
        cases r with
        | cons r1 r2 =>
          cases r1
          rw [boolsOf_ok e r2]
          rfl
    | _ => unfold boolsOf at h; cases h
def allD : List D → R Rs := fun xs => match xs with
  | [.lst ds] => match boolsOf ds with
    | some bs => okB (bs.all id)
    | none => .stuck
  | _ => .stuck
def anyD : List D → R Rs := fun xs => match xs with
  | [.lst ds] => match boolsOf ds with
    | some bs => okB (bs.any id)
    | none => .stuck
  | _ => .stuck
theorem pcall_all : PCall K mg (rAll K) allD := by
  intro E G H vs ds Q s r p
  unfold allD at p
  split at p
  · rename_i l
    obtain ⟨v, rfl, h⟩ := r.one
    obtain ⟨a, ws, rfl, hs, rr⟩ := h.lst s
    split at p
    · rename_i bs hb
      rw [boolsOf_ok hb rr] at hs
      exact ⟨a, bs, rfl, hs, post_bl s p⟩
    · exact p.elim
  · exact p.elim
theorem pcall_any : PCall K mg (rAny K) anyD := by
  intro E G H vs ds Q s r p
  unfold anyD at p
  split at p
  · rename_i l
    obtain ⟨v, rfl, h⟩ := r.one
    obtain ⟨a, ws, rfl, hs, rr⟩ := h.lst s
    split at p
    · rename_i bs hb
      rw [boolsOf_ok hb rr] at hs
      exact ⟨a, bs, rfl, hs, post_bl s p⟩
    · exact p.elim
  · exact p.elim
/-! ### {} -/
theorem Pu.dnew : Pu K mg E tDNewK (fun _ => .ok (.ow (.dic []))) := fun G H env σ Q s c p q hq => p _ _ _ (Ext.own s hq) ⟨q, rfl, hq, s.free hq, [], upd_same, .nil⟩
/-! ### a, b = x, y -/
noncomputable def sPar (i j : Nat) (f : Ev → R (List D)) : Ev → Out := fun env => match f env with
  | .ok [d, e] => .nx ((env.set i (.fz d)).set j (.fz e))
  | .ex x => .ex x env
  | _ => .stuck
theorem Pus.par {i j : Nat} {t : TA} {f : Ev → R (List D)} (ha : PuA K mg E t f) : Pus K mg E (tPar i j t) (sPar i j f) := by
  intro G0 H0 G H env σ D' c p
  unfold sPar at p
  refine ha G H env σ _ c.ext.sub c.sl ?_
  cases e : f env with
  | ok ds =>
    rw [e] at p
    intro G1 H1 vs x r
    cases r with
    | nil => exact p.elim
    | cons r1 r =>
      cases r with
      | nil => exact p.elim
      | cons r2 r =>
        cases r with
        | nil => exact ⟨_, _, rfl, p G1 H1 _ x.gg (((c.ext' x).fz i r1).fz j r2)⟩
        | cons _ _ => exact p.elim
  | ex x => rw [e] at p; exact c.exx (Q := fun _ _ => True) p
  | stuck => rw [e] at p; exact p.elim
/-! ### x += e -/
noncomputable def sAug (i : Nat) (f : Ev → R Rs) : Ev → Out := fun env => match env[i]? with
  | some (.ow (.lst ds)) => zOf env (fzR (f env)) fun d => match d with
    | .lst es => needO (ds.length + es.length ≤ 16000000) (.nx (env.set i (.ow (.lst (ds ++ es)))))
    | _ => .stuck
  | some (.fz (.int a)) => zOf env (fzR (f env)) fun d => match d with
    | .int b => .nx (env.set i (.fz (.int (a + b))))
    | _ => .stuck
  | some (.fz (.str a)) => zOf env (fzR (f env)) fun d => match d with
    | .str b => needO (a.length + b.length ≤ sizeLine) (.nx (env.set i (.fz (.str (a ++ b)))))
    | _ => .stuck
  | _ => .stuck
def rExtL (K : PySem.W.Frag) : R2 := fun x y H Q => ∃ l b xs zs, x = .ref l ∧ y = .ref b ∧ H l = some (.lst xs) ∧ SqL K H b zs ∧ xs.length + zs.length ≤ sizeLine ∧ Q (.ref l) (upd H l (.lst (xs ++ zs)))
def rAugA (K : PySem.W.Frag) : R2 := fun x y H Q => ((∃ i j, x = .int i ∧ y = .int j ∧ Q (.int (i + j)) H) ∨ (∃ i j, x = .str i ∧ y = .str j ∧ i.length + j.length ≤ sizeLine ∧ Q (.str (i ++ j)) H)) ∨ rExtL K x y H Q
theorem iop_extL {X : Cx} : OpR X (inplaceOp .Add) (rExtL X.K) := by
  intro pins s σ H x y v u Q I rx ry h
  obtain ⟨l, b, xs, zs, rfl, rfl, hH, hB, hz, q⟩ := h
  cases rx
  cases ry
  obtain ⟨z, its, n, r, hl, e⟩ := I.lstM hH
  obtain ⟨its2, r2, ⟨⟨cls2, dd2, data2, sl2⟩, n2, ho2, hc2, hdd2, hd2⟩, z2⟩ := I.list hB
  simp only at hc2 hd2 hdd2
  subst hc2 hd2
  have e2 := r2.length
  have hsz : its.toArray.size + its2.toArray.size ≤ sizeLine := by rw [List.size_toArray, List.size_toArray]; omega
  have hlong : ¬ (!its.toArray.isEmpty && Builtin.List.listTooLong (its.toArray.size + its2.toArray.size)) = true := by
    rw [notLongL hsz, Bool.and_false]
    exact Bool.false_ne_true
  refine iadd_road ⟨_, e, rfl⟩ ⟨_, ho2, rfl⟩ (call_meets PySem.F.slot_list_iadd ⟨_, e, rfl⟩ PySem.F.entry_list_iadd (PySem.F.args_list_iadd_2 _ _)
    (list_iaddW l its.toArray n b its2.toArray n2 dd2 sl2 (by rw [List.size_toArray]; omega) hlong (by omega)) ⟨e, ho2, ?_⟩)
  refine ⟨.ref l, _, I.lset (its' := its ++ its2) (t' := s.toks) hH e (by simp) (r.append r2) ?_, rfl, q⟩
  rw [List.length_append]
  omega
theorem set_same {α : Type} {l : List α} {i : Nat} {x : α} (h : l[i]? = some x) : l.set i x = l := by
  apply List.ext_getElem?
  intro j
  by_cases hj : i = j
  · subst hj
    rw [List.getElem?_set_self (List.getElem?_eq_some_iff.mp h).1, h]
  · rw [List.getElem?_set_ne hj]
theorem Pus.aug {i : Nat} {t : TE} {f : Ev → R Rs} (ha : Pu K mg E t f) : Pus K mg E (tAug i t (rAugA K)) (sAug i f) := by
  intro G0 H0 G H env σ D' c p
  unfold sAug at p
  split at p
  · rename_i ds hi
    obtain ⟨a, hs, gA, ⟨vs, hA, rA⟩, nw⟩ := c.own hi
    refine ⟨.ref a, hs, ?_⟩
    refine ha.zthn c p fun d G1 H1 v e x r p1 => ?_
    cases d with
    | lst es =>
      obtain ⟨hz, p2⟩ := postS_need p1
      have hA1 : H1 a = some (.lst vs) := x.hh _ _ hA
      have gA1 : G1 a = none := by rw [x.old a (by rw [hA]; exact fun z => nomatch z)]; exact gA
      have c1 := c.ext' x
      cases r with
      | lst hq rr =>
        rename_i b ws
        refine .inr ⟨a, b, vs, ws, rfl, rfl, hA1, x.sub.seq hq, by rw [rA.length, rr.length]; exact Nat.le_trans hz (by decide), ?_⟩
        show D'.nx (List.set σ i (some (.ref a))) _
        rw [set_same hs]
        exact p2 G1 _ σ x.gg (c1.mut hi hs ⟨_, upd_same, (RepA.mono x.gg rA).append rr⟩)
    | _ => exact p1.elim
  · rename_i a hi
    obtain ⟨v, hs, hv⟩ := c.sl.2 i _ hi
    cases hv
    refine ⟨_, hs, ?_⟩
    refine ha.zthn c p fun d G1 H1 v e x r p1 => ?_
    cases d with
    | int b => cases r; exact .inl (.inl ⟨_, _, rfl, rfl, p1 G1 H1 _ x.gg ((c.ext' x).fz i (.int _))⟩)
    | _ => exact p1.elim
  · rename_i a hi
    obtain ⟨v, hs, hv⟩ := c.sl.2 i _ hi
    cases hv
    refine ⟨_, hs, ?_⟩
    refine ha.zthn c p fun d G1 H1 v e x r p1 => ?_
    cases d with
    | str b =>
      cases r
      obtain ⟨hz, p2⟩ := postS_need p1
      exact .inl (.inr ⟨_, _, rfl, rfl, hz, p2 G1 H1 _ x.gg ((c.ext' x).fz i (.str _))⟩)
    | _ => exact p1.elim
  · exact p.elim
end
section
variable {X : Cx} {E : L2.St → XK} {k : Nat} {a b c e o : Expr} {es : List Expr} {f g h : Ev → R Rs} {fa : Ev → R (List D)} {pos apos p1 p2 p3 p4 p5 : Pos} {x y : Str} {lo hi : Option Expr} {l u : Ev → R (Option Int)} {op : Operator}
def PUO (X : Cx) (E : L2.St → XK) (o : Option Expr) (f : Ev → R (Option Int)) : Prop := ∃ t, PO X o t ∧ PuO X.K X.mg E t f
theorem o_no : PUO X E none oNo := ⟨_, po_none, PuO.no⟩
theorem o_some (h : PUE X E e f) : PUO X E (some e) (oSome f) := by
  obtain ⟨t, h1, h2⟩ := h
  exact ⟨_, po_some h1, PuO.some_ h2⟩
theorem u_sl (he : PUE X E e f) (hl : PUO X E lo l) (hh : PUO X E hi u) : PUE X E (.Subscript e (.Slice lo hi none p2) pos) (xSl f l u) := by
  obtain ⟨t, h1, h2⟩ := he
  obtain ⟨t2, l1, l2⟩ := hl
  obtain ⟨t3, u1, u2⟩ := hh
  exact ⟨_, pe_slice (SlR.or (SlR.or sl_str sl_list) sl_tupA) h1 l1 u1, Pu.sl h2 l2 u2⟩
theorem u_join (ho : PUE X E o f) (he : PUE X E e g) (hs : starEach [e] X.env = [(false, eval e X.env)] := by rfl) (hbase : attributeBase o "join" X.env (eval o X.env) = eval o X.env := by rfl) (hline : (apos.endLine == pos.line) = true := by rfl) :
    PUE X E (.Call (.Attribute o "join" apos) [e] [] pos) (xJoin f g) := by
  obtain ⟨t, h1, h2⟩ := ho
  obtain ⟨t2, l1, l2⟩ := he
  exact ⟨_, pe_join h1 l1 hs hbase hline, Pu.join h2 l2⟩
theorem u_all (hm : X.mg "all" = none) (ha : PUAr X E (e :: es) fa) (hc : X.calm = true := by rfl) (hg : Gl X "all" := by rfl) (he : starEach (e :: es) X.env = (false, eval e X.env) :: starEach es X.env := by rfl) (hpl : (backTo pos (starEach es X.env)).any (·.1) = false := by rfl) :
    PUE X E (.Call (.Name "all" p1) (e :: es) [] pos) (xBlt allD fa) := u_blt (cr_all hc) pcall_all hm (by decide +kernel) ha hg (by decide) (by decide) he hpl
theorem u_any (hm : X.mg "any" = none) (ha : PUAr X E (e :: es) fa) (hc : X.calm = true := by rfl) (hg : Gl X "any" := by rfl) (he : starEach (e :: es) X.env = (false, eval e X.env) :: starEach es X.env := by rfl) (hpl : (backTo pos (starEach es X.env)).any (·.1) = false := by rfl) :
    PUE X E (.Call (.Name "any" p1) (e :: es) [] pos) (xBlt anyD fa) := u_blt (cr_any hc) pcall_any hm (by decide +kernel) ha hg (by decide) (by decide) he hpl
def xDnew : Ev → R Rs := fun _ => .ok (.ow (.dic []))
theorem u_dnew : PUE X E (.Dict [] [] pos) xDnew := ⟨_, pe_dnewK, Pu.dnew⟩
theorem s_app (i : Nat) (ha : PUE X E e f) (hN : X.N[i]? = some x := by rfl) (hv : Vis X.env.scope x := by first | exact Or.inl rfl | exact Or.inr (Or.inl rfl) | exact Or.inr (Or.inr rfl)) (hd : (x == ("__debug__" : Str)) = false := by decide)
    (hcd : (x == ("__classdict__" : Str)) = false := by decide) (hbase : attributeBase (.Name x p1) "append" X.env (eval (.Name x p1) X.env) = eval (.Name x p1) X.env := by rfl)
    (hfew : ((backTo pos (starEach [e] X.env)).all (fun x => !x.1) && (backToKw pos (keywordEach [] X.env)).all (fun x => x.1.isSome)
      && decide (([e] : List Expr).length + ([] : List Keyword).length + (if ([] : List Keyword).isEmpty then 0 else 1) < 30)) = true := by rfl)
    (hline : (apos.endLine == pos.line) = true := by rfl) (hs : starEach [e] X.env = (false, eval e X.env) :: starEach [] X.env := by rfl) (hplain : (backTo pos (starEach [] X.env)).any (·.1) = false := by rfl)
    (hsw : swapsWith (.Call (.Attribute (.Name x p1) "append" apos) [e] [] pos) none p4.line X.env = pure false := by rfl) :
    PUS X E (.Expr (.Call (.Attribute (.Name x p1) "append" apos) [e] [] pos) p4) (sApp i f) := by
  obtain ⟨t, h1, h2⟩ := ha
  exact ⟨_, ps_expr (pe_bm PySem.F.plainAttrs_list PySem.F.slot_list_append PySem.F.type_list_append mt_append (pv i hN hv hd hcd) (pa_cons h1 pa_nil hs) hbase hfew hline hs hplain) hsw, Pus.app h2⟩
theorem s_par (i j : Nat) {kt k2 : _} (nd : X.N.Nodup) (ha : PUA X E [a, b] fa) (hw : swappedStores [.Tuple [.Name x p1, .Name y p2] kt p3] (.Tuple [a, b] k2 p4) X.env = pure (some [x, y])) (hc : X.calm = true := by rfl) (hi : X.N[i]? = some x := by rfl) (hj : X.N[j]? = some y := by rfl) (hij : i ≠ j := by decide)
    (hx : X.env.scope.names.lookup x = some .local := by rfl) (hy : X.env.scope.names.lookup y = some .local := by rfl) 
    (hs : swapsWithSole [.Tuple [.Name x p1, .Name y p2] kt p3] (.Tuple [a, b] k2 p4) pos.line X.env = pure false := by rfl) :
    PUS X E (.Assign [.Tuple [.Name x p1, .Name y p2] kt p3] (.Tuple [a, b] k2 p4) pos) (sPar i j fa) := by
  obtain ⟨t, h1, h2⟩ := ha
  exact ⟨_, ps_par hc nd hi hj hij hx hy h1 hw hs, Pus.par h2⟩
theorem s_aug (i : Nat) (nd : X.N.Nodup) (ha : PUE X E e f) (hi : X.N[i]? = some x := by rfl) (hx : Loc X.env.scope x := by first | exact Or.inl rfl | exact Or.inr rfl) (hf : X.fn x = true ∨ X.env.scope.names.lookup x = some .local := by first | exact .inl rfl | exact .inr rfl) :
    PUS X E (.AugAssign (.Name x p1) .Add e pos) (sAug i f) := by
  obtain ⟨t, h1, h2⟩ := ha
  exact ⟨_, ps_aug nd hi hx h1 (opR_or (opR_or iop_add iop_add_str) iop_extL) hf, Pus.aug h2⟩
end
end PL

set_option Elab.async false
set_option linter.all false
set_option maxRecDepth 100000
set_option maxHeartbeats 4000000
/-! PURE LAYER, what is walked; raise. -/
namespace PL
open PySem PySem.Spec PyProof.Rows L2
section
variable {K : PySem.W.Frag} {mg : MG} {E : L2.St → XK} {G0 H0 G H G' H' : Hp} {v w : V} {d e : D} {env : Ev} {σ : L2.St}
def signs (z : Str) : List D := z.cps.toList.map fun c => D.str ⟨#[c]⟩
theorem wks_str (z : Str) : Wks K mg (Its z) G (signs z) := by
  have hl : (signs z).length = z.cps.size := by simp [signs]
  refine ⟨fun i H hi _ => ?_, fun H _ => ?_, fun i G1 H1 x H' d s1 s2 hd hy => ?_⟩
  · rw [hl] at hi; exact hi
  · rw [hl]; exact Nat.le_refl _
  · obtain ⟨e1, c, e2, e3⟩ := hy
    subst e1 e3
    have q : d = .str ⟨#[c]⟩ := by
      unfold signs at hd
      rw [List.getElem?_map, Array.getElem?_toList, e2] at hd
      cases hd
      rfl
    subst q
    exact ⟨G1, Ext.refl s2, .str _⟩
def rowOf : D → R (List D)
  | .lst ds => .ok ds
  | .tup ds => .ok ds
  | .str z => .ok (signs z)
  | _ => .stuck
def iAny (f : Ev → R Rs) : Ev → R (List D) := fun env => R.bind (fzR (f env)) rowOf
def tiAny (K : PySem.W.Frag) (t : TE) : TI := fun σ H R => (iList K t σ H R ∨ iTup K t σ H R) ∨ iStr t σ H R
theorem PuI.any {t : TE} {f : Ev → R Rs} (ha : Pu K mg E t f) : PuI K mg E (tiAny K t) (iAny f) := by
  intro G H env σ R' s c p
  unfold iAny at p
  cases e : fzR (f env) with
  | ok d =>
    rw [e] at p
    have p0 : PostI K mg (E σ) G H R' (rowOf d) := p
    cases d with
    | lst ds => exact .inl (.inl (PuI.lst ha G H env σ R' s c (by unfold iL; rw [e]; exact p0)))
    | tup ds => exact .inl (.inr (PuI.tup ha G H env σ R' s c (by unfold iT; rw [e]; exact p0)))
    | str z =>
      refine .inr (ha.fz s c ?_)
      rw [e]
      intro G1 H1 v x r
      cases r
      exact ⟨z, rfl, (PostI.fwd x p0) G1 H1 _ (Ext.refl x.sub) (wks_str z)⟩
    | _ => exact p0.elim
  | ex x =>
    rw [e] at p
    exact .inl (.inl (PuI.lst ha G H env σ R' s c (by unfold iL; rw [e]; exact p)))
  | stuck => rw [e] at p; exact p.elim
/-! ### raise -/
def sRaise (c : Str) : Ev → Out := fun env => .ex ⟨c, none⟩ env
theorem Pus.raise {c : Str} {C : Addr} (hm : mg c = some (.ref C)) : Pus K mg E (fun _ σ H => E σ (.ref C) none H) (sRaise c) := fun G0 H0 G H env σ D' cor p => p.2 _ G H σ (fun _ _ z => z) hm cor
end
section
variable {X : Cx} {E : L2.St → XK} {k : Nat} {a b c e tg iter : Expr} {f g h : Ev → R Rs} {pos p1 p2 p3 : Pos} {x : Str}
theorem pi_or {w1 w2 : TI} (h1 : PI X tg iter w1) (h2 : PI X tg iter w2) : PI X tg iter (fun σ H R => w1 σ H R ∨ w2 σ H R) :=
  ⟨fun pins s σ H R I q => q.elim (h1.run pins s σ H R I) (h2.run pins s σ H R I)⟩
theorem i_any (ha : PUE X E iter f) : PUI X E tg iter (iAny f) := by
  obtain ⟨t, a1, a2⟩ := ha
  exact ⟨_, pi_or (pi_or (pi_list a1) (pi_tup a1)) (pi_str a1), PuI.any a2⟩
theorem t_chain {op op' : CmpOp} {r r' : R2} {g1 g2 : D → D → R Rs} (ho : OpR X (compareOp op) r ∧ POp X.K X.mg r g1) (ho' : OpR X (compareOp op') r' ∧ POp X.K X.mg r' g2) (ha : PUE X E a f) (hb : PUE X E b g) (hc : PUE X E c h)
    (hm : lastMarks [op, op'] [b, c] = false := by with_unfolding_all rfl) : PUT X E (.Compare a [op, op'] [b, c] pos) (xB (xChain g1 g2 f g h)) := by
  obtain ⟨ta, a1, a2⟩ := ha
  obtain ⟨tb, b1, b2⟩ := hb
  obtain ⟨tc, c1, c2⟩ := hc
  exact ⟨_, pt_chain ho.1 ho'.1 a1 b1 c1 hm, PuT.of (Pu.chain ho.2 ho'.2 a2 b2 c2)⟩
/-- what the top says of an exception's class -/
structure ExcK (K : PySem.W.Frag) (mg : MG) (x : Str) : Prop where
  ex : ∃ C, mg x = some (.ref C) ∧ PySem.W.excIn K C He.veBase "ValueError.__new__" = true ∧ PySem.W.keepIn K (.ref C) = true ∧ PySem.W.subIn K (.ref C) (.type "BaseException") = some true ∧ PySem.W.typeIn K (.ref C) = some (.type "type")
theorem s_raise {m : Str} {j} (C : ExcK X.K X.mg x) (tk : Takes X (fun cls d σ H => E σ cls d H)) (hg : Gl X x := by rfl) (hdb : (x == ("__debug__" : Str)) = false := by decide) (hc : X.calm = true := by rfl) :
    PUS X E (.Raise (some (.Call (.Name x p1) [.Constant (.str m) j p2] [] pos)) none p3) (sRaise x) := by
  obtain ⟨C, h1, h2, h3, h4, h5⟩ := C.ex
  exact ⟨_, ps_raise hc tk (pmk_own PySem.F.excBase_ValueError h2 h1 h3 (raises_own h4 h5) hg hdb), Pus.raise h1⟩
end
end PL
namespace PL
open PySem PySem.Spec PyProof.Rows L2
def sSetZ (i : Nat) (f : Ev → R Rs) : Ev → Out := fun env => zOf env (fzR (f env)) fun d => .nx (env.set i (.fz d))
theorem Pus.setZ {K : PySem.W.Frag} {mg : MG} {E : L2.St → XK} {i : Nat} {t : TS} {f : Ev → R Rs} (h : Pus K mg E t (sSet i f)) : Pus K mg E t (sSetZ i f) := by
  intro G0 H0 G H env σ D c p
  refine h G0 H0 G H env σ D c ?_
  unfold sSetZ at p
  unfold sSet
  cases e : f env with
  | ok r =>
    rw [e] at p
    cases r with
    | fz d => exact p
    | ow d =>
      intro G' H' σ' s c'
      obtain ⟨G2, s2, c2⟩ := c'.frz i
      have e2 : frzAt i (env.set i (.ow d)) = env.set i (.fz d) := by
        unfold frzAt
        by_cases hlt : i < env.length
        · rw [List.getElem?_set_self hlt]; simp
        · rw [List.getElem?_eq_none (by simpa using hlt)]
          rw [List.set_eq_of_length_le (by omega), List.set_eq_of_length_le (by omega)]
      rw [e2] at c2
      exact p G2 H' σ' (fun a o z => s2 a o (s a o z)) c2
    | al d => exact p.elim
  | ex x => rw [e] at p; exact p
  | stuck => rw [e] at p; exact p
theorem s_z {X : Cx} {E : L2.St → XK} {i : Nat} {s : Stmt} {f : Ev → R Rs} (h : PUS X E s (sSet i f)) : PUS X E s (sSetZ i f) := by
  obtain ⟨t, a1, a2⟩ := h
  exact ⟨t, a1, a2.setZ⟩
end PL
namespace PL
open PySem PySem.Spec PyProof.Rows L2
def max2D : List D → R Rs := fun xs => match xs with
  | [.int i, .int j] => okI (if j > i then j else i)
  | _ => .stuck
def min2D : List D → R Rs := fun xs => match xs with
  | [.int i, .int j] => okI (if j < i then j else i)
  | _ => .stuck
section
variable {K : PySem.W.Frag} {mg : MG} {E : XK}
theorem pcall_max2 : PCall K mg (fun xs H Q => ∃ i j, xs = [.int i, .int j] ∧ Q (.int (if j > i then j else i)) H) max2D := by
  intro E G H vs ds Q s r p
  unfold max2D at p
  split at p
  · obtain ⟨v, w, rfl, h1, h2⟩ := r.two
    cases h1.int; cases h2.int
    exact ⟨_, _, rfl, post_int s p⟩
  · exact p.elim
theorem pcall_min2 : PCall K mg (fun xs H Q => ∃ i j, xs = [.int i, .int j] ∧ Q (.int (if j < i then j else i)) H) min2D := by
  intro E G H vs ds Q s r p
  unfold min2D at p
  split at p
  · obtain ⟨v, w, rfl, h1, h2⟩ := r.two
    cases h1.int; cases h2.int
    exact ⟨_, _, rfl, post_int s p⟩
  · exact p.elim
end
section
variable {X : Cx} {E : L2.St → XK} {e : Expr} {es : List Expr} {fa : Ev → R (List D)} {pos p1 : Pos}
theorem u_max2 (hm : X.mg "max" = none) (ha : PUAr X E (e :: es) fa) (hc : X.calm = true := by rfl) (hg : Gl X "max" := by rfl) (he : starEach (e :: es) X.env = (false, eval e X.env) :: starEach es X.env := by rfl) (hpl : (backTo pos (starEach es X.env)).any (·.1) = false := by rfl) :
    PUE X E (.Call (.Name "max" p1) (e :: es) [] pos) (xBlt max2D fa) := u_blt (call_max2 hc) pcall_max2 hm (by decide +kernel) ha hg (by decide) (by decide) he hpl
theorem u_min2 (hm : X.mg "min" = none) (ha : PUAr X E (e :: es) fa) (hc : X.calm = true := by rfl) (hg : Gl X "min" := by rfl) (he : starEach (e :: es) X.env = (false, eval e X.env) :: starEach es X.env := by rfl) (hpl : (backTo pos (starEach es X.env)).any (·.1) = false := by rfl) :
    PUE X E (.Call (.Name "min" p1) (e :: es) [] pos) (xBlt min2D fa) := u_blt (call_min2 hc) pcall_min2 hm (by decide +kernel) ha hg (by decide) (by decide) he hpl
end
end PL

set_option Elab.async false
set_option linter.all false
set_option maxRecDepth 100000
set_option maxHeartbeats 4000000
/-! PURE LAYER, list(..), tuple(..), sum(..), max(..), str(..), f-strings. -/
namespace PL
open PySem PySem.Spec PyProof.Rows L2
def listD : List D → R Rs := fun xs => match xs with
  | [.lst ds] => .ok (.ow (.lst ds))
  | [.tup ds] => .ok (.ow (.lst ds))
  | _ => .stuck
def tupleD : List D → R Rs := fun xs => match xs with
  | [.lst ds] => .ok (.fz (.tup ds))
  | [.tup ds] => .ok (.fz (.tup ds))
  | _ => .stuck
noncomputable def strD : List D → R Rs := fun xs => match xs with
  | [.int i] => need (i.natAbs.log2 < 1920) (okS (toString i))
  | _ => .stuck
def intsOf : List D → Option (List Int)
  | [] => some []
  | .int i :: r => (intsOf r).map (i :: ·)
  | _ => none
def sumD : List D → R Rs := fun xs => match xs with
  | [.lst ds] => match intsOf ds with
    | some ns => okI ns.sum
    | none => .stuck
  | _ => .stuck
def topI : Int → List Int → Int
  | m, [] => m
  | m, x :: r => topI (if m < x then x else m) r
def botI : Int → List Int → Int
  | m, [] => m
  | m, x :: r => botI (if x < m then x else m) r
def maxD : List D → R Rs := fun xs => match xs with
  | [.lst ds] => match intsOf ds with
    | some (m :: ns) => okI (topI m ns)
    | _ => .stuck
  | _ => .stuck
def minD : List D → R Rs := fun xs => match xs with
  | [.lst ds] => match intsOf ds with
    | some (m :: ns) => okI (botI m ns)
    | _ => .stuck
  | _ => .stuck
theorem topI_ge : ∀ (l : List Int) (m : Int), m ≤ topI m l ∧ ∀ x ∈ l, x ≤ topI m l
  | [], m => ⟨Int.le_refl _, fun _ h => by cases h⟩
  | x :: r, m => by
    obtain ⟨h1, h2⟩ := topI_ge r (if m < x then x else m)
    unfold topI
    have k1 : m ≤ (if m < x then x else m) := by split <;> omega
    have k2 : x ≤ (if m < x then x else m) := by split <;> omega
    refine ⟨Int.le_trans k1 h1, fun y h => ?_⟩
    rcases List.mem_cons.mp h with rfl | h
    · exact Int.le_trans k2 h1
    · exact h2 y h
theorem topI_mem : ∀ (l : List Int) (m : Int), topI m l ∈ m :: l
  | [], m => List.mem_singleton.mpr rfl
  | x :: r, m => by
    have h := topI_mem r (if m < x then x else m)
    unfold topI
    rcases List.mem_cons.mp h with h | h
    · rw [h]
      split
      · exact List.mem_cons_of_mem _ List.mem_cons_self
      · exact List.mem_cons_self
    · exact List.mem_cons_of_mem _ (List.mem_cons_of_mem _ h)
theorem botI_le : ∀ (l : List Int) (m : Int), botI m l ≤ m ∧ ∀ x ∈ l, botI m l ≤ x
  | [], m => ⟨Int.le_refl _, fun _ h => by cases h⟩
  | x :: r, m => by
    obtain ⟨h1, h2⟩ := botI_le r (if x < m then x else m)
    unfold botI
    have k1 : (if x < m then x else m) ≤ m := by split <;> omega
    have k2 : (if x < m then x else m) ≤ x := by split <;> omega
    refine ⟨Int.le_trans h1 k1, fun y h => ?_⟩
    rcases List.mem_cons.mp h with rfl | h
    · exact Int.le_trans h1 k2
    · exact h2 y h
theorem botI_mem : ∀ (l : List Int) (m : Int), botI m l ∈ m :: l
  | [], m => List.mem_singleton.mpr rfl
  | x :: r, m => by
    have h := botI_mem r (if x < m then x else m)
    unfold botI
    rcases List.mem_cons.mp h with h | h
    · rw [h]
      split
      · exact List.mem_cons_of_mem _ List.mem_cons_self
      · exact List.mem_cons_self
    · exact List.mem_cons_of_mem _ (List.mem_cons_of_mem _ h)
section
variable {K : PySem.W.Frag} {mg : MG} {E : XK} {G H : Hp} {Q : VK}
theorem post_owL {ds : List D} {vs : List V} (s : Same G H) (r : RepA K mg G vs ds) (p : Post K mg E G H Q (.ok (.ow (.lst ds)))) : ∀ l, H l = none → Q (.ref l) (upd H l (.lst vs)) := fun l hl =>
  p G _ _ (Ext.own s hl) ⟨l, rfl, hl, s.free hl, vs, upd_same, r⟩
theorem post_fzT {ds : List D} {vs : List V} (s : Same G H) (r : RepA K mg G vs ds) (p : Post K mg E G H Q (.ok (.fz (.tup ds)))) : ∀ l, H l = none → Q (.ref l) (upd H l (.tup vs)) := fun l hl =>
  p _ _ _ (Ext.new s hl) (.tup (SqT.of upd_same) (RepA.mono (Ext.new s hl).gg r))
theorem intsOf_ok : ∀ {ds : List D} {ns : List Int} {vs : List V}, intsOf ds = some ns → RepA K mg G vs ds → vs = ns.map V.int
  | [], ns, vs, e, r => by cases e; cases r; rfl
  | d :: ds, ns, vs, e, r => by
    cases r with
    | cons h r =>
      cases d with
      | int i =>
        unfold intsOf at e
        cases e2 : intsOf ds with
        | none => rw [e2] at e; cases e
        | some ms =>
          rw [e2] at e
          cases e
          cases h
          rw [intsOf_ok e2 r]
          rfl
      | _ => unfold intsOf at e; cases e
theorem pcall_list : PCall K mg (fun xs H Q => ∃ p ys, xs = [.ref p] ∧ (SqL K H p ys ∨ SqT K H p ys) ∧ ∀ l, H l = none → Q (.ref l) (upd H l (.lst ys))) listD := by
  intro E G H vs ds Q s r p
  unfold listD at p
  split at p
  · obtain ⟨v, rfl, h⟩ := r.one
    obtain ⟨a, ws, rfl, hs, rr⟩ := h.lst s
    exact ⟨a, ws, rfl, .inl hs, post_owL s rr p⟩
  · obtain ⟨v, rfl, h⟩ := r.one
    obtain ⟨a, ws, rfl, hs, _, rr⟩ := h.tup s
    exact ⟨a, ws, rfl, .inr hs, post_owL s rr p⟩
  · exact p.elim
theorem pcall_tuple : PCall K mg (fun xs H Q => ∃ p ys, xs = [.ref p] ∧ ((SqL K H p ys ∧ ∀ l, H l = none → Q (.ref l) (upd H l (.tup ys))) ∨ (SqT K H p ys ∧ Q (.ref p) H))) tupleD := by
  intro E G H vs ds Q s r p
  unfold tupleD at p
  split at p
  · obtain ⟨v, rfl, h⟩ := r.one
    obtain ⟨a, ws, rfl, hs, rr⟩ := h.lst s
    exact ⟨a, ws, rfl, .inl ⟨hs, post_fzT s rr p⟩⟩
  · obtain ⟨v, rfl, h⟩ := r.one
    obtain ⟨a, ws, rfl, hs, hg, rr⟩ := h.tup s
    exact ⟨a, ws, rfl, .inr ⟨hs, p G H _ (Ext.refl s) (.tup hg rr)⟩⟩
  · exact p.elim
theorem pcall_str : PCall K mg (fun xs H Q => ∃ i, xs = [.int i] ∧ i.natAbs.log2 < 1920 ∧ Q (.str (toString i)) H) strD := by
  intro E G H vs ds Q s r p
  unfold strD at p
  split at p
  · obtain ⟨v, rfl, h⟩ := r.one
    cases h.int
    obtain ⟨c, p⟩ := post_need p
    exact ⟨_, rfl, c, post_str s p⟩
  · exact p.elim
theorem pcall_sum : PCall K mg (rSum K) sumD := by
  intro E G H vs ds Q s r p
  unfold sumD at p
  split at p
  · obtain ⟨v, rfl, h⟩ := r.one
    obtain ⟨a, ws, rfl, hs, rr⟩ := h.lst s
    split at p
    · rename_i ns hn
      rw [intsOf_ok hn rr] at hs
      exact ⟨a, ns, rfl, hs, post_int s p⟩
    · exact p.elim
  · exact p.elim
theorem pcall_max : PCall K mg (rMax K) maxD := by
  intro E G H vs ds Q s r p
  unfold maxD at p
  split at p
  · obtain ⟨v, rfl, h⟩ := r.one
    obtain ⟨a, ws, rfl, hs, rr⟩ := h.lst s
    split at p
    · rename_i m ns hn
      rw [intsOf_ok hn rr] at hs
      refine ⟨a, m :: ns, rfl, hs, Nat.succ_pos _, fun z hz hle => ?_⟩
      have e : z = topI m ns := Int.le_antisymm (by
        obtain ⟨h1, h2⟩ := topI_ge ns m
        rcases List.mem_cons.mp hz with rfl | hz
        · exact h1
        · exact h2 z hz) (hle _ (topI_mem ns m))
      subst e
      exact post_int s p
    · exact p.elim
  · exact p.elim
theorem pcall_min : PCall K mg (rMin K) minD := by
  intro E G H vs ds Q s r p
  unfold minD at p
  split at p
  · obtain ⟨v, rfl, h⟩ := r.one
    obtain ⟨a, ws, rfl, hs, rr⟩ := h.lst s
    split at p
    · rename_i m ns hn
      rw [intsOf_ok hn rr] at hs
      refine ⟨a, m :: ns, rfl, hs, Nat.succ_pos _, fun z hz hle => ?_⟩
      have e : z = botI m ns := Int.le_antisymm (hle _ (botI_mem ns m)) (by
        obtain ⟨h1, h2⟩ := botI_le ns m
        rcases List.mem_cons.mp hz with rfl | hz
        · exact h1
        · exact h2 z hz)
      subst e
      exact post_int s p
    · exact p.elim
  · exact p.elim
end
section
variable {X : Cx} {E : L2.St → XK} {e : Expr} {es : List Expr} {fa : Ev → R (List D)} {f : Ev → R Rs} {pos p1 : Pos}
theorem u_list (hm : X.mg "list" = none) (ha : PUAr X E (e :: es) fa) (hg : Gl X "list" := by rfl) (he : starEach (e :: es) X.env = (false, eval e X.env) :: starEach es X.env := by rfl) (hpl : (backTo pos (starEach es X.env)).any (·.1) = false := by rfl) :
    PUE X E (.Call (.Name "list" p1) (e :: es) [] pos) (xBlt listD fa) := u_bty call_list_of pcall_list hm (by decide +kernel) ha hg (by decide) (by decide) he hpl
theorem u_tuple (hm : X.mg "tuple" = none) (ha : PUAr X E (e :: es) fa) (hg : Gl X "tuple" := by rfl) (he : starEach (e :: es) X.env = (false, eval e X.env) :: starEach es X.env := by rfl) (hpl : (backTo pos (starEach es X.env)).any (·.1) = false := by rfl) :
    PUE X E (.Call (.Name "tuple" p1) (e :: es) [] pos) (xBlt tupleD fa) := u_bty call_tuple_of pcall_tuple hm (by decide +kernel) ha hg (by decide) (by decide) he hpl
theorem u_strc (hm : X.mg "str" = none) (ha : PUAr X E (e :: es) fa) (hg : Gl X "str" := by rfl) (he : starEach (e :: es) X.env = (false, eval e X.env) :: starEach es X.env := by rfl) (hpl : (backTo pos (starEach es X.env)).any (·.1) = false := by rfl) :
    PUE X E (.Call (.Name "str" p1) (e :: es) [] pos) (xBlt strD fa) := u_bty call_str_int pcall_str hm (by decide +kernel) ha hg (by decide) (by decide) he hpl
theorem u_sum (hm : X.mg "sum" = none) (ha : PUAr X E (e :: es) fa) (hc : X.calm = true := by rfl) (hg : Gl X "sum" := by rfl) (he : starEach (e :: es) X.env = (false, eval e X.env) :: starEach es X.env := by rfl) (hpl : (backTo pos (starEach es X.env)).any (·.1) = false := by rfl) :
    PUE X E (.Call (.Name "sum" p1) (e :: es) [] pos) (xBlt sumD fa) := u_blt (cr_sum hc) pcall_sum hm (by decide +kernel) ha hg (by decide) (by decide) he hpl
theorem u_max (hm : X.mg "max" = none) (ha : PUAr X E (e :: es) fa) (hc : X.calm = true := by rfl) (hg : Gl X "max" := by rfl) (he : starEach (e :: es) X.env = (false, eval e X.env) :: starEach es X.env := by rfl) (hpl : (backTo pos (starEach es X.env)).any (·.1) = false := by rfl) :
    PUE X E (.Call (.Name "max" p1) (e :: es) [] pos) (xBlt maxD fa) := u_blt (cr_max hc) pcall_max hm (by decide +kernel) ha hg (by decide) (by decide) he hpl
theorem u_min (hm : X.mg "min" = none) (ha : PUAr X E (e :: es) fa) (hc : X.calm = true := by rfl) (hg : Gl X "min" := by rfl) (he : starEach (e :: es) X.env = (false, eval e X.env) :: starEach es X.env := by rfl) (hpl : (backTo pos (starEach es X.env)).any (·.1) = false := by rfl) :
    PUE X E (.Call (.Name "min" p1) (e :: es) [] pos) (xBlt minD fa) := u_blt (cr_min hc) pcall_min hm (by decide +kernel) ha hg (by decide) (by decide) he hpl
/-! f-strings -/
noncomputable def fmtD : D → R Str
  | .str z => need (z.length ≤ sizeLine) (.ok z)
  | .int i => need (i.natAbs.log2 < 1920) (.ok (toString i))
  | _ => .stuck
noncomputable def xFmt (f : Ev → R Rs) : Ev → R Rs := fun env => R.bind (f env) fun r => R.bind (fmtD r.d) okS
theorem Pu.fmt {K : PySem.W.Frag} {mg : MG} {t : TE} (h : Pu K mg E t f) : Pu K mg E (tFmt t) (xFmt f) := by
  intro G H env σ Q s c p
  refine h.thn s c p fun r1 G1 H1 v e1 x1 rr1 p1 => ?_
  have q := rr1.rd
  cases hd : r1.d with
  | str z =>
    rw [hd] at p1 q
    cases q.str
    rcases need_cs (z.length ≤ sizeLine) (R.ok z) with ⟨c1, e⟩ | e
    · refine .inl ⟨z, rfl, c1, ?_⟩
      have p2 : Post K mg (E σ) G1 H1 Q (R.bind (need (z.length ≤ sizeLine) (.ok z)) okS) := p1
      rw [e] at p2
      exact post_str x1.sub p2
    · have p2 : Post K mg (E σ) G1 H1 Q (R.bind (need (z.length ≤ sizeLine) (.ok z)) okS) := p1
      rw [e] at p2
      exact p2.elim
  | int i =>
    rw [hd] at p1 q
    cases q.int
    rcases need_cs (i.natAbs.log2 < 1920) (R.ok (toString i : Str)) with ⟨c1, e⟩ | e
    · refine .inr ⟨i, rfl, c1, ?_⟩
      have p2 : Post K mg (E σ) G1 H1 Q (R.bind (need (i.natAbs.log2 < 1920) (.ok (toString i : Str))) okS) := p1
      rw [e] at p2
      exact post_str x1.sub p2
    · have p2 : Post K mg (E σ) G1 H1 Q (R.bind (need (i.natAbs.log2 < 1920) (.ok (toString i : Str))) okS) := p1
      rw [e] at p2
      exact p2.elim
  | _ => rw [hd] at p1; exact p1.elim
theorem u_fmt (h : PUE X E e f) : PUE X E (.FormattedValue e (-1) none pos) (xFmt f) := by
  obtain ⟨t, a1, a2⟩ := h
  exact ⟨_, pe_fmt a1, a2.fmt⟩
def PUJ (X : Cx) (E : L2.St → XK) (es : List Expr) (j : Str → Ev → R Rs) : Prop := ∃ ts, PJ X es ts ∧ ∀ acc, Pu X.K X.mg E (fun σ H Q => tJs ts acc σ H fun out H1 => Q (.str out) H1) (j acc)
def jNil : Str → Ev → R Rs := fun acc _ => okS acc
noncomputable def jCons (f : Ev → R Rs) (j : Str → Ev → R Rs) : Str → Ev → R Rs := fun acc env => R.bind (f env) fun r => match r.d with
  | .str y => need ((acc ++ y).length ≤ sizeLine) (j (acc ++ y) env)
  | _ => .stuck
theorem j_nil : PUJ X E [] jNil := ⟨[], .nil, fun acc G H env σ Q s c p => post_str s p⟩
theorem j_cons {j : Str → Ev → R Rs} (h : PUE X E e f) (r : PUJ X E es j) : PUJ X E (e :: es) (jCons f j) := by
  obtain ⟨t, a1, a2⟩ := h
  obtain ⟨ts, b1, b2⟩ := r
  refine ⟨t :: ts, .cons a1 b1, fun acc G H env σ Q s c p => ?_⟩
  refine a2.thn s c p fun r1 G1 H1 v e1 x1 rr1 p1 => ?_
  have q := rr1.rd
  cases hd : r1.d with
  | str y =>
    rw [hd] at p1 q
    cases q.str
    obtain ⟨c1, p2⟩ := post_need p1
    exact ⟨y, rfl, c1, b2 (acc ++ y) G1 H1 env σ Q x1.sub (c.ext x1) p2⟩
  | _ => rw [hd] at p1; exact p1.elim
theorem u_joined {a b : Expr} {j : Str → Ev → R Rs} (h : PUJ X E (a :: b :: es) j) : PUE X E (.JoinedStr (a :: b :: es) pos) (j Str.empty) := by
  obtain ⟨ts, a1, a2⟩ := h
  exact ⟨_, pe_joined a1, a2 Str.empty⟩
end
/-! is of bools -/
def isBD : D → D → R Rs := fun a b => match a, b with
  | .bl x, .bl y => okB (decide (x = y))
  | _, _ => .stuck
def notBD : D → D → R Rs := fun a b => match a, b with
  | .bl x, .bl y => okB (!decide (x = y))
  | _, _ => .stuck
section
variable {K : PySem.W.Frag} {mg : MG}
theorem pop_isB : POp K mg rIsB isBD := by
  intro E G H v w d e Q s h1 h2 p
  unfold isBD at p
  split at p
  · cases h1.bl; cases h2.bl
    exact ⟨_, _, rfl, rfl, post_bl s p⟩
  · exact p.elim
theorem pop_notB : POp K mg rNotB notBD := by
  intro E G H v w d e Q s h1 h2 p
  unfold notBD at p
  split at p
  · cases h1.bl; cases h2.bl
    exact ⟨_, _, rfl, rfl, post_bl s p⟩
  · exact p.elim
end
section
variable {X : Cx} {E : L2.St → XK} {a b : Expr} {f h : Ev → R Rs} {pos : Pos}
theorem u_isB (ha : PUE X E a f) (hb : PUE X E b h) (hm : behindInMarks .Is b = false := by first | exact nobehind _ (by decide) (by decide) | rfl) : PUE X E (.Compare a [.Is] [b] pos) (xBin isBD f h) := u_cmp op_isBl pop_isB ha hb hm
theorem u_notB (ha : PUE X E a f) (hb : PUE X E b h) (hm : behindInMarks .IsNot b = false := by first | exact nobehind _ (by decide) (by decide) | rfl) : PUE X E (.Compare a [.IsNot] [b] pos) (xBin notBD f h) := u_cmp op_notBl pop_notB ha hb hm
theorem t_isB (ha : PUE X E a f) (hb : PUE X E b h) (hm : behindInMarks .Is b = false := by first | exact nobehind _ (by decide) (by decide) | rfl) : PUT X E (.Compare a [.Is] [b] pos) (xB (xBin isBD f h)) := t_cmp op_isBl pop_isB ha hb hm
theorem t_notB (ha : PUE X E a f) (hb : PUE X E b h) (hm : behindInMarks .IsNot b = false := by first | exact nobehind _ (by decide) (by decide) | rfl) : PUT X E (.Compare a [.IsNot] [b] pos) (xB (xBin notBD f h)) := t_cmp op_notBl pop_notB ha hb hm
end
/-! calls within a comprehension: the context is told by the goal -/
section
variable {X : Cx} {E : L2.St → XK} {e : Expr} {es : List Expr} {fa : Ev → R (List D)} {pos p1 : Pos} {x : Str}
theorem u_callB {n j k : Nat} {ps : List Str} {dds : List D} {m : List D → R Rs} (C : Cal X.prog X.w X.K X.mg X.base j x ps dds m) (hr : Room k X.A) (hk : j ≤ k) (hx : ∀ σ, PassesAt (L2.CX X.prog X.w) X σ (E σ)) (ha : PUA X E (e :: es) fa) (hn : ps.length = n := by rfl) (hg : Gl X x := by rfl)
    (hdb : (x == ("__debug__" : Str)) = false := by decide) (he : starEach (e :: es) X.env = (false, eval e X.env) :: starEach es X.env := by rfl) (hpl : (backTo pos (starEach es X.env)).any (·.1) = false := by rfl) :
    PUE X E (.Call (.Name x p1) (e :: es) [] pos) (xCall n m dds fa) := by
  subst hn
  exact u_call C hr hk hx ha hg hdb he hpl
theorem u_lendB {n j k : Nat} {ps : List Str} {dds : List D} {m : List D → R Rs} (C : Cal X.prog X.w X.K X.mg X.base j x ps dds m) (hr : Room k X.A) (hk : j ≤ k) (hx : ∀ σ, PassesAt (L2.CX X.prog X.w) X σ (E σ)) (ha : PUAr X E (e :: es) fa) (hn : ps.length = n := by rfl) (hg : Gl X x := by rfl)
    (hdb : (x == ("__debug__" : Str)) = false := by decide) (he : starEach (e :: es) X.env = (false, eval e X.env) :: starEach es X.env := by rfl) (hpl : (backTo pos (starEach es X.env)).any (·.1) = false := by rfl) :
    PUE X E (.Call (.Name x p1) (e :: es) [] pos) (xLend n m dds fa) := by
  subst hn
  exact u_lend C hr hk hx ha hg hdb he hpl
end
end PL

set_option Elab.async false
set_option linter.all false
set_option maxRecDepth 100000
set_option maxHeartbeats 4000000
/-! PURE LAYER, exceptions caught and kept. -/
namespace PL
open PySem PySem.Spec PyProof.Rows L2
theorem exV_ok {P : Program} {w : World} {H : Hp} {h : Heap} {a C : Addr} {oe : Obj} {vs : Array Value} (e : h.get? a = some oe) (z : Zc (.ref C) none oe) (d : oe.data = .fields vs) : ObjOk P w H h a (ExV C a) :=
  ⟨⟨oe, vs, e, z, d⟩, ⟨oe, e⟩, fun _ _ ⟨o, v, q, r⟩ k => ⟨o, v, k o q, r⟩⟩
/-- an object that stands already, untracked and not known at the entry, becomes tracked -/
theorem track {X : Cx} {pins : List (Addr × Obj)} {σ : L2.St} {H : Hp} {s : Shared} {a : Addr} {o : HO} (I : Inv X pins σ H s) (hn : H a = none) (h0 : X.s_0.heap.get? a = none) (np : ∀ p ∈ X.pn ++ pins, p.1 ≠ a) (nL : a ≠ X.env.locals)
    (nC : ∀ x c, X.env.cells.lookup x = some c → c ≠ a) (new : ObjOk X.prog X.w (upd H a o) s.heap a o) : Inv X pins σ (upd H a o) s := by
  have ne0 : ∀ b ob, X.s_0.heap.get? b = some ob → b ≠ a := fun b ob e z => by rw [z, h0] at e; cases e
  refine ⟨I.ok, I.os, I.bare, ⟨I.base.keep, I.base.slot, fun b ob e n hx => ?_, I.base.there, fun b xs e => ?_, fun b ob u e => ?_, fun b ps e => ?_⟩, I.loc, I.cell, ?_, fun x c e => ?_, fun p hp => ?_, I.hok.laidN (fun _ _ z => z) hn new, I.len⟩
  · rw [upd_ne (ne0 b ob e)]; exact I.base.free b ob e n hx
  · have q := I.base.tups b xs e
    rw [upd_ne (ne_of_none q hn)]; exact q
  · have q := I.base.frzs b ob u e
    rw [upd_ne (ne_of_none q hn)]; exact q
  · obtain ⟨m, q⟩ := I.base.tbls b ps e
    exact ⟨m, by rw [upd_ne (ne_of_none q hn)]; exact q⟩
  · rw [upd_ne (Ne.symm nL)]; exact I.free
  · rw [upd_ne (nC x c e)]; exact I.freeC x c e
  · obtain ⟨e, n, r⟩ := I.pin p hp
    exact ⟨e, by rw [upd_ne (np p hp)]; exact n, r⟩
/-- what 'except x as n: suite' wishes of an exception of the body, where the exception is kept as a value: slot i is n's -/
def wKeep (K : PySem.W.Frag) (c : Value) (i : Nat) (ts : Addr → Value → Option Addr → TS) (Wout : WX) (D : Ends) : WX := fun cls d σ H =>
  ∃ b, PySem.W.exmOne K cls c = some b ∧ (b = true → d = none ∧ ∃ C, cls = .ref C ∧ ∀ a, H a = none → ts a cls d { nx := fun σ' H' => D.nx (σ'.set i none) (upd H' a (ExV C a)), rt := fun _ _ => False, bk := fun _ _ => False, ct := fun _ _ => False } (σ.set i (some (.ref a))) H) ∧
    (b = false → Wout cls d σ H)
section
variable {X : Cx} {x n : Str} {c : Value} {i : Nat} {body suite : List Stmt} {b₀ : Stmt} {np pos pos' : Pos} {tb : WX → TS} {ts : Addr → Value → Option Addr → TS} {Wout : WX}
theorem ps_try_keep (hex : X.ex = []) (hs : X.stack = X.env :: X.outer) (hf : X.env.frame = some X.env.locals) (hN : X.N.Nodup) (hi : X.N[i]? = some n) (hln : X.env.kindOf n = some .local) (hc : Names X x c) (tk : Takes X Wout)
    (hb : ∀ (W : WX) (pn : List (Addr × Obj)) (xe : Value → Shared → Prop), Takes (X.tr pn xe) W → PassesOwn (model X.prog X.w) X.A X.env xe → PSs (X.tr pn xe) body (tb W))
    (hsu : ∀ (a : Addr) (oe : Obj) (cls : Value) (d : Option Addr) (pn : List (Addr × Obj)), Zc cls d oe → (∃ vs, oe.data = .fields vs) → PSs (X.suite a ((a, oe) :: pn)) (b₀ :: suite) (ts a cls d)) :
    PS X (.Try body [.ExceptHandler (some (.Name x np)) (some n) (b₀ :: suite) pos'] [] [] pos) (fun D σ H => tb (wKeep X.K c i ts Wout D) D σ H) := by
  refine ⟨fun pins s σ H D I h => ?_⟩
  have ok := I.ok
  have hfr : X.A.frames = some (X.env :: X.outer) := by rw [ok.frames, hs]
  have hloc : Loc X.env.scope n := .inl hln
  refine wpAny_Try_except ?_
  refine wpAny_mono ((hb (wKeep X.K c i ts Wout D) (X.pn ++ pins) (fun e s₁ => wpAny (model X.prog X.w) X.A (noteFrame e X.env) (fun _ s₂ => wpAny (model X.prog X.w) X.A (setFlight e none) (fun _ s₃ =>
    wpAny (model X.prog X.w) X.A (handleBy e X.env [.ExceptHandler (some (.Name x np)) (some n) (b₀ :: suite) pos']) (SP X pins D) X.xe s₃) X.xe s₂) X.xe s₁) (fun u s' xx => ?_) PassesOwn.looking).run [] s σ H D (I.toTry _) h) (fun f s1 hsp => ?_) (fun e s1 he => he)
  · -- the catch
    obtain ⟨a, B, sI, pins', σ', H', cls, d, rfl, J', nb, up, sky, na, os, ag, b, hb1, hyes, hno⟩ := xx
    have J : Inv X pins σ' H' sI := J'.ofTry ok
    have sky' : Sky B (X.env :: X.outer) a (Zc cls d) X.env.locals s'.heap := by rw [← hs]; exact sky
    show wpAny _ X.A (noteFrame (.ref a) X.env) _ _ _
    refine Sky.land Zc.steady hfr hf sky' fun h3 fl3 up3 => ?_
    have J3 : Inv X pins σ' H' { s' with heap := h3 } := J.landed nb fl3.1 (up.trans up3) os ag
    obtain ⟨oe3, vs3, he3, hz3, hd3⟩ := fl3.there
    have notFr : ∀ {h : Heap} {o : Obj} {vs : Array Value}, h.FunFrames B (X.env :: X.outer) → h.get? a = some o → o.data = .fields vs → a ∉ frs (X.env :: X.outer) := fun {h o vs} ff e dd hm => by
      obtain ⟨_, o', e', hnf⟩ := ff.mem hm
      rw [e] at e'; cases e'
      exact hnf _ dd
    have nfr := notFr fl3.2.2.1 he3 hd3
    have nL : a ≠ X.env.locals := fun z => nfr (List.mem_filterMap.mpr ⟨X.env, List.mem_cons_self, by rw [hf, z]⟩)
    have nF : a ∉ X.fs := fun hm => by
      obtain ⟨e, he, q⟩ := List.mem_filterMap.mp hm
      exact nfr (List.mem_filterMap.mpr ⟨e, List.mem_cons_of_mem _ he, q⟩)
    have nI : sI.heap.get? a = none := by
      cases e : sI.heap.get? a with
      | none => rfl
      | some o =>
        have q := nb a o e (by rw [hs]; exact nfr)
        rw [fl3.2.1] at q
        cases q
    have n0 : X.s_0.heap.get? a = none := by
      cases e : X.s_0.heap.get? a with
      | none => rfl
      | some o =>
        obtain ⟨o', q⟩ := J.base.there a o e (by rw [hex]; exact fun z => nomatch z)
        rw [nI] at q
        cases q
    have nP : ∀ p ∈ X.pn ++ pins, p.1 ≠ a := fun p hp z => by
      have q := (J.pin p hp).1
      rw [z, nI] at q
      cases q
    have S3 := J3.suite he3 hd3 na nL nF
    refine wpAny_handleBy_cons (codeAny_handlers_test ?_) (by intro q; cases q)
    have LT : PySem.W.Looks (model X.prog X.w) h3 (typeOf (.ref a)) cls := fun A Q E s k q => wpAny_typeOf_ref (k _ _ he3) (by rw [hz3.1]; exact q)
    have LM := PySem.W.exm_one (M := model X.prog X.w) (J3.kIn) LT hb1
    have test : ∀ {Q : Value → Shared → Prop} {E : Value → Shared → Prop}, Q c { s' with heap := h3 } → wpAny (model X.prog X.w) (X.A.mark (some (.ref a))) (eval (.Name x np) X.env) Q E { s' with heap := h3 } := fun {Q E} q => by
      obtain ⟨hg, hdbg, hm | ⟨hm, hv, hnn⟩⟩ := hc
      · exact ld_glob (X := X.suite a ((a, oe3) :: (X.pn ++ pins))) S3 hg hm q hdbg
      · exact ld_blt (X := X.suite a ((a, oe3) :: (X.pn ++ pins))) S3 hg hm hv q hnn hdbg
    refine test (LM.here ?_)
    cases b with
    | true =>
      obtain ⟨hdn, C, hcl, hyes⟩ := hyes rfl
      subst hdn hcl
      refine codeAny_handlers_suite_as ?_
      refine HandSPX.lands_againZ fl3 fun h4 fl4 up4 => ?_
      have J4 : Inv X pins σ' H' { s' with heap := h4 } := J.landed nb fl4.1 ((up.trans up3).trans up4) os ag
      obtain ⟨oe4, vs4, he4, hz4, hd4⟩ := fl4.there
      have S4 := J4.suite he4 hd4 na nL nF
      refine store_ok (X := X.suite a ((a, oe4) :: (X.pn ++ pins))) (v := .ref a) S4 hN hi hloc rfl (fun s5 S5 => ?_) (.inr hln)
      refine wpAny_mono ((hsu a oe4 (.ref C) none (X.pn ++ pins) hz4 ⟨_, hd4⟩).run [] s5 _ H' _ S5 (hyes a na)) (fun f s6 hsp => ?_) (fun _ _ z => False.elim z)
      cases f with
      | next =>
        obtain ⟨σ6, H6, S6, q6⟩ := hsp
        obtain ⟨p1, p2, p3, p4, p5⟩ := S6.pin (a, oe4) (List.mem_append_left _ List.mem_cons_self)
        have nC : ∀ x c, X.env.cells.lookup x = some c → c ≠ a := fun x c e z => by
          obtain ⟨v, o, ho, hv⟩ := S6.cell x c e
          rw [z] at ho
          rw [p1] at ho
          cases ho
          exact p5 v hv
        exact gone_ok (track (S6.unsuite ok) p2 n0 nP nL nC (exV_ok p1 hz4 hd4)) hN hi hln fun s7 J7 => ⟨_, _, J7, q6⟩
      | brk =>
        obtain ⟨σ6, H6, S6, q6⟩ := hsp
        exact q6.elim
      | cont =>
        obtain ⟨σ6, H6, S6, q6⟩ := hsp
        exact q6.elim
      | ret u =>
        obtain ⟨v6, σ6, H6, S6, r6, q6⟩ := hsp
        exact q6.elim
    | false =>
      show wpAny _ X.A (handleBy (.ref a) X.env []) _ _ _
      refine wpAny_handleBy_nil ?_
      obtain ⟨k1, k2, k3, oe, vs, T, oT, ts', he, hz, hd, h1, hr⟩ := id fl3
      unfold PySem.passOn
      refine wpAny_bind (wpAny_field he hd h1 ?_)
      rw [if_neg (show ¬ ((Value.ref T == Value.none) = true) from by simp)]
      have fin : wpAny (model X.prog X.w) X.A (setFlight (.ref a) X.env.frame) (fun _ s4 => wpAny (model X.prog X.w) X.A (throw (.ref a) : Sem Flow) (SP X pins D) X.xe s4) X.xe { s' with heap := h3 } := by
        rw [hf]
        refine HandSPX.setFlight_upZ fl3 fun h4 hh4 up4 => wpAny_throw (tk _ _ ?_)
        exact ⟨a, B, sI, pins, σ', H', cls, d, rfl, J, nb, (up.trans up3).trans up4, .inr (.inr (by rw [hs]; exact hh4)), na, os, ag, hno rfl⟩
      first
        | exact wpAny_bind (wpAny_pure (wpAny_bind fin))
        | exact wpAny_bind fin
  · cases f with
    | next =>
      obtain ⟨σ', H', J', q⟩ := hsp
      exact wpAny_execs_nil ⟨σ', H', J'.ofTry ok, q⟩
    | brk =>
      obtain ⟨σ', H', J', q⟩ := hsp
      exact ⟨σ', H', J'.ofTry ok, q⟩
    | cont =>
      obtain ⟨σ', H', J', q⟩ := hsp
      exact ⟨σ', H', J'.ofTry ok, q⟩
    | ret u =>
      obtain ⟨v, σ', H', J', r, q⟩ := hsp
      exact ⟨v, σ', H', J'.ofTry ok, r, q⟩
end
/-! ### the mirror's word -/
/-- km: of which class is the one that is named, by the raised one's name; i: the name's slot, j: where it is kept -/
def sTry (km : Str → Option Bool) (i j : Nat) (g : Ev → Out) : Ev → Out := fun env => match g env with
  | .ex x env' => (match x.fs, km x.cls with
    | none, some true => if i < env'.length then .nx ((env'.set j (.fz (.exc x.cls))).set i .no) else .stuck
    | none, some false => .ex x env'
    | _, _ => .stuck)
  | o => o
structure Caught (K : PySem.W.Frag) (mg : MG) (x : Str) (km : Str → Option Bool) : Prop where
  ex : ∃ C, mg x = some (.ref C) ∧ ∀ c b, km c = some b → ∀ u, mg c = some u → (∃ D, u = .ref D) ∧ PySem.W.exmOne K u (.ref C) = some b
def tSOf (K : PySem.W.Frag) (mg : MG) (E : L2.St → XK) (g : Ev → Out) : TS := fun D σ H => ∃ G0 H0 G env, CorS K mg G0 H0 G H env σ ∧ PostS K mg E G0 H0 G D (g env)
theorem PUSs.of {X : Cx} {E : L2.St → XK} {b : List Stmt} {g : Ev → Out} (h : PUSs X E b g) : PSs X b (tSOf X.K X.mg E g) := by
  obtain ⟨t, h1, h2⟩ := h
  exact ⟨fun pins s σ H D I ⟨G0, H0, G, env, c, q⟩ => h1.run pins s σ H D I (h2 G0 H0 G H env σ D c q)⟩
theorem set_swap {α : Type} (l : List α) (i j : Nat) (hij : i ≠ j) (a b c : α) : ((l.set i a).set j b).set i c = (l.set j b).set i c := by
  rw [List.set_comm _ _ hij, List.set_set]
abbrev tsK (i j : Nat) : Addr → Value → Option Addr → TS := fun _ _ _ => tAsg (tVar i) (gName j)
theorem Pus.tryK {K : PySem.W.Frag} {mg : MG} {E : L2.St → XK} {km : Str → Option Bool} {i j : Nat} {g : Ev → Out} {x : Str} {C : Addr} (hij : i ≠ j) (hk : ∀ c b, km c = some b → ∀ u, mg c = some u → (∃ D, u = .ref D) ∧ PySem.W.exmOne K u (.ref C) = some b) :
    Pus K mg E (fun D σ H => tSOf K mg (fun σ => WE (wKeep K (.ref C) i (tsK i j) (fun cls d σ H => E σ cls d H) D) σ) g D σ H) (sTry km i j g) := by
  intro G0 H0 G H env σ D c p
  refine ⟨G0, H0, G, env, c, ?_⟩
  unfold sTry at p
  cases e : g env with
  | nx e => rw [‹g env = _›] at p; exact p
  | rt r => rw [e] at p; exact p
  | bk e => rw [‹g env = _›] at p; exact p
  | ct e => rw [‹g env = _›] at p; exact p
  | stuck => rw [e] at p; exact p
  | ex x env' =>
    rw [e] at p
    dsimp only at p
    split at p
    · rename_i hf hm
      by_cases hlt : i < env'.length
      · rw [if_pos hlt] at p
        refine ⟨hf, fun u G' H' σ' sm hu c' => ?_⟩
        obtain ⟨⟨C', rfl⟩, h2⟩ := hk _ _ hm u hu
        refine ⟨true, h2, fun _ => ⟨rfl, C', rfl, fun a ha => ?_⟩, fun z => nomatch z⟩
        have hlen : i < σ'.length := by rw [c'.len]; exact hlt
        refine ⟨.ref a, List.getElem?_set_self hlen, ?_⟩
        have x1 := Ext.new (o := ExV C' a) c'.ext.sub ha
        have rp : Rep K mg (upd G' a (ExV C' a)) (.ref a) (.exc x.cls) := .exc upd_same hu
        have c2 := (((c'.ext' x1).fz i rp).fz j rp).no i
        rw [set_swap _ _ _ hij] at c2
        refine p _ _ _ (fun b o z => x1.gg b o (sm b o z)) ?_
        exact c2
      · rw [if_neg hlt] at p; exact p.elim
    · rename_i hf hm
      refine ⟨hf, fun u G' H' σ' sm hu c' => ?_⟩
      obtain ⟨_, h2⟩ := hk _ _ hm u hu
      exact ⟨false, h2, (fun z => nomatch z), fun _ => p.2 u G' H' σ' sm hu c'⟩
    · exact p.elim
section
variable {X : Cx} {E : L2.St → XK} {k : Nat} {body : List Stmt} {g : Ev → Out} {x n y : Str} {np np2 yp ap pos pos' : Pos} {km : Str → Option Bool}
theorem s_try (i j : Nat) (G : GoodX X E k) (C : Caught X.K X.mg x km)
    (hb : ∀ (W : WX) (pn : List (Addr × Obj)) (xe : Value → Shared → Prop), GoodX (X.tr pn xe) (fun σ => WE W σ) k → PUSs (X.tr pn xe) (fun σ => WE W σ) body g)
    (hij : i ≠ j := by decide) (hi : X.N[i]? = some n := by rfl) (hj : X.N[j]? = some y := by rfl) (hg : Gl X x := by rfl) (hdb : (x == ("__debug__" : Str)) = false := by decide)
    (hln : X.env.kindOf n = some .local := by rfl) (hly : X.env.scope.names.lookup y = some .local := by rfl) (hv : Vis X.env.scope n := by first | exact Or.inl rfl | exact Or.inr (Or.inl rfl) | exact Or.inr (Or.inr rfl))
    (hd : (n == ("__debug__" : Str)) = false := by decide) (hcd : (n == ("__classdict__" : Str)) = false := by decide)
    (hex : X.ex = [] := by rfl) (hs : X.stack = X.env :: X.outer := by rfl) (hf : X.env.frame = some X.env.locals := by rfl)
    (hsw : swapsWithSole [.Name y yp] (.Name n np2) ap.line X.env = pure false := by rfl) (hw : swappedStores [.Name y yp] (.Name n np2) X.env = pure none := by rfl)
    (h1 : (assignEach [.Name y yp] X.env).map (·.2) = [assign (.Name y yp) X.env] := by rfl) :
    PUS X E (.Try body [.ExceptHandler (some (.Name x np)) (some n) [.Assign [.Name y yp] (.Name n np2) ap] pos'] [] [] pos) (sTry km i j g) := by
  obtain ⟨C, hm, hk⟩ := C.ex
  refine ⟨_, ps_try_keep (c := .ref C) (i := i) (tb := fun W => tSOf X.K X.mg (fun σ => WE W σ) g) (ts := tsK i j) (Wout := fun cls d σ H => E σ cls d H) hex hs hf G.nd hi hln ⟨hg, hdb, .inl hm⟩ G.tk (fun W pn xe tk po => ?_) (fun a oe cls d pn _ _ => ?_), Pus.tryK (x := x) hij hk⟩
  · exact (hb W pn xe ⟨G.nd, G.hr, fun σ => passAt tk σ, po, tk⟩).of
  · exact pss_one (ps_asg (pe_var (X := X.suite a ((a, oe) :: pn)) hi hv hd hcd) (pg_name G.nd hj (.inl hly) (.inr hly)) hsw hw h1)
end
/-! ### isinstance of an exception that is kept -/
def tabOf (l : List (Str × Bool)) : Str → Option Bool := fun c => l.lookup c
theorem tab_ok {P : Str → Bool → Prop} : ∀ {l : List (Str × Bool)} {c : Str} {b : Bool}, (∀ p ∈ l, P p.1 p.2) → tabOf l c = some b → P c b
  | [], c, b, h, e => by cases e
  | (x, y) :: r, c, b, h, e => by
    unfold tabOf at e
    rw [List.lookup_cons] at e
    by_cases hc : (c == x) = true
    · rw [hc] at e
      cases e
      have : c = x := eq_of_beq hc
      subst this
      exact h (c, y) List.mem_cons_self
    · rw [Bool.eq_false_iff.mpr hc] at e
      exact tab_ok (fun p hp => h p (List.mem_cons_of_mem _ hp)) e
inductive CN where
  | own (x : Str)
  | ty (x : Str) (T : String)
def CN.name : CN → Str
  | .own x => x
  | .ty x _ => x
def CN.val (K : PySem.W.Frag) : CN → Value
  | .own x => .ref (He.ga K x)
  | .ty _ T => .type T
def CN.v (K : PySem.W.Frag) : CN → V
  | .own x => .ref (He.ga K x)
  | .ty _ T => .ty T
def CN.ok (K : PySem.W.Frag) : CN → Bool
  | .own x => (He.Fa.glo x).ok K
  | .ty x T => (He.Fa.free x).ok K && decide (bootBuiltins x = some (.type T))
theorem CN.cls (K : PySem.W.Frag) : ∀ c : CN, ClsV (c.v K) (c.val K)
  | .own _ => .own _
  | .ty _ _ => .ty _
theorem CN.row (K : PySem.W.Frag) : ∀ cs : List CN, Paired ClsV (cs.map (CN.v K)) (cs.map (CN.val K))
  | [] => .nil
  | c :: r => .cons (c.cls K) (CN.row K r)
def Bnd (K : PySem.W.Frag) (mg : MG) : CN → Prop
  | .own x => mg x = some (.ref (He.ga K x))
  | .ty x T => mg x = none ∧ bootBuiltins x = some (.type T)
structure IsXF (K : PySem.W.Frag) (mg : MG) (cs : List CN) (tb : Str → Option Bool) : Prop where
  bnd : ∀ c ∈ cs, Bnd K mg c
  kit : ∀ c b, tb c = some b → ∀ C, mg c = some (.ref C) → ExcC K C ∧ PySem.W.kitAny K (.ref C) (cs.map (CN.val K)) = some b
def excCB (K : PySem.W.Frag) (D : Addr) : Bool :=
  decide (PySem.W.findIn K (.ref D) "__getattribute__" = some (some (.builtin "BaseException.__getattribute__"))) && (decide (PySem.W.findIn K (.ref D) "__getattr__" = some none) && (decide (PySem.W.subIn K (.ref D) (.type "BaseException") = some true) &&
  (PySem.W.hasDictIn K D && (decide (PySem.W.findIn K (.ref D) "__class__" = some (some (.builtin "object.__class__"))) && (decide (PySem.W.specialIn K (.builtin "object.__class__") "__get__" = some (some (.builtin "getset_descriptor.__get__"))) &&
  (decide (PySem.W.takesIn K (.builtin "object.__class__") = some true) && decide (PySem.W.mroIn K D (.type "object") = some true)))))))
theorem excC_ok {K : PySem.W.Frag} {D : Addr} (h : excCB K D = true) : ExcC K D := by
  obtain ⟨h1, h⟩ := He.ba h
  obtain ⟨h2, h⟩ := He.ba h
  obtain ⟨h3, h⟩ := He.ba h
  obtain ⟨h4, h⟩ := He.ba h
  obtain ⟨h5, h⟩ := He.ba h
  obtain ⟨h6, h⟩ := He.ba h
  obtain ⟨h7, h8⟩ := He.ba h
  exact ⟨of_decide_eq_true h1, of_decide_eq_true h2, of_decide_eq_true h3, h4, of_decide_eq_true h5, of_decide_eq_true h6, of_decide_eq_true h7, of_decide_eq_true h8⟩
def isxB (K : PySem.W.Frag) (cs : List CN) (l : List (Str × Bool)) : Bool :=
  cs.all (CN.ok K) && l.all fun p => (He.Fa.glo p.1).ok K && (excCB K (He.ga K p.1) && decide (PySem.W.kitAny K (.ref (He.ga K p.1)) (cs.map (CN.val K)) = some p.2))
theorem isx_ok {K : PySem.W.Frag} {h : Heap} {mg : Str → Option Value} (X : K.In h) (G : h.Ns mainGlobals mg) {cs : List CN} {l : List (Str × Bool)} (c : isxB K cs l = true) : IsXF K mg cs (tabOf l) := by
  obtain ⟨c1, c2⟩ := He.ba c
  refine ⟨fun q hq => ?_, fun x b e C hC => ?_⟩
  · have k := List.all_eq_true.mp c1 q hq
    cases q with
    | own x => exact He.glo_ok X G k
    | ty x T =>
      obtain ⟨k1, k2⟩ := He.ba k
      exact ⟨He.free_ok X G k1, of_decide_eq_true k2⟩
  · refine tab_ok (P := fun x b => mg x = some (.ref C) → ExcC K C ∧ PySem.W.kitAny K (.ref C) (cs.map (CN.val K)) = some b) (fun p hp hm => ?_) e hC
    obtain ⟨k1, k⟩ := He.ba (List.all_eq_true.mp c2 p hp)
    obtain ⟨k2, k3⟩ := He.ba k
    have e2 := (He.glo_ok X G k1).symm.trans hm
    cases e2
    exact ⟨excC_ok k2, of_decide_eq_true k3⟩
def cauB (K : PySem.W.Frag) (x : Str) (l : List (Str × Bool)) : Bool :=
  (He.Fa.glo x).ok K && l.all fun p => (He.Fa.glo p.1).ok K && decide (PySem.W.exmOne K (.ref (He.ga K p.1)) (.ref (He.ga K x)) = some p.2)
theorem cau_ok {K : PySem.W.Frag} {h : Heap} {mg : Str → Option Value} (X : K.In h) (G : h.Ns mainGlobals mg) {x : Str} {l : List (Str × Bool)} (c : cauB K x l = true) : Caught K mg x (tabOf l) := by
  obtain ⟨c1, c2⟩ := He.ba c
  refine ⟨_, He.glo_ok X G c1, fun y b e u hu => ?_⟩
  refine tab_ok (P := fun y b => mg y = some u → (∃ D, u = .ref D) ∧ PySem.W.exmOne K u (.ref (He.ga K x)) = some b) (fun p hp hm => ?_) e hu
  obtain ⟨k1, k2⟩ := He.ba (List.all_eq_true.mp c2 p hp)
  have e2 := (He.glo_ok X G k1).symm.trans hm
  cases e2
  exact ⟨⟨_, rfl⟩, of_decide_eq_true k2⟩
def isX (tb : Str → Option Bool) : D → R Rs := fun d => match d with
  | .exc c => match tb c with
    | some b => okB b
    | none => .stuck
  | _ => .stuck
/-- isinstance(x, c), isinstance(x, (c, ..)), x an exception that is kept -/
def rIsX1 (K : PySem.W.Frag) : List V → Hp → VK → Prop := fun xs H Q => ∃ (a C : Addr) (c : V) (cv : Value) (b : Bool), xs = [.ref a, c] ∧ H a = some (ExV C a) ∧ ExcC K C ∧ ClsV c cv ∧ PySem.W.kitOne K (.ref C) cv = some b ∧ Q (.bl b) H
def rIsXT (K : PySem.W.Frag) : List V → Hp → VK → Prop := fun xs H Q => ∃ (a C tp : Addr) (cs : List V) (us : List Value) (b : Bool), xs = [.ref a, .ref tp] ∧ H a = some (ExV C a) ∧ ExcC K C ∧ H tp = some (.tup cs) ∧ Paired ClsV cs us ∧ PySem.W.kitAny K (.ref C) us = some b ∧ Q (.bl b) H
section
variable {X : Cx}
theorem inst_x {pins : List (Addr × Obj)} {σ : L2.St} {H : Hp} {s : Shared} {a C : Addr} (I : Inv X pins σ H s) (h : H a = some (ExV C a)) : ∃ oe, PySem.W.InstAt s.heap a oe C none := by
  obtain ⟨⟨oe, vs, hget, hz, hv⟩, _, _⟩ := I.hok a _ h
  refine ⟨oe, ?_⟩
  obtain ⟨oc, od, oda, osl⟩ := oe
  obtain ⟨h1, h2⟩ := hz
  dsimp only at h1 h2 hv
  subst h1 h2 hv
  exact ⟨hget, rfl, rfl, trivial⟩
theorem call_isX1 : CallR X (.builtin "isinstance") (rIsX1 X.K) := by
  intro pins s σ H xs us Q I r h
  obtain ⟨a, C, c, cv, b, rfl, hx, E, hc, e, q⟩ := h
  obtain ⟨u1, u2, rfl, r1, r2⟩ := vals2 r
  cases (show u1 = Value.ref a from r1)
  have e2 := hc.eq r2
  subst e2
  obtain ⟨oe, J⟩ := inst_x I hx
  exact PySem.W.kia_one (PySem.W.handS_kitx_exc E.hg E.hk E.hs E.hd E.ha E.hn E.ht E.hm) I.kIn J e (fun z => nomatch z) fun tk => ⟨.bl b, H, I.tok tk, rfl, q⟩
theorem call_isXT : CallR X (.builtin "isinstance") (rIsXT X.K) := by
  intro pins s σ H xs us Q I r h
  obtain ⟨a, C, tp, cs, ws, b, rfl, hx, E, hT, k, e, q⟩ := h
  obtain ⟨u1, u2, rfl, r1, r2⟩ := vals2 r
  cases (show u1 = Value.ref a from r1)
  cases (show u2 = Value.ref tp from r2)
  obtain ⟨oe, J⟩ := inst_x I hx
  obtain ⟨_, its, rv, o, h1, h2, n, h3⟩ := (show ObjOk X.prog X.w H s.heap tp (.tup cs) from I.hok tp _ hT)
  have e3 := ClsV.all k rv
  subst e3
  obtain ⟨oc, od, dt, sl⟩ := o
  simp only at h2 h3
  subst h2 h3
  exact PySem.W.kia_tup (PySem.W.handS_kitx_exc E.hg E.hk E.hs E.hd E.ha E.hn E.ht E.hm) I.kIn J h1 e (fun z => nomatch z) fun tk => ⟨.bl b, H, I.tok tk, rfl, q⟩
end
def tVs (vs : List V) : TA := fun _ H Q => Q vs H
section
variable {X : Cx} {E : L2.St → XK} {e : Expr} {es : List Expr} {f : Ev → R Rs} {cs : List CN} {tb : Str → Option Bool} {p1 p2 p3 p4 pos : Pos} {c : CN} {x : Str}
/-- the classes' names as expressions -/
def ClsEx (X : Cx) (cs : List CN) (es : List Expr) : Prop := (∀ c ∈ cs, Bnd X.K X.mg c) → PA X es (tVs (cs.map (CN.v X.K)))
theorem c_nil : ClsEx X [] [] := fun _ => pa_nil
theorem c_own (h : ClsEx X cs es) (hg : Gl X x := by rfl) (hs : starEach (.Name x p1 :: es) X.env = (false, eval (.Name x p1) X.env) :: starEach es X.env := by rfl) (hd : (x == ("__debug__" : Str)) = false := by decide) : ClsEx X (.own x :: cs) (.Name x p1 :: es) := fun hb =>
  pa_cons (te := tC (.ref (He.ga X.K x))) (pe_glob hg (hb (.own x) List.mem_cons_self) rfl hd) (h fun c hc => hb c (List.mem_cons_of_mem _ hc)) hs
theorem c_ty {T : String} (h : ClsEx X cs es) (hg : Gl X x := by rfl) (hs : starEach (.Name x p1 :: es) X.env = (false, eval (.Name x p1) X.env) :: starEach es X.env := by rfl) (hn : x ≠ "__name__" := by decide) (hd : (x == ("__debug__" : Str)) = false := by decide) : ClsEx X (.ty x T :: cs) (.Name x p1 :: es) := fun hb =>
  pa_cons (te := tC (.ty T)) (pe_bltn hg (hb (.ty x T) List.mem_cons_self).1 (hb (.ty x T) List.mem_cons_self).2 rfl hn hd) (h fun c hc => hb c (List.mem_cons_of_mem _ hc)) hs
theorem Pu.isxT {K : PySem.W.Frag} {mg : MG} {t : TE} (ha : Pu K mg E t f) (I : IsXF K mg cs tb) (hz : cs.length ≤ 1000) : Pu K mg E (tCB (rIsXT K) (tCons t (tCons (tTup (tVs (cs.map (CN.v K)))) tNil))) (xUn (isX tb) f) := by
  intro G H env σ Q s c p
  refine ha.thn s c p fun r1 G1 H1 v e1 x1 rr1 p1 => ?_
  have q := rr1.rd
  cases hd : r1.d with
  | exc cn =>
    rw [hd] at p1 q
    have q2 : Rep K mg G1 v (.exc cn) := by
      rcases q with q | ⟨a, _, _, o⟩
      · exact q
      · exact o.elim
    cases q2 with
    | exc hG hm =>
      rename_i a C
      unfold isX at p1
      dsimp only at p1
      cases ht : tb cn with
      | none => rw [ht] at p1; exact p1.elim
      | some b =>
        rw [ht] at p1
        obtain ⟨k1, k2⟩ := I.kit cn b ht C hm
        refine ⟨?_, fun p hp => ?_⟩
        · rw [List.length_map]; exact Nat.le_trans hz (by decide)
        · have xo := Ext.own (G := G1) (o := .tup (cs.map (CN.v K))) x1.sub hp
          have hne : a ≠ p := fun z => by have := x1.sub _ _ hG; rw [z, hp] at this; cases this
          exact ⟨a, C, p, _, _, b, rfl, by rw [upd_ne hne]; exact x1.sub _ _ hG, k1, upd_same, CN.row K cs, k2, p1 G1 _ _ xo (.bl b)⟩
  | _ => rw [hd] at p1; exact p1.elim
theorem Pu.isx1 {K : PySem.W.Frag} {mg : MG} {t : TE} (ha : Pu K mg E t f) (I : IsXF K mg [c] tb) : Pu K mg E (tCB (rIsX1 K) (tCons t (tVs [c.v K]))) (xUn (isX tb) f) := by
  intro G H env σ Q s cr p
  refine ha.thn s cr p fun r1 G1 H1 v e1 x1 rr1 p1 => ?_
  have q := rr1.rd
  cases hd : r1.d with
  | exc cn =>
    rw [hd] at p1 q
    have q2 : Rep K mg G1 v (.exc cn) := by
      rcases q with q | ⟨a, _, _, o⟩
      · exact q
      · exact o.elim
    cases q2 with
    | exc hG hm =>
      rename_i a C
      unfold isX at p1
      dsimp only at p1
      cases ht : tb cn with
      | none => rw [ht] at p1; exact p1.elim
      | some b =>
        rw [ht] at p1
        obtain ⟨k1, k2⟩ := I.kit cn b ht C hm
        have k3 : PySem.W.kitOne K (.ref C) (c.val K) = some b := by
          have k2' : PySem.W.kitAny K (.ref C) [c.val K] = some b := k2
          unfold PySem.W.kitAny at k2'
          cases hk : PySem.W.kitOne K (.ref C) (c.val K) with
          | none => rw [hk] at k2'; cases k2'
          | some b' =>
            rw [hk] at k2'
            cases b' with
            | true => exact k2'
            | false => unfold PySem.W.kitAny at k2'; exact k2'
        exact ⟨a, C, _, _, b, rfl, x1.sub _ _ hG, k1, c.cls K, k3, p1 G1 H1 _ (Ext.refl x1.sub) (.bl b)⟩
  | _ => rw [hd] at p1; exact p1.elim
theorem u_isxT {kt} (ha : PUE X E e f) (hm : X.mg "isinstance" = none) (I : IsXF X.K X.mg cs tb) (hes : ClsEx X cs es) (hz : cs.length ≤ 1000 := by decide) (hg : Gl X "isinstance" := by rfl)
    (hs1 : starEach [e, .Tuple es kt p2] X.env = (false, eval e X.env) :: starEach [.Tuple es kt p2] X.env := by rfl) (hs2 : starEach [.Tuple es kt p2] X.env = (false, eval (.Tuple es kt p2) X.env) :: starEach [] X.env := by rfl) (hpl : (backTo pos (starEach [.Tuple es kt p2] X.env)).any (·.1) = false := by rfl) :
    PUE X E (.Call (.Name "isinstance" p1) [e, .Tuple es kt p2] [] pos) (xUn (isX tb) f) := by
  obtain ⟨t, a1, a2⟩ := ha
  exact ⟨_, pe_callB call_isXT hg hm (by decide +kernel) (pa_cons a1 (pa_cons (pe_tup (hes I.bnd)) pa_nil hs2) hs1) (by decide) (by decide) hs1 hpl, Pu.isxT a2 I hz⟩
theorem u_isx1 {n : Expr} (ha : PUE X E e f) (hm : X.mg "isinstance" = none) (I : IsXF X.K X.mg [c] tb) (hes : ClsEx X [c] [n]) (hg : Gl X "isinstance" := by rfl)
    (hs1 : starEach [e, n] X.env = (false, eval e X.env) :: starEach [n] X.env := by rfl) (hpl : (backTo pos (starEach [n] X.env)).any (·.1) = false := by rfl) :
    PUE X E (.Call (.Name "isinstance" p1) [e, n] [] pos) (xUn (isX tb) f) := by
  obtain ⟨t, a1, a2⟩ := ha
  exact ⟨_, pe_callB call_isX1 hg hm (by decide +kernel) (pa_cons a1 (hes I.bnd) hs1) (by decide) (by decide) hs1 hpl, Pu.isx1 a2 I⟩
end
end PL

set_option Elab.async false
set_option linter.all false
set_option maxRecDepth 100000
set_option maxHeartbeats 4000000
/-! PURE LAYER, texts: startswith, partition, split, int(..). -/
namespace PL
open PySem PySem.Spec PyProof.Rows L2
def xM1 (g : Str → D → R Rs) (f h : Ev → R Rs) : Ev → R Rs := fun env => R.bind (f env) fun r1 => match r1.d with
  | .str a => R.bind (h env) fun r2 => g a r2.d
  | _ => .stuck
def PM1 (K : PySem.W.Frag) (mg : MG) (r : V → List V → Hp → VK → Prop) (g : Str → D → R Rs) : Prop := ∀ (E : XK) (G H : Hp) (a : Str) (w : V) (e : D) (Q : VK), Same G H → Rd1 K mg G H w e → Post K mg E G H Q (g a e) → r (.str a) [w] H Q
section
variable {K : PySem.W.Frag} {mg : MG} {E : L2.St → XK}
theorem Pu.m1 {to te : TE} {f h : Ev → R Rs} {r : V → List V → Hp → VK → Prop} {g : Str → D → R Rs} (o : PM1 K mg r g) (ha : Pu K mg E to f) (hb : Pu K mg E te h) : Pu K mg E (tM1 r to te) (xM1 g f h) := by
  intro G H env σ Q s c p
  refine ha.thn s c p fun r1 G1 H1 v e1 x1 rr1 p1 => ?_
  cases hd : r1.d with
  | str a =>
    have q := rr1.rd
    rw [hd] at q
    cases q.str
    refine ⟨⟨a, rfl⟩, ?_⟩
    rw [hd] at p1
    refine hb.thn x1.sub (c.ext x1) p1 fun r2 G2 H2 w e2 x2 rr2 p2 => ?_
    exact o (E σ) G2 H2 a w _ Q x2.sub rr2.rd p2
  | _ => rw [hd] at p1; exact p1.elim
def startsD : Str → D → R Rs := fun a d => match d with
  | .str b => okB (Txt.startswith a b)
  | _ => .stuck
noncomputable def partD : Str → D → R Rs := fun a d => match d with
  | .str b => need ((b.length == 0) = false ∧ a.length ≤ sizeLine) (.ok (.fz (.tup [.str (Txt.partition a b).1, .str (Txt.partition a b).2.1, .str (Txt.partition a b).2.2])))
  | _ => .stuck
noncomputable def splitD : Str → D → R Rs := fun a d => match d with
  | .str b => need ((b.length == 0) = false ∧ a.length + 2 ≤ sizeLine) (.ok (.ow (.lst ((Txt.split a b).map D.str))))
  | _ => .stuck
noncomputable def intD : List D → R Rs := fun xs => match xs with
  | [.str a] => match PySem.intText? a with
    | some n => need (a.length ≤ 640) (okI n)
    | none => .stuck
  | [.int i] => okI i
  | [.bl b] => okI (if b then 1 else 0)
  | _ => .stuck
theorem repA_strs {G : Hp} : ∀ ns : List Str, RepA K mg G (ns.map V.str) (ns.map D.str)
  | [] => .nil
  | n :: r => .cons (.str n) (repA_strs r)
theorem pm_starts : PM1 K mg (fun x xs H Q => ∃ a b, x = .str a ∧ xs = [.str b] ∧ Q (.bl (Txt.startswith a b)) H) startsD := by
  intro E G H a w e Q s h p
  cases e <;> first
    | exact p.elim
    | (cases h.str; exact ⟨_, _, rfl, rfl, post_bl s p⟩)
theorem pm_part : PM1 K mg (fun x xs H Q => ∃ a b, x = .str a ∧ xs = [.str b] ∧ (b.length == 0) = false ∧ a.length ≤ sizeLine ∧
      ∀ p, H p = none → Q (.ref p) (upd H p (.tup [.str (Txt.partition a b).1, .str (Txt.partition a b).2.1, .str (Txt.partition a b).2.2]))) partD := by
  intro E G H a w e Q s h p
  cases e with
  | str b =>
    cases h.str
    obtain ⟨c, p⟩ := post_need p
    exact ⟨_, _, rfl, rfl, c.1, c.2, post_fzT s (.cons (.str _) (.cons (.str _) (.cons (.str _) .nil))) p⟩
  | _ => exact p.elim
theorem pm_split : PM1 K mg (fun x xs H Q => ∃ a b, x = .str a ∧ xs = [.str b] ∧ (b.length == 0) = false ∧ a.length + 2 ≤ sizeLine ∧ rNewStrs (Txt.split a b) H Q) splitD := by
  intro E G H a w e Q s h p
  cases e with
  | str b =>
    cases h.str
    obtain ⟨c, p⟩ := post_need p
    exact ⟨_, _, rfl, rfl, c.1, c.2, post_owL s (repA_strs _) p⟩
  | _ => exact p.elim
def rIntA : List V → Hp → VK → Prop := fun xs H Q => (∃ a n, xs = [.str a] ∧ PySem.intText? a = some n ∧ a.length ≤ 640 ∧ Q (.int n) H) ∨ ((∃ i, xs = [.int i] ∧ Q (.int i) H) ∨ ∃ k, xs = [.bl k] ∧ Q (.int (if k then 1 else 0)) H)
theorem pcall_int : PCall K mg rIntA intD := by
  intro E G H vs ds Q s r p
  unfold intD at p
  split at p
  · obtain ⟨v, rfl, h⟩ := r.one
    cases h.str
    split at p
    · rename_i n hn
      obtain ⟨c, p⟩ := post_need p
      exact .inl ⟨_, n, rfl, hn, c, post_int s p⟩
    · exact p.elim
  · obtain ⟨v, rfl, h⟩ := r.one
    cases h.int
    exact .inr (.inl ⟨_, rfl, post_int s p⟩)
  · obtain ⟨v, rfl, h⟩ := r.one
    cases h.bl
    exact .inr (.inr ⟨_, rfl, post_int s p⟩)
  · exact p.elim
end
section
variable {X : Cx} {E : L2.St → XK} {o e : Expr} {es : List Expr} {f g : Ev → R Rs} {fa : Ev → R (List D)} {apos pos p1 : Pos}
theorem u_starts (ho : PUE X E o f) (he : PUE X E e g) (hs : starEach [e] X.env = [(false, eval e X.env)] := by rfl) (hbase : attributeBase o "startswith" X.env (eval o X.env) = eval o X.env := by rfl) (hline : (apos.endLine == pos.line) = true := by rfl) :
    PUE X E (.Call (.Attribute o "startswith" apos) [e] [] pos) (xM1 startsD f g) := by
  obtain ⟨t, h1, h2⟩ := ho
  obtain ⟨t2, l1, l2⟩ := he
  exact ⟨_, pe_m1 F.slot_str_startswith F.type_str_startswith mt_startswith h1 l1 hs hbase hline, Pu.m1 pm_starts h2 l2⟩
theorem u_part (ho : PUE X E o f) (he : PUE X E e g) (hs : starEach [e] X.env = [(false, eval e X.env)] := by rfl) (hbase : attributeBase o "partition" X.env (eval o X.env) = eval o X.env := by rfl) (hline : (apos.endLine == pos.line) = true := by rfl) :
    PUE X E (.Call (.Attribute o "partition" apos) [e] [] pos) (xM1 partD f g) := by
  obtain ⟨t, h1, h2⟩ := ho
  obtain ⟨t2, l1, l2⟩ := he
  exact ⟨_, pe_partition h1 l1 hs hbase hline, Pu.m1 pm_part h2 l2⟩
theorem u_split (ho : PUE X E o f) (he : PUE X E e g) (hs : starEach [e] X.env = [(false, eval e X.env)] := by rfl) (hbase : attributeBase o "split" X.env (eval o X.env) = eval o X.env := by rfl) (hline : (apos.endLine == pos.line) = true := by rfl) :
    PUE X E (.Call (.Attribute o "split" apos) [e] [] pos) (xM1 splitD f g) := by
  obtain ⟨t, h1, h2⟩ := ho
  obtain ⟨t2, l1, l2⟩ := he
  exact ⟨_, pe_split h1 l1 hs hbase hline, Pu.m1 pm_split h2 l2⟩
theorem u_intc (hm : X.mg "int" = none) (ha : PUAr X E (e :: es) fa) (hg : Gl X "int" := by rfl) (he : starEach (e :: es) X.env = (false, eval e X.env) :: starEach es X.env := by rfl) (hpl : (backTo pos (starEach es X.env)).any (·.1) = false := by rfl) :
    PUE X E (.Call (.Name "int" p1) (e :: es) [] pos) (xBlt intD fa) := u_bty (callR_or call_int_str call_int1) pcall_int hm (by decide +kernel) ha hg (by decide) (by decide) he hpl
end
end PL

set_option Elab.async false
set_option linter.all false
set_option maxRecDepth 100000
set_option maxHeartbeats 4000000
/-! PURE LAYER, reckoning: rules that open the mirror's words. -/
namespace PL
open PySem PySem.Spec PyProof.Rows L2
section
variable {α β : Type} {env env' : Ev} {f g h : Ev → R Rs} {fa : Ev → R (List D)} {p q : Ev → R Bool} {u v : Ev → Out} {d e : D} {r : Rs} {x : Ex}
@[simp] theorem bind_ok0 (a : α) (k : α → R β) : R.bind (.ok a) k = k a := rfl
@[simp] theorem bind_ex (x : Ex) (k : α → R β) : R.bind (.ex x) k = .ex x := rfl
@[simp] theorem bind_st (k : α → R β) : R.bind (.stuck) k = .stuck := rfl
@[simp] theorem fz_d : (Rs.fz d).d = d := rfl
@[simp] theorem ow_d : (Rs.ow d).d = d := rfl
@[simp] theorem al_d : (Rs.al d).d = d := rfl
@[simp] theorem fzR_fz : fzR (.ok (.fz d)) = .ok d := rfl
@[simp] theorem fzR_ow : fzR (.ok (.ow d)) = .ok d := rfl
@[simp] theorem fzR_al : fzR (.ok (.al d)) = .stuck := rfl
@[simp] theorem fzR_ex : fzR (.ex x) = .ex x := rfl
@[simp] theorem xC_ (d : D) : xC d env = .ok (.fz d) := rfl
@[simp] theorem sOf_ok (k : Rs → Out) : sOf env (.ok r) k = k r := rfl
@[simp] theorem sOf_ex (k : Rs → Out) : sOf env (.ex x) k = .ex x env := rfl
@[simp] theorem asB_ (b : Bool) : asB (.bl b) = .ok b := rfl
theorem xV0 {s : Sl} {r : Ev} : xVar 0 (s :: r) = (match s with | .fz d => .ok (.fz d) | .ow d => .ok (.al d) | .no => .stuck) := by cases s <;> rfl
theorem xVS {i : Nat} {s : Sl} {r : Ev} : xVar (i + 1) (s :: r) = xVar i r := by simp [xVar]
@[simp] theorem okB_ (b : Bool) : okB b = .ok (.fz (.bl b)) := rfl
@[simp] theorem okI_ (b : Int) : okI b = .ok (.fz (.int b)) := rfl
@[simp] theorem okS_ (b : Str) : okS b = .ok (.fz (.str b)) := rfl
theorem kit_ii : kitB "int" "int" = some true := by decide +kernel
theorem kit_bi : kitB "bool" "int" = some true := by decide +kernel
theorem kit_bb : kitB "bool" "bool" = some true := by decide +kernel
theorem kit_ib : kitB "int" "bool" = some false := by decide +kernel
theorem kit_ni : kitB "NoneType" "int" = some false := by decide +kernel
theorem kit_nb : kitB "NoneType" "bool" = some false := by decide +kernel
theorem kit_si : kitB "str" "int" = some false := by decide +kernel
theorem kit_sb : kitB "str" "bool" = some false := by decide +kernel
theorem kit_ss : kitB "str" "str" = some true := by decide +kernel
theorem kit_is : kitB "int" "str" = some false := by decide +kernel
theorem kit_bs : kitB "bool" "str" = some false := by decide +kernel
theorem kit_ns : kitB "NoneType" "str" = some false := by decide +kernel
theorem kit_tt : kitB "tuple" "tuple" = some true := by decide +kernel
theorem kit_it : kitB "int" "tuple" = some false := by decide +kernel
theorem kit_bt : kitB "bool" "tuple" = some false := by decide +kernel
theorem kit_nt : kitB "NoneType" "tuple" = some false := by decide +kernel
theorem kit_st : kitB "str" "tuple" = some false := by decide +kernel
theorem kit_lt : kitB "list" "tuple" = some false := by decide +kernel
theorem kit_dt : kitB "dict" "tuple" = some false := by decide +kernel
theorem kit_ls : kitB "list" "str" = some false := by decide +kernel
theorem kit_ds : kitB "dict" "str" = some false := by decide +kernel
theorem kit_ts : kitB "tuple" "str" = some false := by decide +kernel
theorem kit_li : kitB "list" "int" = some false := by decide +kernel
theorem kit_di : kitB "dict" "int" = some false := by decide +kernel
theorem kit_ti : kitB "tuple" "int" = some false := by decide +kernel
theorem kit_lb : kitB "list" "bool" = some false := by decide +kernel
theorem kit_db : kitB "dict" "bool" = some false := by decide +kernel
theorem kit_tb : kitB "tuple" "bool" = some false := by decide +kernel
theorem kit_ll : kitB "list" "list" = some true := by decide +kernel
theorem kit_il : kitB "int" "list" = some false := by decide +kernel
theorem kit_nl : kitB "NoneType" "list" = some false := by decide +kernel
theorem kit_tl : kitB "tuple" "list" = some false := by decide +kernel
theorem kit_sl : kitB "str" "list" = some false := by decide +kernel
@[simp] theorem isi_ii (i : Int) : isiD "int" (.int i) = .ok (.fz (.bl true)) := by simp [isiD, kindD, kit_ii]
@[simp] theorem isi_ib (i : Int) : isiD "bool" (.int i) = .ok (.fz (.bl false)) := by simp [isiD, kindD, kit_ib]
@[simp] theorem isi_is (i : Int) : isiD "str" (.int i) = .ok (.fz (.bl false)) := by simp [isiD, kindD, kit_is]
@[simp] theorem isi_it (i : Int) : isiD "tuple" (.int i) = .ok (.fz (.bl false)) := by simp [isiD, kindD, kit_it]
@[simp] theorem isi_bi (i : Bool) : isiD "int" (.bl i) = .ok (.fz (.bl true)) := by simp [isiD, kindD, kit_bi]
@[simp] theorem isi_bb (i : Bool) : isiD "bool" (.bl i) = .ok (.fz (.bl true)) := by simp [isiD, kindD, kit_bb]
@[simp] theorem isi_bs (i : Bool) : isiD "str" (.bl i) = .ok (.fz (.bl false)) := by simp [isiD, kindD, kit_bs]
@[simp] theorem isi_bt (i : Bool) : isiD "tuple" (.bl i) = .ok (.fz (.bl false)) := by simp [isiD, kindD, kit_bt]
@[simp] theorem isi_ni : isiD "int" .non = .ok (.fz (.bl false)) := by simp [isiD, kindD, kit_ni]
@[simp] theorem isi_nb : isiD "bool" .non = .ok (.fz (.bl false)) := by simp [isiD, kindD, kit_nb]
@[simp] theorem isi_ns : isiD "str" .non = .ok (.fz (.bl false)) := by simp [isiD, kindD, kit_ns]
@[simp] theorem isi_nt : isiD "tuple" .non = .ok (.fz (.bl false)) := by simp [isiD, kindD, kit_nt]
@[simp] theorem isi_si (i : Str) : isiD "int" (.str i) = .ok (.fz (.bl false)) := by simp [isiD, kindD, kit_si]
@[simp] theorem isi_sb (i : Str) : isiD "bool" (.str i) = .ok (.fz (.bl false)) := by simp [isiD, kindD, kit_sb]
@[simp] theorem isi_ss (i : Str) : isiD "str" (.str i) = .ok (.fz (.bl true)) := by simp [isiD, kindD, kit_ss]
@[simp] theorem isi_st (i : Str) : isiD "tuple" (.str i) = .ok (.fz (.bl false)) := by simp [isiD, kindD, kit_st]
@[simp] theorem isi_ti (i : List D) : isiD "int" (.tup i) = .ok (.fz (.bl false)) := by simp [isiD, kindD, kit_ti]
@[simp] theorem isi_tb (i : List D) : isiD "bool" (.tup i) = .ok (.fz (.bl false)) := by simp [isiD, kindD, kit_tb]
@[simp] theorem isi_ts (i : List D) : isiD "str" (.tup i) = .ok (.fz (.bl false)) := by simp [isiD, kindD, kit_ts]
@[simp] theorem isi_tt (i : List D) : isiD "tuple" (.tup i) = .ok (.fz (.bl true)) := by simp [isiD, kindD, kit_tt]
@[simp] theorem isi_li (i : List D) : isiD "int" (.lst i) = .ok (.fz (.bl false)) := by simp [isiD, kindD, kit_li]
@[simp] theorem isi_lb (i : List D) : isiD "bool" (.lst i) = .ok (.fz (.bl false)) := by simp [isiD, kindD, kit_lb]
@[simp] theorem isi_ls (i : List D) : isiD "str" (.lst i) = .ok (.fz (.bl false)) := by simp [isiD, kindD, kit_ls]
@[simp] theorem isi_lt (i : List D) : isiD "tuple" (.lst i) = .ok (.fz (.bl false)) := by simp [isiD, kindD, kit_lt]
@[simp] theorem isi_di (i : List (Key × D)) : isiD "int" (.dic i) = .ok (.fz (.bl false)) := by simp [isiD, kindD, kit_di]
@[simp] theorem isi_db (i : List (Key × D)) : isiD "bool" (.dic i) = .ok (.fz (.bl false)) := by simp [isiD, kindD, kit_db]
@[simp] theorem isi_ds (i : List (Key × D)) : isiD "str" (.dic i) = .ok (.fz (.bl false)) := by simp [isiD, kindD, kit_ds]
@[simp] theorem isi_dt (i : List (Key × D)) : isiD "tuple" (.dic i) = .ok (.fz (.bl false)) := by simp [isiD, kindD, kit_dt]
/-! the words opened -/
def slR : Option Sl → R Rs
  | some (.fz d) => .ok (.fz d)
  | some (.ow d) => .ok (.al d)
  | _ => .stuck
@[simp] theorem xVar_ (i : Nat) : xVar i env = slR env[i]? := rfl
@[simp] theorem slR_fz : slR (some (.fz d)) = .ok (.fz d) := rfl
@[simp] theorem slR_ow : slR (some (.ow d)) = .ok (.al d) := rfl
@[simp] theorem xUn_ (g : D → R Rs) : xUn g f env = R.bind (f env) fun r => g r.d := rfl
@[simp] theorem xBin_ (g : D → D → R Rs) : xBin g f h env = R.bind (f env) fun r1 => R.bind (h env) fun r2 => g r1.d r2.d := rfl
@[simp] theorem xB_ : xB f env = R.bind (f env) fun r => asB r.d := rfl
@[simp] theorem xAnd_ : xAnd p q env = R.bind (p env) fun b => if b = true then q env else .ok false := rfl
@[simp] theorem xOr_ : xOr p q env = R.bind (p env) fun b => if b = true then .ok true else q env := rfl
@[simp] theorem xNot_ : xNot p env = R.bind (p env) fun b => .ok (!b) := rfl
@[simp] theorem xAndV_ : xAndV f g env = R.bind (xB f env) fun b => if b = true then g env else .ok (.fz (.bl false)) := rfl
@[simp] theorem xOrV_ : xOrV f g env = R.bind (xB f env) fun b => if b = true then .ok (.fz (.bl true)) else g env := rfl
@[simp] theorem xNotV_ : xNotV f env = R.bind (xB f env) fun b => .ok (.fz (.bl (!b))) := rfl
@[simp] theorem xIf_ : xIf p f g env = R.bind (p env) fun b => if b = true then f env else g env := rfl
@[simp] theorem xNil_ : xNil env = .ok [] := rfl
@[simp] theorem xCons_ : xCons f fa env = R.bind (fzR (f env)) fun d => R.bind (fa env) fun ds => .ok (d :: ds) := rfl
@[simp] theorem xConsR_ : xConsR f fa env = R.bind (f env) fun r => R.bind (fa env) fun ds => .ok (r.d :: ds) := rfl
@[simp] theorem xCall_ (n : Nat) (m : List D → R Rs) (dds : List D) : xCall n m dds fa env = R.bind (fa env) fun ds => if (ds ++ dds).length = n then m (ds ++ dds) else .stuck := rfl
@[simp] theorem xLend_ (n : Nat) (m : List D → R Rs) (dds : List D) : xLend n m dds fa env = R.bind (fa env) fun ds => if (ds ++ dds).length = n then scalR (m (ds ++ dds)) else .stuck := rfl
@[simp] theorem xBlt_ (g : List D → R Rs) : xBlt g fa env = R.bind (fa env) g := rfl
@[simp] theorem xTup_ : xTup fa env = R.bind (fa env) fun ds => need (ds.length ≤ 1000) (.ok (.fz (.tup ds))) := rfl
@[simp] theorem xLst_ : xLst fa env = R.bind (fa env) fun ds => need (ds.length ≤ 1000) (.ok (.ow (.lst ds))) := rfl
def Out.thn (o : Out) (g : Ev → Out) : Out := match o with
  | .nx e => g e
  | o => o
@[simp] theorem thn_nx (g : Ev → Out) : Out.thn (.nx env) g = g env := rfl
@[simp] theorem thn_rt (g : Ev → Out) : Out.thn (.rt r) g = .rt r := rfl
@[simp] theorem thn_ex (g : Ev → Out) : Out.thn (.ex x env) g = .ex x env := rfl
@[simp] theorem thn_bk (g : Ev → Out) : Out.thn (.bk env) g = .bk env := rfl
@[simp] theorem thn_ct (g : Ev → Out) : Out.thn (.ct env) g = .ct env := rfl
@[simp] theorem thn_st (g : Ev → Out) : Out.thn .stuck g = .stuck := rfl
@[simp] theorem sSeq_ : sSeq u v env = Out.thn (u env) v := by unfold sSeq Out.thn; cases u env <;> rfl
@[simp] theorem sNext_ : sNext env = .nx env := rfl
@[simp] theorem sBreak_ : sBreak env = .bk env := rfl
@[simp] theorem sCont_ : sCont env = .ct env := rfl
def rsSet (i : Nat) (env : Ev) : Rs → Out
  | .fz d => .nx (env.set i (.fz d))
  | .ow d => .nx (env.set i (.ow d))
  | .al _ => .stuck
@[simp] theorem sSet_ (i : Nat) : sSet i f env = sOf env (f env) (rsSet i env) := by unfold sSet rsSet; rfl
@[simp] theorem rsSet_fz (i : Nat) : rsSet i env (.fz d) = .nx (env.set i (.fz d)) := rfl
@[simp] theorem rsSet_ow (i : Nat) : rsSet i env (.ow d) = .nx (env.set i (.ow d)) := rfl
@[simp] theorem sDrop_ : sDrop f env = sOf env (f env) fun _ => .nx env := rfl
def rsRet : Rs → Out
  | .al _ => .stuck
  | r => .rt r
@[simp] theorem sRet_ : sRet f env = sOf env (f env) rsRet := by unfold sRet rsRet; rfl
@[simp] theorem rsRet_fz : rsRet (.fz d) = .rt (.fz d) := rfl
@[simp] theorem rsRet_ow : rsRet (.ow d) = .rt (.ow d) := rfl
@[simp] theorem sRetN_ : sRetN env = .rt (.fz .non) := rfl
def slRet : Option Sl → Out
  | some (.fz d) => .rt (.fz d)
  | some (.ow d) => .rt (.ow d)
  | _ => .stuck
@[simp] theorem sRetV_ (i : Nat) : sRetV i env = slRet env[i]? := rfl
@[simp] theorem slRet_fz : slRet (some (.fz d)) = .rt (.fz d) := rfl
@[simp] theorem slRet_ow : slRet (some (.ow d)) = .rt (.ow d) := rfl
def ifT (env : Ev) (b : R Bool) (x y : Out) : Out := match b with
  | .ok b => if b = true then x else y
  | .ex x => .ex x env
  | .stuck => .stuck
@[simp] theorem sIf_ : sIf p u v env = ifT env (p env) (u env) (v env) := by unfold sIf ifT; cases p env <;> rfl
@[simp] theorem ifT_ok (b : Bool) (x y : Out) : ifT env (.ok b) x y = if b = true then x else y := rfl
@[simp] theorem ifT_ex (x y : Out) (z : Ex) : ifT env (.ex z) x y = .ex z env := rfl
def outR : Out → R Rs
  | .nx _ => .ok (.fz .non)
  | .rt r => .ok r
  | .ex x _ => .ex x
  | _ => .stuck
theorem runB_ (n : Nat) (ds : List D) : runB n u ds = outR (u (ds.map .fz ++ List.replicate (n - ds.length) .no)) := by unfold runB outR; cases u (ds.map .fz ++ List.replicate (n - ds.length) .no) <;> rfl
@[simp] theorem outR_nx : outR (.nx env) = .ok (.fz .non) := rfl
@[simp] theorem outR_rt : outR (.rt r) = .ok r := rfl
@[simp] theorem outR_ex : outR (.ex x env) = .ex x := rfl
@[simp] theorem frzAt_ (i : Nat) : sFrz i u env = u (frzAt i env) := rfl
section
variable {c : Prop} [Decidable c]
@[simp] theorem bind_if (a b : R α) (k : α → R β) : R.bind (if c then a else b) k = if c then R.bind a k else R.bind b k := by split <;> rfl
@[simp] theorem thn_if (a b : Out) (k : Ev → Out) : Out.thn (if c then a else b) k = if c then Out.thn a k else Out.thn b k := by split <;> rfl
@[simp] theorem sOf_if (a b : R Rs) (k : Rs → Out) : sOf env (if c then a else b) k = if c then sOf env a k else sOf env b k := by split <;> rfl
@[simp] theorem fzR_if (a b : R Rs) : fzR (if c then a else b) = if c then fzR a else fzR b := by split <;> rfl
@[simp] theorem ifT_if (a b : R Bool) (x y : Out) : ifT env (if c then a else b) x y = if c then ifT env a x y else ifT env b x y := by split <;> rfl
@[simp] theorem outR_if (a b : Out) : outR (if c then a else b) = if c then outR a else outR b := by split <;> rfl
end
@[simp] theorem int2_ (g : Int → Int → R Rs) (i j : Int) : int2 g (.int i) (.int j) = g i j := rfl
@[simp] theorem add_ii (i j : Int) : addD (.int i) (.int j) = .ok (.fz (.int (i + j))) := rfl
@[simp] theorem add_ss (i j : Str) : addD (.str i) (.str j) = need (i.length + j.length ≤ sizeLine) (okS (i ++ j)) := rfl
@[simp] theorem add_tt (i j : List D) : addD (.tup i) (.tup j) = need (i.length + j.length ≤ sizeLine) (.ok (.fz (.tup (i ++ j)))) := rfl
@[simp] theorem add_ll (i j : List D) : addD (.lst i) (.lst j) = need (i.length + j.length ≤ sizeLine) (.ok (.ow (.lst (i ++ j)))) := rfl
@[simp] theorem neg_i (i : Int) : negD (.int i) = .ok (.fz (.int (-i))) := rfl
@[simp] theorem isN_n : isND .non = .ok (.fz (.bl true)) := rfl
@[simp] theorem isN_i (i : Int) : isND (.int i) = .ok (.fz (.bl false)) := rfl
@[simp] theorem isN_t (i : List D) : isND (.tup i) = .ok (.fz (.bl false)) := rfl
@[simp] theorem isN_l (i : List D) : isND (.lst i) = .ok (.fz (.bl false)) := rfl
@[simp] theorem isN_s (i : Str) : isND (.str i) = .ok (.fz (.bl false)) := rfl
@[simp] theorem isN_b (i : Bool) : isND (.bl i) = .ok (.fz (.bl false)) := rfl
@[simp] theorem isNN_n : isNN .non = .ok (.fz (.bl false)) := rfl
@[simp] theorem isNN_i (i : Int) : isNN (.int i) = .ok (.fz (.bl true)) := rfl
@[simp] theorem isNN_t (i : List D) : isNN (.tup i) = .ok (.fz (.bl true)) := rfl
@[simp] theorem isNN_l (i : List D) : isNN (.lst i) = .ok (.fz (.bl true)) := rfl
@[simp] theorem isNN_s (i : Str) : isNN (.str i) = .ok (.fz (.bl true)) := rfl
@[simp] theorem isNN_b (i : Bool) : isNN (.bl i) = .ok (.fz (.bl true)) := rfl
@[simp] theorem len_l (i : List D) : lenD [.lst i] = .ok (.fz (.int i.length)) := rfl
@[simp] theorem len_t (i : List D) : lenD [.tup i] = .ok (.fz (.int i.length)) := rfl
@[simp] theorem len_s (i : Str) : lenD [.str i] = need (i.length ≤ sizeLine) (.ok (.fz (.int i.length))) := rfl
@[simp] theorem abs_i (i : Int) : absD [.int i] = .ok (.fz (.int (if i < 0 then -i else i))) := rfl
/-! loops -/
theorem forL_inv0 {put : D → Option (List (Nat × D))} {body : Ev → Out} (I : Nat → Ev → Prop) : ∀ (ds : List D) (k : Nat) (env : Ev),
    (∀ i env d, ds[i]? = some d → I (k + i) env → ∃ l env', put d = some l ∧ (body (setL env l) = .nx env' ∨ body (setL env l) = .ct env') ∧ I (k + i + 1) env') → I k env → ∃ env', forL put body ds env = .nx env' ∧ I (k + ds.length) env'
  | [], k, env, _, h => ⟨env, rfl, h⟩
  | d :: ds, k, env, hs, h => by
    obtain ⟨l, env1, h1, h2, h3⟩ := hs 0 env d rfl h
    obtain ⟨env2, h4, h5⟩ := forL_inv0 I ds (k + 1) env1 (fun i env d hd hi => by
      obtain ⟨l, env', q1, q2, q3⟩ := hs (i + 1) env d hd (by rw [show k + (i + 1) = k + 1 + i by omega]; exact hi)
      exact ⟨l, env', q1, q2, by rw [show k + 1 + i + 1 = k + (i + 1) + 1 by omega]; exact q3⟩) h3
    refine ⟨env2, ?_, by rw [show k + (d :: ds).length = k + 1 + ds.length by simp; omega]; exact h5⟩
    unfold forL
    rw [h1]
    dsimp only
    rcases h2 with h2 | h2 <;> rw [h2] <;> exact h4
/-- a for whose every turn goes on -/
theorem forL_inv {put : D → Option (List (Nat × D))} {body : Ev → Out} (I : Nat → Ev → Prop) (ds : List D) (env : Ev)
    (hs : ∀ i env d, ds[i]? = some d → I i env → ∃ l env', put d = some l ∧ (body (setL env l) = .nx env' ∨ body (setL env l) = .ct env') ∧ I (i + 1) env') (h : I 0 env) : ∃ env', forL put body ds env = .nx env' ∧ I ds.length env' := by
  obtain ⟨env', h1, h2⟩ := forL_inv0 I ds 0 env (fun i env d hd hi => by rw [Nat.zero_add] at hi ⊢; exact hs i env d hd hi) h
  exact ⟨env', h1, by rw [Nat.zero_add] at h2; exact h2⟩
def forR (put : D → Option (List (Nat × D))) (body : Ev → Out) (env : Ev) : R (List D) → Out
  | .ok ds => forL put body ds env
  | .ex x => .ex x env
  | .stuck => .stuck
@[simp] theorem sFor_ (put : D → Option (List (Nat × D))) (body : Ev → Out) : sFor put fa body env = forR put body env (fa env) := by unfold sFor forR; cases fa env <;> rfl
@[simp] theorem forR_ok (put : D → Option (List (Nat × D))) (body : Ev → Out) (ds : List D) : forR put body env (.ok ds) = forL put body ds env := rfl
@[simp] theorem forR_ex (put : D → Option (List (Nat × D))) (body : Ev → Out) : forR put body env (.ex x) = .ex x env := rfl
noncomputable def rng1R (ds : List D) : R (List D) := match ds with
  | [.int j] => need (-(2 ^ 62) ≤ j ∧ j < 2 ^ 62) (.ok (rngL 0 j.toNat))
  | _ => .stuck
@[simp] theorem iR1_ : iR1 fa env = R.bind (fa env) rng1R := by unfold iR1 rng1R; rfl
theorem rng1_ (j : Int) (h0 : -(2 ^ 62) ≤ j := by omega) (h1 : j < 2 ^ 62 := by omega) : rng1R [.int j] = .ok (rngL 0 j.toNat) := by
  unfold rng1R
  dsimp only
  rw [need_pos ⟨h0, h1⟩]
theorem rngL_at {lo : Int} {n i : Nat} {d : D} (h : (rngL lo n)[i]? = some d) : i < n ∧ d = .int (lo + (i : Int)) := by
  have hi : i < n := by
    have q := (List.getElem?_eq_some_iff.mp h).1
    rw [rngL_len] at q; exact q
  rw [rngL_get lo n i hi] at h
  cases h
  exact ⟨hi, rfl⟩
@[simp] theorem gN_ (i : Nat) : gN i d = some [(i, d)] := rfl
@[simp] theorem setL_nil : setL env [] = env := rfl
@[simp] theorem setL_cons (i : Nat) (l : List (Nat × D)) : setL env ((i, d) :: l) = setL (env.set i (.fz d)) l := rfl
/-! subscripts -/
def atR : Option D → R Rs
  | some x => .ok (.fz x)
  | none => .stuck
@[simp] theorem ix_l (ds : List D) (i : Int) : ixD (.lst ds) (.int i) = atR (atI ds i) := by unfold ixD atR; rfl
@[simp] theorem ix_t (ds : List D) (i : Int) : ixD (.tup ds) (.int i) = atR (atI ds i) := by unfold ixD atR; rfl
@[simp] theorem atR_some (x : D) : atR (some x) = .ok (.fz x) := rfl
theorem atI_some {α : Type} {ds : List α} {i : Int} {j : Nat} {x : α} (e : i = (j : Int)) (h : ds[j]? = some x) : atI ds i = some x := by rw [e]; exact atI_nat h
/-! equality of small things -/
@[simp] theorem eq_ii (i j : Int) : eqD (.int i) (.int j) = .ok (.fz (.bl (decide (i = j)))) := by
  have e : (i == j) = decide (i = j) := by rw [Bool.eq_iff_iff]; simp
  simp [eqD, D.pl, eqB, D.toPy, PyData.eqv, e]
@[simp] theorem ne_ii (i j : Int) : neD (.int i) (.int j) = .ok (.fz (.bl (!decide (i = j)))) := by
  have e : (i == j) = decide (i = j) := by rw [Bool.eq_iff_iff]; simp
  simp [neD, D.pl, eqB, D.toPy, PyData.eqv, e]
@[simp] theorem eq_bb (i j : Bool) : eqD (.bl i) (.bl j) = .ok (.fz (.bl (i == j))) := by simp [eqD, D.pl, eqB, D.toPy, PyData.eqv]
@[simp] theorem ne_bb (i j : Bool) : neD (.bl i) (.bl j) = .ok (.fz (.bl (!(i == j)))) := by simp [neD, D.pl, eqB, D.toPy, PyData.eqv]
@[simp] theorem need_t {α : Type} {c : Prop} {r : R α} (h : c) : need c r = r := need_pos h
@[simp] theorem mod_ (i j : Int) (h : 0 < j) : modI i j = .ok (.fz (.int (i % j))) := by unfold modI; rw [need_pos h]; rfl
theorem fdiv_ (i j : Int) (h : 0 < j) (h2 : j.natAbs.log2 < 9000) : fdivI i j = .ok (.fz (.int (i / j))) := by unfold fdivI; rw [need_pos ⟨h, h2⟩]; rfl
theorem log2_small {i : Int} {n : Nat} (h : i.natAbs < 2 ^ n) (hn : 0 < n) : i.natAbs.log2 < n := PySem.Flt.log2_lt_of hn h
theorem mul_ (i j : Int) (a b : Nat) (ha : i.natAbs < 2 ^ a) (hb : j.natAbs < 2 ^ b) (h0 : 0 < a := by omega) (h1 : 0 < b := by omega) (h : a + b ≤ 134217728 := by omega) : mulI i j = .ok (.fz (.int (i * j))) := by
  have q : CMulX i j := mulx_ok ha hb h
  unfold mulI; rw [need_pos q]; rfl
/-! the later words -/
@[simp] theorem zOf_ok (k : D → Out) : zOf env (.ok d) k = k d := rfl
@[simp] theorem zOf_ex (k : D → Out) : zOf env (.ex x) k = .ex x env := rfl
@[simp] theorem zOf_if {c : Prop} [Decidable c] (a b : R D) (k : D → Out) : zOf env (if c then a else b) k = if c then zOf env a k else zOf env b k := by split <;> rfl
@[simp] theorem sSetZ_ (i : Nat) : sSetZ i f env = zOf env (fzR (f env)) fun d => .nx (env.set i (.fz d)) := rfl
@[simp] theorem needO_t {c : Prop} {o : Out} (h : c) : needO c o = o := needO_pos h
@[simp] theorem xChain_ (g1 g2 : D → D → R Rs) (fa fb fc : Ev → R Rs) : xChain g1 g2 fa fb fc env = R.bind (fa env) fun r1 => R.bind (fb env) fun r2 => R.bind (R.bind (g1 r1.d r2.d) fun r => asB r.d) fun b =>
  if b = true then R.bind (fc env) fun r3 => g2 r2.d r3.d else .ok (.fz (.bl false)) := rfl
@[simp] theorem xJoin_ : xJoin f h env = R.bind (f env) fun r1 => match r1.d with
  | .str a => R.bind (h env) fun r2 => joinD (.str a) r2.d
  | _ => .stuck := rfl
@[simp] theorem xSl_ (lo hi : Ev → R (Option Int)) : xSl f lo hi env = R.bind (f env) fun r => R.bind (lo env) fun l => R.bind (hi env) fun h => slD r.d l h := rfl
@[simp] theorem oNo_ : oNo env = .ok none := rfl
@[simp] theorem oSome_ : oSome f env = R.bind (f env) fun r => asI r.d := rfl
@[simp] theorem asI_ (i : Int) : asI (.int i) = .ok (some i) := rfl
@[simp] theorem sl_l (ds : List D) (lo hi : Option Int) : slD (.lst ds) lo hi = .ok (.ow (.lst (cutD ds lo hi))) := rfl
@[simp] theorem sl_t (ds : List D) (lo hi : Option Int) : slD (.tup ds) lo hi = .ok (.fz (.tup (cutD ds lo hi))) := rfl
@[simp] theorem sl_s (z : Str) (lo hi : Option Int) : slD (.str z) lo hi = need (z.length ≤ sizeLine) (okS (cutS z lo hi)) := rfl
@[simp] theorem xDnew_ : xDnew env = .ok (.ow (.dic [])) := rfl
@[simp] theorem inD_ : inD d e = R.bind (inB d e) okB := rfl
@[simp] theorem ninD_ : ninD d e = R.bind (inB d e) fun b => okB (!b) := rfl
def appR (ds : List D) (i : Nat) (env : Ev) (d : D) : Out := .nx (env.set i (.ow (.lst (ds ++ [d]))))
noncomputable def appS (env : Ev) (i : Nat) (r : R D) : Option Sl → Out
  | some (.ow (.lst ds)) => zOf env r fun d => needO (ds.length < 16000000) (.nx (env.set i (.ow (.lst (ds ++ [d])))))
  | _ => .stuck
@[simp] theorem sApp_ (i : Nat) : sApp i f env = appS env i (fzR (f env)) env[i]? := by unfold sApp appS; rfl
@[simp] theorem appS_ (i : Nat) (r : R D) (ds : List D) : appS env i r (some (.ow (.lst ds))) = zOf env r fun d => needO (ds.length < 16000000) (.nx (env.set i (.ow (.lst (ds ++ [d]))))) := rfl
@[simp] theorem sPar_ (i j : Nat) : sPar i j fa env = (match fa env with
  | .ok [d, e] => .nx ((env.set i (.fz d)).set j (.fz e))
  | .ex x => .ex x env
  | _ => .stuck) := rfl
@[simp] theorem iAny_ : iAny f env = R.bind (fzR (f env)) rowOf := rfl
@[simp] theorem rowOf_l (ds : List D) : rowOf (.lst ds) = .ok ds := rfl
@[simp] theorem rowOf_t (ds : List D) : rowOf (.tup ds) = .ok ds := rfl
@[simp] theorem rowOf_s (z : Str) : rowOf (.str z) = .ok (signs z) := rfl
@[simp] theorem xYes_ : xYes env = .ok true := rfl
@[simp] theorem xLc_ (put : D → Option (List (Nat × D))) (src : Ev → R (List D)) (vs : List Nat) : xLc put src p f vs env = R.bind (src env) fun ds => need (ds.length < 16000000) (R.bind (lcL put p f ds (wipeE env vs)) fun xs => .ok (.ow (.lst xs))) := rfl
@[simp] theorem wipeE_nil : wipeE env [] = env := rfl
@[simp] theorem wipeE_cons (i : Nat) (vs : List Nat) : wipeE env (i :: vs) = (wipeE env vs).set i .no := rfl
@[simp] theorem max2_ (i j : Int) : max2D [.int i, .int j] = .ok (.fz (.int (if j > i then j else i))) := rfl
@[simp] theorem min2_ (i j : Int) : min2D [.int i, .int j] = .ok (.fz (.int (if j < i then j else i))) := rfl
@[simp] theorem sRaise_ (c : Str) : sRaise c env = .ex ⟨c, none⟩ env := rfl
theorem atI_in {α : Type} {ds : List α} {i : Int} (h0 : 0 ≤ i) (h1 : i < ds.length) : ∃ x, atI ds i = some x ∧ x ∈ ds ∧ ds[i.toNat]? = some x := by
  have hl : i.toNat < ds.length := by omega
  have e : ds[i.toNat]? = some ds[i.toNat] := by simp [hl]
  exact ⟨ds[i.toNat], atI_some (j := i.toNat) (by omega) e, List.getElem_mem hl, e⟩
theorem emod_rng (z k : Int) (h : 0 < k) : 0 ≤ z % k ∧ z % k < k := ⟨Int.emod_nonneg _ (by omega), Int.emod_lt_of_pos _ h⟩
/-- a comprehension, item by item -/
theorem lcL_ok {put : D → Option (List (Nat × D))} (b : D → Bool) (g : D → D) : ∀ (ds : List D) (env : Ev), (∀ d ∈ ds, ∃ l, put d = some l ∧ p (setL env l) = .ok (b d) ∧ (b d = true → fzR (f (setL env l)) = .ok (g d))) → lcL put p f ds env = .ok ((ds.filter b).map g)
  | [], _, _ => rfl
  | d :: ds, env, h => by
    obtain ⟨l, h1, h2, h3⟩ := h d List.mem_cons_self
    have ih := lcL_ok b g ds env fun d' hd => h d' (List.mem_cons_of_mem _ hd)
    unfold lcL
    rw [h1]
    dsimp only
    rw [h2]
    dsimp only
    cases hb : b d with
    | true =>
      rw [if_pos rfl, h3 hb, ih]
      simp [hb]
    | false =>
      rw [if_neg Bool.false_ne_true, ih]
      simp [hb]
/-- .. without a test -/
theorem lcL_map {put : D → Option (List (Nat × D))} (g : D → D) (ds : List D) (env : Ev) (h : ∀ d ∈ ds, ∃ l, put d = some l ∧ p (setL env l) = .ok true ∧ fzR (f (setL env l)) = .ok (g d)) : lcL put p f ds env = .ok (ds.map g) := by
  rw [lcL_ok (fun _ => true) g ds env fun d hd => by
    obtain ⟨l, h1, h2, h3⟩ := h d hd
    exact ⟨l, h1, h2, fun _ => h3⟩]
  rw [List.filter_eq_self.mpr fun _ _ => rfl]
theorem boolsOf_map {α : Type} (g : α → Bool) : ∀ xs : List α, boolsOf (xs.map fun x => D.bl (g x)) = some (xs.map g)
  | [] => rfl
  | x :: xs => by simp [boolsOf, boolsOf_map g xs]
theorem allD_map {α : Type} (g : α → Bool) (xs : List α) : allD [.lst (xs.map fun x => D.bl (g x))] = .ok (.fz (.bl (xs.all g))) := by
  unfold allD
  dsimp only
  rw [boolsOf_map]
  simp [List.all_map, Function.comp_def]
theorem filter_none {α : Type} (p : α → Bool) : ∀ l : List α, (l.filter fun c => !p c).isEmpty = l.all p
  | [] => rfl
  | x :: r => by
    have ih := filter_none p r
    cases h : p x <;> simp [h]
    simpa using ih
theorem join_fold : ∀ (ys : List Str) (acc : Array Nat), (ys.foldl (fun acc p => acc ++ (Str.empty).cps ++ p.cps) acc).toList = acc.toList ++ (ys.map fun y => y.cps.toList).flatten
  | [], acc => by simp
  | y :: ys, acc => by
    rw [List.foldl_cons, join_fold ys]
    simp [Str.empty]
/-- texts joined without a sign between -/
theorem join_none (ys : List Str) : (Txt.join Str.empty ys).cps.toList = (ys.map fun y => y.cps.toList).flatten := by
  show ((ys.drop 1).foldl (fun acc p => acc ++ (Str.empty).cps ++ p.cps) (ys.headD Str.empty).cps).toList = _
  cases ys with
  | nil => simp [Str.empty]
  | cons y ys => rw [List.drop_one, List.tail_cons, join_fold]; simp
theorem str_len (s : Str) : s.cps.toList.length = s.length := by simp [Str.length]
theorem cut_cps (z : Str) (lo hi : Option Int) : (cutS z lo hi).cps.toList = (z.cps.toList.drop (HT.sIx z.length 0 lo)).take (HT.sIx z.length z.length hi - HT.sIx z.length 0 lo) := by simp [cutS]
theorem app_cps (a b : Str) : (a ++ b).cps.toList = a.cps.toList ++ b.cps.toList := by
  show (Str.append a b).cps.toList = _
  simp [Str.append]
theorem strOk_iff (s : Str) : PyData.strOk s = true ↔ ∀ c ∈ s.cps.toList, c < 0x110000 := by
  unfold PyData.strOk
  rw [← Array.all_toList, List.all_eq_true]
  simp
theorem strsOf_map {α : Type} (g : α → Str) : ∀ xs : List α, joinD.strsOf (xs.map fun x => D.str (g x)) = some (xs.map g)
  | [] => rfl
  | x :: xs => by simp [joinD.strsOf, strsOf_map g xs]
end
end PL

set_option Elab.async false
set_option linter.all false
set_option maxRecDepth 100000
set_option maxHeartbeats 4000000
/-! PURE LAYER, fractions in lowest terms: plain numbers. -/
namespace PL
open PySem PySem.Spec PyProof.Rows L2
def nf (a b : Int) : D := .tup [.int (a / Int.gcd a b), .int (b / Int.gcd a b)]
theorem gcd_posR (a b : Int) (hb : 0 < b) : 0 < Int.gcd a b := by
  rcases Nat.eq_zero_or_pos (Int.gcd a b) with h | h
  · rw [Int.gcd_eq_zero_iff] at h
    omega
  · exact h
theorem nf_ok (a b : Int) (hb : 0 < b) : ∃ p q : Int, nf a b = .tup [.int p, .int q] ∧ 0 < q ∧ Int.gcd p q = 1 ∧ p * b = a * q ∧ p.natAbs ≤ a.natAbs ∧ q ≤ b := by
  have g := gcd_posR a b hb
  have h1 : a / (Int.gcd a b : Int) * (Int.gcd a b : Int) = a := Int.ediv_mul_cancel (Int.gcd_dvd_left ..)
  have h2 : b / (Int.gcd a b : Int) * (Int.gcd a b : Int) = b := Int.ediv_mul_cancel (Int.gcd_dvd_right ..)
  have h3 := Int.gcd_ediv_gcd_ediv_gcd g
  refine ⟨_, _, rfl, ?_, h3, ?_, ?_, ?_⟩
  · refine Int.pos_of_mul_pos_left (b := (Int.gcd a b : Int)) ?_ (by omega)
    rw [h2]; exact hb
  · generalize (Int.gcd a b : Int) = gg at *
    generalize a / gg = x at *
    generalize b / gg = y at *
    rw [← h1, ← h2]
    simp only [Int.mul_assoc, Int.mul_comm, Int.mul_left_comm]
  · generalize (Int.gcd a b) = gg at *
    have : a.natAbs = (a / (gg : Int)).natAbs * gg := by
      have e := congrArg Int.natAbs h1
      rw [Int.natAbs_mul, Int.natAbs_natCast] at e
      exact e.symm
    rw [this]
    exact Nat.le_mul_of_pos_right _ g
  · exact Int.ediv_le_self _ (by omega)
theorem nf_uniq {p q a b : Int} (hb : 0 < b) (hq : 0 < q) (hg : Int.gcd p q = 1) (hc : p * b = a * q) : nf a b = .tup [.int p, .int q] := by
  obtain ⟨r, s, h1, h2, h3, h4, _, _⟩ := nf_ok a b hb
  rw [h1]
  have e : p * s = r * q := by
    have e1 : (p * s) * b = (r * q) * b := by
      calc (p * s) * b = (p * b) * s := by simp only [Int.mul_assoc, Int.mul_comm, Int.mul_left_comm]
        _ = (a * q) * s := by rw [hc]
        _ = (a * s) * q := by simp only [Int.mul_assoc, Int.mul_comm, Int.mul_left_comm]
        _ = (r * b) * q := by rw [h4]
        _ = (r * q) * b := by simp only [Int.mul_assoc, Int.mul_comm, Int.mul_left_comm]
    exact Int.eq_of_mul_eq_mul_right (by omega) e1
  have d1 : q.natAbs ∣ s.natAbs := by
    refine Nat.Coprime.dvd_of_dvd_mul_left (k := q.natAbs) (m := p.natAbs) (n := s.natAbs) ?_ ?_
    · have : Nat.gcd q.natAbs p.natAbs = 1 := by rw [Nat.gcd_comm]; exact hg
      exact this
    · rw [← Int.natAbs_mul, e, Int.natAbs_mul]
      exact Nat.dvd_mul_left _ _
  have d2 : s.natAbs ∣ q.natAbs := by
    refine Nat.Coprime.dvd_of_dvd_mul_left (k := s.natAbs) (m := r.natAbs) (n := q.natAbs) ?_ ?_
    · have : Nat.gcd s.natAbs r.natAbs = 1 := by rw [Nat.gcd_comm]; exact h3
      exact this
    · rw [← Int.natAbs_mul, ← e, Int.natAbs_mul]
      exact Nat.dvd_mul_left _ _
  have e2 : q.natAbs = s.natAbs := Nat.dvd_antisymm d1 d2
  have e3 : q = s := by omega
  subst e3
  have e4 : p = r := Int.eq_of_mul_eq_mul_right (by omega) e
  rw [e4]
theorem nf_eq {a b c d : Int} (hb : 0 < b) (hd : 0 < d) (h : a * d = c * b) : nf a b = nf c d := by
  obtain ⟨p, q, h1, h2, h3, h4, _, _⟩ := nf_ok c d hd
  rw [h1]
  refine nf_uniq hb h2 h3 (Int.eq_of_mul_eq_mul_right (a := d) (by omega) ?_)
  calc p * b * d = (p * d) * b := by simp only [Int.mul_assoc, Int.mul_comm, Int.mul_left_comm]
    _ = (c * q) * b := by rw [h4]
    _ = (c * b) * q := by simp only [Int.mul_assoc, Int.mul_comm, Int.mul_left_comm]
    _ = (a * d) * q := by rw [h]
    _ = a * q * d := by simp only [Int.mul_assoc, Int.mul_comm, Int.mul_left_comm]
theorem nf_inj {a b c d : Int} (hb : 0 < b) (hd : 0 < d) (h : nf a b = nf c d) : a * d = c * b := by
  obtain ⟨p, q, h1, h2, h3, h4, _, _⟩ := nf_ok c d hd
  obtain ⟨p', q', h1', h2', h3', h4', _, _⟩ := nf_ok a b hb
  rw [h1, h1'] at h
  cases h
  refine Int.eq_of_mul_eq_mul_right (a := q) (by omega) ?_
  calc a * d * q = (a * q) * d := by simp only [Int.mul_assoc, Int.mul_comm, Int.mul_left_comm]
    _ = (p * b) * d := by rw [h4']
    _ = (p * d) * b := by simp only [Int.mul_assoc, Int.mul_comm, Int.mul_left_comm]
    _ = (c * q) * b := by rw [h4]
    _ = c * b * q := by simp only [Int.mul_assoc, Int.mul_comm, Int.mul_left_comm]
/-! equality of numbers' pairs and of rows -/
@[simp] theorem pl_pair (p q : Int) (n : Nat) : D.pl (n + 1) (.tup [.int p, .int q]) = true := by simp [D.pl, D.plA]
theorem eqB_pair (p q r s : Int) : eqB (.tup [.int p, .int q]) (.tup [.int r, .int s]) = (p == r && q == s) := by
  simp [eqB, D.toPy, D.toPyA, PyData.eqv, PyData.eqvAll]
mutual
theorem eqv_refl : ∀ d : D, D.pl 60 d = true ∨ (∃ n, D.pl n d = true) → eqB d d = true
  | .non, _ => by simp [eqB, D.toPy, PyData.eqv]
  | .bl _, _ => by simp [eqB, D.toPy, PyData.eqv]
  | .int _, _ => by simp [eqB, D.toPy, PyData.eqv]
  | .str _, _ => by simp [eqB, D.toPy, PyData.eqv]
  | .lst xs, h => by
    have h' : ∃ n, D.plA n xs = true := by
      rcases h with h | ⟨n, h⟩
      · exact ⟨59, by simpa [D.pl] using h⟩
      · cases n with
        | zero => simp [D.pl] at h
        | succ n => exact ⟨n, by simpa [D.pl] using h⟩
    have := eqv_reflA xs h'
    simpa [eqB, D.toPy, PyData.eqv] using this
  | .tup xs, h => by
    have h' : ∃ n, D.plA n xs = true := by
      rcases h with h | ⟨n, h⟩
      · exact ⟨59, by simpa [D.pl] using h⟩
      · cases n with
        | zero => simp [D.pl] at h
        | succ n => exact ⟨n, by simpa [D.pl] using h⟩
    have := eqv_reflA xs h'
    simpa [eqB, D.toPy, PyData.eqv] using this
  | .dic _, h => by
    rcases h with h | ⟨n, h⟩
    · simp [D.pl] at h
    · cases n <;> simp [D.pl] at h
  | .obj _ _, h => by
    rcases h with h | ⟨n, h⟩
    · simp [D.pl] at h
    · cases n <;> simp [D.pl] at h
  | .exc _, h => by
    rcases h with h | ⟨n, h⟩
    · simp [D.pl] at h
    · cases n <;> simp [D.pl] at h
theorem eqv_reflA : ∀ ds : List D, (∃ n, D.plA n ds = true) → PyData.eqvAll (D.toPyA ds) (D.toPyA ds) = true
  | [], _ => by simp [D.toPyA, PyData.eqvAll]
  | x :: xs, ⟨n, h⟩ => by
    simp only [D.plA, Bool.and_eq_true] at h
    have h1 := eqv_refl x (.inr ⟨n, h.1⟩)
    have h2 := eqv_reflA xs ⟨n, h.2⟩
    simp only [D.toPyA, PyData.eqvAll, Bool.and_eq_true]
    exact ⟨h1, h2⟩
end
theorem eq_self {d : D} (h : D.pl 60 d = true) : eqD d d = .ok (.fz (.bl true)) := by
  unfold eqD
  rw [h, eqv_refl d (.inl h)]
  rfl
theorem ne_self {d : D} (h : D.pl 60 d = true) : neD d d = .ok (.fz (.bl false)) := by
  unfold neD
  rw [h, eqv_refl d (.inl h)]
  rfl
theorem plA_all {n : Nat} : ∀ {ds : List D}, (∀ d ∈ ds, D.pl n d = true) → D.plA n ds = true
  | [], _ => by simp [D.plA]
  | d :: ds, h => by
    simp only [D.plA, Bool.and_eq_true]
    exact ⟨h d List.mem_cons_self, plA_all fun x hx => h x (List.mem_cons_of_mem _ hx)⟩
theorem ofString_ok (z : String) : PyData.strOk (Str.ofString z) = true := by
  rw [strOk_iff]
  intro c hc
  have : c ∈ (z.toList.map Char.toNat) := by
    rw [← cpsOfBytes_string]
    simpa [Str.ofString] using hc
  obtain ⟨ch, _, rfl⟩ := List.mem_map.mp this
  have := ch.valid
  unfold Char.toNat UInt32.isValidChar Nat.isValidChar at *
  omega
theorem app_ok {a b : Str} (ha : PyData.strOk a = true) (hb : PyData.strOk b = true) : PyData.strOk (a ++ b) = true := by
  rw [strOk_iff] at *
  intro c hc
  rw [app_cps] at hc
  rcases List.mem_append.mp hc with h | h
  · exact ha c h
  · exact hb c h
theorem app_empty (a : Str) : Str.empty ++ a = a := by
  have : (Str.empty ++ a).cps.toList = a.cps.toList := by rw [app_cps]; simp [Str.empty]
  cases a
  cases h : (Str.empty ++ _ : Str)
  rw [h] at this
  congr 1
  exact Array.toList_inj.mp this
/-! what list(..), tuple(..) .. say -/
@[simp] theorem list_l (ds : List D) : listD [.lst ds] = .ok (.ow (.lst ds)) := rfl
@[simp] theorem list_t (ds : List D) : listD [.tup ds] = .ok (.ow (.lst ds)) := rfl
@[simp] theorem tuple_l (ds : List D) : tupleD [.lst ds] = .ok (.fz (.tup ds)) := rfl
@[simp] theorem tuple_t (ds : List D) : tupleD [.tup ds] = .ok (.fz (.tup ds)) := rfl
theorem str_i (i : Int) (h : i.natAbs.log2 < 1920) : strD [.int i] = .ok (.fz (.str (toString i))) := by
  unfold strD
  dsimp only
  rw [need_pos h]
  rfl
theorem intsOf_map {α : Type} (g : α → Int) : ∀ xs : List α, intsOf (xs.map fun x => D.int (g x)) = some (xs.map g)
  | [] => rfl
  | x :: xs => by simp [intsOf, intsOf_map g xs]
theorem sum_map {α : Type} (g : α → Int) (xs : List α) : sumD [.lst (xs.map fun x => D.int (g x))] = .ok (.fz (.int (xs.map g).sum)) := by
  unfold sumD
  dsimp only
  rw [intsOf_map]
  rfl
@[simp] theorem isB_bb (x y : Bool) : isBD (.bl x) (.bl y) = .ok (.fz (.bl (decide (x = y)))) := rfl
@[simp] theorem notB_bb (x y : Bool) : notBD (.bl x) (.bl y) = .ok (.fz (.bl (!decide (x = y)))) := rfl
@[simp] theorem jNil_ (acc : Str) (env : Ev) : jNil acc env = .ok (.fz (.str acc)) := rfl
@[simp] theorem jCons_ (f : Ev → R Rs) (j : Str → Ev → R Rs) (acc : Str) (env : Ev) : jCons f j acc env = R.bind (f env) fun r => match r.d with
  | .str y => need ((acc ++ y).length ≤ sizeLine) (j (acc ++ y) env)
  | _ => .stuck := rfl
@[simp] theorem xFmt_ (f : Ev → R Rs) (env : Ev) : xFmt f env = R.bind (f env) fun r => R.bind (fmtD r.d) okS := rfl
theorem fmt_i (i : Int) (h : i.natAbs.log2 < 1920) : fmtD (.int i) = .ok (toString i : Str) := by
  unfold fmtD
  dsimp only
  rw [need_pos h]
theorem lcL_mapA {α : Type} {put : D → Option (List (Nat × D))} {p : Ev → R Bool} {f : Ev → R Rs} (u v : α → D) : ∀ (xs : List α) (env : Ev), (∀ x ∈ xs, ∃ l, put (u x) = some l ∧ p (setL env l) = .ok true ∧ fzR (f (setL env l)) = .ok (v x)) → lcL put p f (xs.map u) env = .ok (xs.map v)
  | [], _, _ => rfl
  | x :: xs, env, h => by
    obtain ⟨l, h1, h2, h3⟩ := h x List.mem_cons_self
    have ih := lcL_mapA u v xs env fun d' hd => h d' (List.mem_cons_of_mem _ hd)
    rw [List.map_cons]
    unfold lcL
    rw [h1]
    dsimp only
    rw [h2]
    dsimp only
    rw [if_pos rfl, h3, ih]
    rfl
theorem sum_rng {M : Int} (hM : 0 ≤ M) : ∀ {xs : List Int}, (∀ x ∈ xs, 0 ≤ x ∧ x ≤ M) → 0 ≤ xs.sum ∧ xs.sum ≤ xs.length * M
  | [], _ => by simp
  | x :: xs, h => by
    have h1 := h x List.mem_cons_self
    have h2 := sum_rng hM (xs := xs) fun y hy => h y (List.mem_cons_of_mem _ hy)
    rw [List.sum_cons, List.length_cons]
    have e : ((xs.length + 1 : Nat) : Int) * M = xs.length * M + M := by
      rw [Int.natCast_add, Int.add_mul]; simp
    rw [e]
    omega
end PL

set_option Elab.async false
set_option linter.all false
set_option maxRecDepth 100000
set_option maxHeartbeats 4000000
/-! PURE LAYER, plain texts: partition and split by one sign, figures. -/
namespace PL
open PySem PySem.Spec PyProof.Rows L2
theorem str_ext {a b : Str} (h : a.cps.toList = b.cps.toList) : a = b := by
  cases a; cases b
  congr 1
  exact Array.toList_inj.mp h
def sg (c : Nat) : Str := ⟨#[c]⟩
theorem sg_list (c : Nat) : (sg c).cps.toList = [c] := rfl
/-- no sign: the whole -/
theorem part_none {x : Str} {c : Nat} (h : c ∉ x.cps.toList) : Txt.partition x (sg c) = (x, Str.empty, Str.empty) := by
  unfold Txt.partition
  rcases StrLaws.occ_head x (sg c) 1 (Nat.le_refl 1) with ⟨h0, hn⟩ | ⟨i, r, h0, hi, hn⟩
  · rw [h0]
  · exact absurd (List.mem_of_getElem? ((StrLaws.subAt_one x c i).mp hi)) h
/-- cut at the first sign -/
theorem part_some {x : Str} {c : Nat} (h : c ∈ x.cps.toList) : ∃ a b : Str, Txt.partition x (sg c) = (a, sg c, b) ∧ a ++ sg c ++ b = x ∧ c ∉ a.cps.toList := by
  have hs := PySem.StrLaws.partition_sum x (sg c)
  unfold Txt.partition at hs ⊢
  rcases StrLaws.occ_head x (sg c) 1 (Nat.le_refl 1) with ⟨h0, hn⟩ | ⟨i, r, h0, hi, hn⟩
  · exfalso
    obtain ⟨j, hj⟩ := List.getElem?_of_mem h
    exact hn j ((StrLaws.subAt_one x c j).mpr hj)
  · rw [h0] at hs ⊢
    refine ⟨_, _, rfl, hs, fun hm => ?_⟩
    obtain ⟨j, hj⟩ := List.getElem?_of_mem hm
    have e : (Builtin.Str.strSub x 0 i).cps.toList = (x.cps.toList.drop 0).take (i - 0) := by
      simp [Builtin.Str.strSub]
    rw [e, List.drop_zero, Nat.sub_zero] at hj
    have hji : j < i := by
      rw [List.getElem?_take] at hj
      split at hj
      · assumption
      · cases hj
    rw [List.getElem?_take, if_pos hji] at hj
    exact hn j hji ((StrLaws.subAt_one x c j).mpr hj)
/-- how often a sign stands -/
theorem cnt_count (c : Nat) : ∀ l : List Nat, cnt c l = (l.count c : Nat)
  | [] => rfl
  | n :: r => by
    rw [cnt_cons, cnt_count c r, List.count_cons]
    by_cases h : n = c
    · simp [h]; omega
    · simp [h]
theorem split_count (x : Str) (c : Nat) : (Txt.split x (sg c)).length = 1 + x.cps.toList.count c := by
  have h := split_len x c
  rw [cnt_count] at h
  have : ((Txt.split x (sg c)).length : Int) = 1 + (x.cps.toList.count c : Nat) := h
  omega
theorem split_none {x : Str} {c : Nat} (h : c ∉ x.cps.toList) : Txt.split x (sg c) = [x] := by
  have hl := split_count x c
  rw [List.count_eq_zero.mpr h] at hl
  have hj := StrLaws.join_split x (sg c)
  match hs : Txt.split x (sg c), hl with
  | [y], _ =>
    rw [hs] at hj
    have : y = x := hj
    rw [this]
theorem split_one {x : Str} {c : Nat} (h : x.cps.toList.count c = 1) : ∃ a b : Str, Txt.split x (sg c) = [a, b] ∧ a ++ sg c ++ b = x ∧ c ∉ a.cps.toList ∧ c ∉ b.cps.toList := by
  have hl := split_count x c
  rw [h] at hl
  have hj := StrLaws.join_split x (sg c)
  match hs : Txt.split x (sg c), hl with
  | [a, b], _ =>
    rw [hs] at hj
    have e : a ++ sg c ++ b = x := hj
    refine ⟨a, b, rfl, e, ?_⟩
    rw [← e, app_cps, app_cps, sg_list, List.count_append, List.count_append, List.count_singleton_self] at h
    exact ⟨fun m => by have := List.count_pos_iff.mpr m; omega, fun m => by have := List.count_pos_iff.mpr m; omega⟩
end PL

set_option Elab.async false
set_option linter.all false
set_option maxRecDepth 100000
set_option maxHeartbeats 8000000
namespace Cy
open PySem PySem.Spec PyProof.Rows L2 PL
def top (i : Nat) : Stmt := PySem.Challenge.pw_clockyard_k02_time_texts.main.body.getD i (.Pass ⟨0, 0, 0, 0⟩)
def c_FIGURES : D := (.str "0123456789")
def tx_YardError : Str → Option Bool := tabOf [("YardError", true), ("NoTime", true), ("NoMachine", true), ("NoPlace", true), ("NoRow", true), ("TooMany", true)]
def ix_NoMachine_NoPlace_NoRow_TooMany : Str → Option Bool := tabOf [("YardError", false), ("NoTime", false), ("NoMachine", true), ("NoPlace", true), ("NoRow", true), ("TooMany", true)]
def ix_NoTime : Str → Option Bool := tabOf [("YardError", false), ("NoTime", true), ("NoMachine", false), ("NoPlace", false), ("NoRow", false), ("TooMany", false)]
def ix_ValueError : Str → Option Bool := tabOf [("YardError", true), ("NoTime", true), ("NoMachine", true), ("NoPlace", true), ("NoRow", true), ("TooMany", true)]
abbrev s__law_next : Stmt := top 17
abbrev s__law_mixed : Stmt := top 18
abbrev s__law_top : Stmt := top 19
abbrev s__law_bottom : Stmt := top 20
abbrev s_common : Stmt := top 9
abbrev s_time_of : Stmt := top 10
abbrev s_is_figures : Stmt := top 12
abbrev s_time_text : Stmt := top 11
abbrev s_read_time : Stmt := top 13
abbrev s__law_read : Stmt := top 25
abbrev s__law_whole : Stmt := top 15
abbrev s__law_is : Stmt := top 16
abbrev s__law_odd : Stmt := top 23
abbrev s__law_spoilt : Stmt := top 24
abbrev s__law_number : Stmt := top 21
abbrev s__law_due : Stmt := top 22
abbrev s_law : Stmt := top 26
/-- _law_next (0 _law_more, 1 _law_cell, 2 _law_k) -/
noncomputable def g__law_next : Ev → Out :=
(sRet (xBin modD (xBin addD (xBin modD (xBin addD (xBin addD (xBin mulD (xVar 0) (xC (.int 48271))) (xVar 1)) (xVar 2)) (xC (.int 2147483647))) (xC (.int 1))) (xC (.int 2147483647))))
noncomputable def m__law_next : List D → R Rs := runB 3 g__law_next
/-- _law_mixed (0 _law_more) -/
noncomputable def g__law_mixed : Ev → Out :=
(sRet (xBin modD (xBin addD (xBin mulD (xVar 0) (xVar 0)) (xBin mulD (xC (.int 16807)) (xVar 0))) (xC (.int 2147483629))))
noncomputable def m__law_mixed : List D → R Rs := runB 1 g__law_mixed
/-- _law_top (0 _law_more, 1 _law_cell, 2 _law_mixed_here, 3 _law_way) -/
noncomputable def g__law_top : Ev → Out :=
(sSeq (sSetZ 2 (xCall 1 m__law_mixed [] (xCons (xVar 0) xNil)))
(sSeq (sSetZ 3 (xBin modD (xVar 2) (xC (.int 5))))
(sSeq (sIf (xB (xBin eqD (xVar 3) (xC (.int 0))))
(sRet (xBin subD (xBin modD (xBin fdivD (xVar 2) (xC (.int 5))) (xC (.int 7))) (xC (.int 3))))
sNext)
(sSeq (sIf (xB (xBin eqD (xVar 3) (xC (.int 1))))
(sRet (xBin mulD (xBin modD (xVar 1) (xBin powD (xC (.int 10)) (xC (.int 28)))) (xBin subD (xC (.int 1)) (xBin mulD (xC (.int 2)) (xBin modD (xBin fdivD (xVar 2) (xC (.int 5))) (xC (.int 2)))))))
sNext)
(sSeq (sIf (xB (xBin eqD (xVar 3) (xC (.int 2))))
(sRet (xBin modD (xBin mulD (xBin addD (xVar 1) (xVar 2)) (xVar 2)) (xBin powD (xC (.int 10)) (xC (.int 28)))))
sNext)
(sRet (xBin subD (xBin modD (xBin fdivD (xVar 2) (xC (.int 5))) (xC (.int 2001))) (xC (.int 1000)))))))))
noncomputable def m__law_top : List D → R Rs := runB 4 g__law_top
/-- _law_bottom (0 _law_more, 1 _law_cell, 2 _law_mixed_here, 3 _law_way) -/
noncomputable def g__law_bottom : Ev → Out :=
(sSeq (sSetZ 2 (xCall 1 m__law_mixed [] (xCons (xBin addD (xVar 0) (xC (.int 77))) xNil)))
(sSeq (sSetZ 3 (xBin modD (xVar 2) (xC (.int 5))))
(sSeq (sIf (xB (xBin eqD (xVar 3) (xC (.int 0))))
(sRet (xC (.int 1)))
sNext)
(sSeq (sIf (xB (xBin eqD (xVar 3) (xC (.int 1))))
(sRet (xBin addD (xC (.int 1)) (xBin modD (xVar 1) (xBin powD (xC (.int 10)) (xC (.int 28))))))
sNext)
(sSeq (sIf (xB (xBin eqD (xVar 3) (xC (.int 2))))
(sRet (xBin addD (xC (.int 1)) (xBin modD (xBin mulD (xBin addD (xVar 1) (xBin mulD (xC (.int 3)) (xVar 2))) (xVar 2)) (xBin powD (xC (.int 10)) (xC (.int 28))))))
sNext)
(sRet (xBin addD (xC (.int 1)) (xBin modD (xBin fdivD (xVar 2) (xC (.int 5))) (xBin ixD (xLst (xCons (xC (.int 12)) (xCons (xC (.int 1000)) xNil))) (xBin modD (xVar 3) (xC (.int 2))))))))))))
noncomputable def m__law_bottom : List D → R Rs := runB 4 g__law_bottom
/-- common (0 one, 1 other) -/
noncomputable def b_common_0 : Ev → Out :=
(sPar 0 1 (xCons (xVar 1) (xCons (xBin modD (xVar 0) (xVar 1)) xNil)))
noncomputable def c_common_1 : Ev → R Bool :=
(xB (xBin gtI (xVar 1) (xC (.int 0))))
noncomputable def g_common : Ev → Out :=
(sSeq (sWh c_common_1
b_common_0)
(sRetV 0))
noncomputable def m_common : List D → R Rs := runB 2 g_common
/-- time_of (0 top, 1 bottom, 2 divisor) -/
noncomputable def g_time_of : Ev → Out :=
(sSeq (sIf (xB (xBin eqD (xVar 1) (xC (.int 0))))
(sRaise "NoTime")
sNext)
(sSeq (sIf (xB (xBin ltI (xVar 1) (xC (.int 0))))
(sPar 0 1 (xCons (xUn negD (xVar 0)) (xCons (xUn negD (xVar 1)) xNil)))
sNext)
(sSeq (sSetZ 2 (xCall 2 m_common [] (xCons (xBlt absD (xConsR (xVar 0) xNil)) (xCons (xVar 1) xNil))))
(sRet (xTup (xCons (xBin fdivD (xVar 0) (xVar 2)) (xCons (xBin fdivD (xVar 1) (xVar 2)) xNil)))))))
noncomputable def m_time_of : List D → R Rs := runB 3 g_time_of
/-- is_figures (0 text, 1 sign) -/
noncomputable def e_is_figures_0 : Ev → R Rs :=
(xBin inD (xVar 1) (xC c_FIGURES))
noncomputable def g_is_figures : Ev → Out :=
(sSeq (sIf (xOr (xB (xBin eqD (xVar 0) (xC (.str "")))) (xAnd (xB (xM1 startsD (xVar 0) (xC (.str "0")))) (xB (xBin neD (xVar 0) (xC (.str "0"))))))
(sRet (xC (.bl false)))
sNext)
(sRet (xBlt allD (xConsR (xLc (gN 1) (iAny (xVar 0)) xYes e_is_figures_0 [1]) xNil))))
noncomputable def m_is_figures : List D → R Rs := runB 2 g_is_figures
/-- time_text (0 one, 1 top, 2 bottom) -/
noncomputable def g_time_text : Ev → Out :=
(sSeq (sAsg (gT 2 (gCons' (gN 1) (gCons' (gN 2) gNil'))) (xVar 0))
(sSeq (sIf (xB (xBin eqD (xVar 2) (xC (.int 1))))
(sRet (xBlt strD (xConsR (xVar 1) xNil)))
sNext)
(sRet ((jCons (xFmt (xVar 1)) (jCons (xC (.str "/")) (jCons (xFmt (xVar 2)) jNil))) Str.empty))))
noncomputable def m_time_text : List D → R Rs := runB 3 g_time_text
/-- read_time (0 text, 1 figures, 2 found, 3 top, 4 sign, 5 bottom) -/
noncomputable def g_read_time : Ev → Out :=
(sSeq (sAsg (gT 3 (gCons' (gN 3) (gCons' (gN 4) (gCons' (gN 5) gNil')))) (xM1 partD (xVar 0) (xC (.str "/"))))
(sSeq (sSetZ 1 (xVar 3))
(sSeq (sIf (xB (xM1 startsD (xVar 3) (xC (.str "-"))))
(sSetZ 1 (xSl (xVar 3) (oSome (xC (.int 1))) oNo))
sNext)
(sSeq (sIf (xB (xBin eqD (xVar 4) (xC (.str ""))))
(sSetZ 5 (xC (.str "1")))
sNext)
(sSeq (sIf (xOr (xNot (xB (xCall 1 m_is_figures [] (xCons (xVar 1) xNil)))) (xNot (xB (xCall 1 m_is_figures [] (xCons (xVar 5) xNil)))))
(sRaise "NoTime")
sNext)
(sSeq (sSetZ 2 (xCall 2 m_time_of [] (xCons (xBlt intD (xConsR (xVar 3) xNil)) (xCons (xBlt intD (xConsR (xVar 5) xNil)) xNil))))
(sSeq (sIf (xB (xBin neD (xCall 1 m_time_text [] (xCons (xVar 2) xNil)) (xVar 0)))
(sRaise "NoTime")
sNext)
(sRetV 2))))))))
noncomputable def m_read_time : List D → R Rs := runB 6 g_read_time
/-- _law_read (0 _law_text, 1 _law_found, 2 _law_error, 3 e) -/
noncomputable def b__law_read_0 : Ev → Out :=
(sSetZ 1 (xCall 1 m_read_time [] (xCons (xVar 0) xNil)))
noncomputable def g__law_read : Ev → Out :=
(sSeq (sSetZ 1 (xC .non))
(sSeq (sSetZ 2 (xC .non))
(sSeq (sTry tx_YardError 3 2 b__law_read_0)
(sSeq (sIf (xB (xUn isND (xVar 2)))
(sRetV 1)
sNext)
(sSeq (sIf (xOr (xNot (xB (xUn (isX ix_NoTime) (xVar 2)))) (xNot (xB (xUn (isX ix_ValueError) (xVar 2)))))
(sRet (xC (.str "other")))
sNext)
(sSeq (sIf (xB (xUn (isX ix_NoMachine_NoPlace_NoRow_TooMany) (xVar 2)))
(sRet (xC (.str "other")))
sNext)
(sRet (xC .non))))))))
noncomputable def m__law_read : List D → R Rs := runB 4 g__law_read
/-- _law_whole (0 _law_thing) -/
noncomputable def g__law_whole : Ev → Out :=
(sRet (xAndV (xUn (isiD "int") (xVar 0)) (xNotV (xUn (isiD "bool") (xVar 0)))))
noncomputable def m__law_whole : List D → R Rs := runB 1 g__law_whole
/-- _law_is (0 _law_found, 1 _law_top_here, 2 _law_bottom_here, 3 _law_one, 4 _law_other) -/
noncomputable def b__law_is_0 : Ev → Out :=
(sPar 3 4 (xCons (xVar 4) (xCons (xBin modD (xVar 3) (xVar 4)) xNil)))
noncomputable def c__law_is_1 : Ev → R Bool :=
(xB (xBin gtI (xVar 4) (xC (.int 0))))
noncomputable def g__law_is : Ev → Out :=
(sSeq (sIf (xOr (xNot (xB (xUn (isiD "tuple") (xVar 0)))) (xOr (xB (xBin neD (xBlt lenD (xConsR (xVar 0) xNil)) (xC (.int 2)))) (xOr (xNot (xB (xCall 1 m__law_whole [] (xCons (xBin ixD (xVar 0) (xC (.int 0))) xNil)))) (xNot (xB (xCall 1 m__law_whole [] (xCons (xBin ixD (xVar 0) (xC (.int 1))) xNil)))))))
(sRet (xC (.bl false)))
sNext)
(sSeq (sSetZ 3 (xBlt absD (xConsR (xBin ixD (xVar 0) (xC (.int 0))) xNil)))
(sSeq (sSetZ 4 (xBin ixD (xVar 0) (xC (.int 1))))
(sSeq (sWh c__law_is_1
b__law_is_0)
(sRet (xAndV (xBin gtI (xBin ixD (xVar 0) (xC (.int 1))) (xC (.int 0))) (xAndV (xBin eqD (xVar 3) (xC (.int 1))) (xBin eqD (xBin mulD (xBin ixD (xVar 0) (xC (.int 0))) (xVar 2)) (xBin mulD (xVar 1) (xBin ixD (xVar 0) (xC (.int 1))))))))))))
noncomputable def m__law_is : List D → R Rs := runB 5 g__law_is
/-- _law_odd (0 _law_number_here, 1 _law_some) -/
noncomputable def g__law_odd : Ev → Out :=
(sSeq (sSetZ 1 (xLst (xCons (xC (.str "")) (xCons (xC (.str "-")) (xCons (xC (.str "/")) (xCons (xC (.str "-0")) (xCons (xC (.str "0/1")) (xCons (xC (.str "0/7")) (xCons (xC (.str "1/1")) (xCons (xC (.str "2/4")) (xCons (xC (.str "1/0")) (xCons (xC (.str "-/2")) (xCons (xC (.str "1/")) (xCons (xC (.str "/2")) xNil))))))))))))))
(sSeq (sSetZ 1 (xBin addD (xVar 1) (xLst (xCons (xC (.str "1/-2")) (xCons (xC (.str "--1")) (xCons (xC (.str "+1")) (xCons (xC (.str "1 /2")) (xCons (xC (.str "1/2/3")) (xCons (xC (.str "01")) (xCons (xC (.str "1/02")) (xCons (xC (.str " 1")) (xCons (xC (.str "1 ")) (xCons (xC (.str "x")) (xCons (xC (.str "1.5")) (xCons (xC (.str "-0/3")) xNil)))))))))))))))
(sRet (xBin ixD (xVar 1) (xBin modD (xVar 0) (xC (.int 24)))))))
noncomputable def m__law_odd : List D → R Rs := runB 2 g__law_odd
/-- _law_spoilt (0 _law_text, 1 _law_top_here, 2 _law_bottom_here, 3 _law_number_here, 4 _law_way, 5 _law_at, 6 _law_sign, 7 _law_by) -/
noncomputable def g__law_spoilt : Ev → Out :=
(sSeq (sSetZ 4 (xBin modD (xVar 3) (xC (.int 12))))
(sSeq (sSetZ 5 (xBin modD (xBin fdivD (xVar 3) (xC (.int 12))) (xBin addD (xBlt lenD (xConsR (xVar 0) xNil)) (xC (.int 1)))))
(sSeq (sSetZ 6 (xBin ixD (xC (.str "0+- /x.9")) (xBin modD (xBin fdivD (xVar 3) (xC (.int 300))) (xC (.int 8)))))
(sSeq (sSetZ 7 (xBin addD (xC (.int 2)) (xBin modD (xBin fdivD (xVar 3) (xC (.int 300))) (xC (.int 5)))))
(sSeq (sIf (xB (xBin eqD (xVar 4) (xC (.int 0))))
(sRet (xBin addD (xBin addD (xSl (xVar 0) oNo (oSome (xVar 5))) (xVar 6)) (xSl (xVar 0) (oSome (xVar 5)) oNo)))
sNext)
(sSeq (sIf (xB (xBin eqD (xVar 4) (xC (.int 1))))
(sRet (xBin addD (xBin addD (xSl (xVar 0) oNo (oSome (xVar 5))) (xVar 6)) (xSl (xVar 0) (oSome (xBin addD (xVar 5) (xC (.int 1)))) oNo)))
sNext)
(sSeq (sIf (xB (xBin eqD (xVar 4) (xC (.int 2))))
(sRet (xBin addD (xSl (xVar 0) oNo (oSome (xVar 5))) (xSl (xVar 0) (oSome (xBin addD (xVar 5) (xC (.int 1)))) oNo)))
sNext)
(sSeq (sIf (xB (xBin eqD (xVar 4) (xC (.int 3))))
(sRet (xBin addD (xBin addD (xBlt strD (xConsR (xBin mulD (xVar 1) (xVar 7)) xNil)) (xC (.str "/"))) (xBlt strD (xConsR (xBin mulD (xVar 2) (xVar 7)) xNil))))
sNext)
(sSeq (sIf (xB (xBin eqD (xVar 4) (xC (.int 4))))
(sRet (xBin addD (xBin addD (xBlt strD (xConsR (xVar 1) xNil)) (xC (.str "/"))) (xBlt strD (xConsR (xUn negD (xVar 2)) xNil))))
sNext)
(sSeq (sIf (xB (xBin eqD (xVar 4) (xC (.int 5))))
(sRet (xBin addD (xVar 0) (xSl (xVar 0) (oSome (xVar 5)) oNo)))
sNext)
(sSeq (sIf (xB (xBin eqD (xVar 4) (xC (.int 6))))
(sRet (xCall 1 m__law_odd [] (xCons (xBin fdivD (xVar 3) (xC (.int 12))) xNil)))
sNext)
(sRetV 0))))))))))))
noncomputable def m__law_spoilt : List D → R Rs := runB 8 g__law_spoilt
/-- _law_number (0 _law_text, 1 _law_sign) -/
noncomputable def b__law_number_0 : Ev → Out :=
(sIf (xB (xBin ninD (xVar 1) (xC (.str "0123456789"))))
(sRet (xC .non))
sNext)
noncomputable def g__law_number : Ev → Out :=
(sSeq (sIf (xOr (xB (xBin eqD (xVar 0) (xC (.str "")))) (xAnd (xB (xBin gtI (xBlt lenD (xConsR (xVar 0) xNil)) (xC (.int 1)))) (xB (xBin eqD (xBin ixD (xVar 0) (xC (.int 0))) (xC (.str "0"))))))
(sRet (xC .non))
sNext)
(sSeq (sFor (gN 1) (iAny (xVar 0))
b__law_number_0)
(sRet (xBlt intD (xConsR (xVar 0) xNil)))))
noncomputable def m__law_number : List D → R Rs := runB 2 g__law_number
/-- _law_due (0 _law_text, 1 _law_parts, 2 _law_first, 3 _law_sign, 4 _law_top_here, 5 _law_bottom_here) -/
noncomputable def g__law_due : Ev → Out :=
(sSeq (sSetZ 1 (xM1 splitD (xVar 0) (xC (.str "/"))))
(sSeq (sIf (xB (xBin gtI (xBlt lenD (xConsR (xVar 1) xNil)) (xC (.int 2))))
(sRet (xC .non))
sNext)
(sSeq (sSetZ 2 (xBin ixD (xVar 1) (xC (.int 0))))
(sSeq (sSetZ 3 (xC (.int 1)))
(sSeq (sIf (xB (xBin eqD (xSl (xVar 2) oNo (oSome (xC (.int 1)))) (xC (.str "-"))))
(sSeq (sSetZ 2 (xSl (xVar 2) (oSome (xC (.int 1))) oNo))
(sSetZ 3 (xUn negD (xC (.int 1)))))
sNext)
(sSeq (sSetZ 4 (xCall 1 m__law_number [] (xCons (xVar 2) xNil)))
(sSeq (sSetZ 5 (xC (.int 1)))
(sSeq (sIf (xB (xBin eqD (xBlt lenD (xConsR (xVar 1) xNil)) (xC (.int 2))))
(sSetZ 5 (xCall 1 m__law_number [] (xCons (xBin ixD (xVar 1) (xC (.int 1))) xNil)))
sNext)
(sSeq (sIf (xOr (xB (xUn isND (xVar 4))) (xOr (xB (xUn isND (xVar 5))) (xAnd (xB (xBin eqD (xVar 4) (xC (.int 0)))) (xOr (xB (xBin ltI (xVar 3) (xC (.int 0)))) (xB (xBin eqD (xBlt lenD (xConsR (xVar 1) xNil)) (xC (.int 2))))))))
(sRet (xC .non))
sNext)
(sSeq (sIf (xAnd (xB (xBin eqD (xBlt lenD (xConsR (xVar 1) xNil)) (xC (.int 2)))) (xB (xBin ltI (xVar 5) (xC (.int 2)))))
(sRet (xC .non))
sNext)
(sSeq (sIf (xNot (xB (xCall 3 m__law_is [] (xCons (xTup (xCons (xVar 4) (xCons (xVar 5) xNil))) (xCons (xVar 4) (xCons (xVar 5) xNil))))))
(sRet (xC .non))
sNext)
(sRet (xTup (xCons (xBin mulD (xVar 3) (xVar 4)) (xCons (xVar 5) xNil)))))))))))))))
noncomputable def m__law_due : List D → R Rs := runB 6 g__law_due
/-- law (0 _law_script, 1 _law_more, 2 _law_k, 3 _law_a, 4 _law_b, 5 _law_one, 6 _law_text, 7 _law_other, 8 _law_due_here, 9 _law_found) -/
noncomputable def b_law_0 : Ev → Out :=
(sSeq (sSetZ 1 (xCall 3 m__law_next [] (xCons (xVar 1) (xCons (xBin ixD (xVar 0) (xVar 2)) (xCons (xVar 2) xNil)))))
(sSeq (sSetZ 3 (xCall 2 m__law_top [] (xCons (xVar 1) (xCons (xBin ixD (xVar 0) (xVar 2)) xNil))))
(sSeq (sSetZ 4 (xCall 2 m__law_bottom [] (xCons (xVar 1) (xCons (xBin ixD (xVar 0) (xVar 2)) xNil))))
(sSeq (sSetZ 5 (xCall 2 m_time_of [] (xCons (xVar 3) (xCons (xVar 4) xNil))))
(sSeq (sSetZ 6 (xBlt strD (xConsR (xBin ixD (xVar 5) (xC (.int 0))) xNil)))
(sSeq (sIf (xB (xBin neD (xBin ixD (xVar 5) (xC (.int 1))) (xC (.int 1))))
(sSetZ 6 (xBin addD (xBin addD (xVar 6) (xC (.str "/"))) (xBlt strD (xConsR (xBin ixD (xVar 5) (xC (.int 1))) xNil))))
sNext)
(sSeq (sIf (xOr (xNot (xB (xCall 3 m__law_is [] (xCons (xVar 5) (xCons (xVar 3) (xCons (xVar 4) xNil)))))) (xOr (xB (xBin neD (xCall 1 m_time_text [] (xCons (xVar 5) xNil)) (xVar 6))) (xB (xBin neD (xCall 1 m__law_read [] (xCons (xVar 6) xNil)) (xVar 5)))))
(sRet (xC (.bl false)))
sNext)
(sSeq (sSetZ 7 (xCall 4 m__law_spoilt [] (xCons (xVar 6) (xCons (xBin ixD (xVar 5) (xC (.int 0))) (xCons (xBin ixD (xVar 5) (xC (.int 1))) (xCons (xCall 1 m__law_mixed [] (xCons (xBin addD (xVar 1) (xC (.int 5))) xNil)) xNil))))))
(sSeq (sSetZ 8 (xCall 1 m__law_due [] (xCons (xVar 7) xNil)))
(sSeq (sSetZ 9 (xCall 1 m__law_read [] (xCons (xVar 7) xNil)))
(sIf (xOr (xB (xBin neD (xVar 9) (xVar 8))) (xAnd (xB (xUn isNN (xVar 8))) (xNot (xB (xCall 3 m__law_is [] (xCons (xVar 9) (xCons (xBin ixD (xVar 8) (xC (.int 0))) (xCons (xBin ixD (xVar 8) (xC (.int 1))) xNil))))))))
(sRet (xC (.bl false)))
sNext)))))))))))
noncomputable def g_law : Ev → Out :=
(sSeq (sSetZ 1 (xC (.int 7)))
(sSeq (sFor (gN 2) (iR1 (xConsR (xBlt lenD (xConsR (xVar 0) xNil)) xNil))
b_law_0)
(sRet (xC (.bl true)))))
noncomputable def m_law : List D → R Rs := runB 10 g_law
end Cy

set_option Elab.async false
set_option linter.all false
set_option maxRecDepth 100000
set_option maxHeartbeats 8000000
namespace Cy
open PySem PySem.Spec PyProof.Rows L2 PL
section
variable {P : Program} {w : World} {K : PySem.W.Frag} {mg : MG} {base : Heap}
theorem sc__law_next : FnScope ["_law_more", "_law_cell", "_law_k"] ["_law_more", "_law_cell", "_law_k"] (defScope s__law_next) := ⟨rfl, rfl, rfl, by decide +kernel, rfl, by decide +kernel, by decide +kernel⟩
theorem ok__law_next {fa : Addr} {fd : FuncData} (F : FunD K "_law_next" "_law_next" (defArgs s__law_next) (defBody s__law_next) (defScope s__law_next) [] [] fa fd) : FnOk P w K mg base (L2.CX P w) 1 fa fd ["_law_more", "_law_cell", "_law_k"] (spP K mg 3 m__law_next) :=
  def_ok F sc__law_next fun cdv A outer s H E G => show PUSs _ (fun _ => E) (defBody s__law_next) g__law_next from
(ss_one (s_ret (u_mod (u_add (u_mod (u_add (u_add (u_mul (u_var 0) u_int) (u_var 1)) (u_var 2)) u_int) u_int) u_int)))
theorem sc__law_mixed : FnScope ["_law_more"] ["_law_more"] (defScope s__law_mixed) := ⟨rfl, rfl, rfl, by decide +kernel, rfl, by decide +kernel, by decide +kernel⟩
theorem ok__law_mixed {fa : Addr} {fd : FuncData} (F : FunD K "_law_mixed" "_law_mixed" (defArgs s__law_mixed) (defBody s__law_mixed) (defScope s__law_mixed) [] [] fa fd) : FnOk P w K mg base (L2.CX P w) 1 fa fd ["_law_more"] (spP K mg 1 m__law_mixed) :=
  def_ok F sc__law_mixed fun cdv A outer s H E G => show PUSs _ (fun _ => E) (defBody s__law_mixed) g__law_mixed from
(ss_one (s_ret (u_mod (u_add (u_mul (u_var 0) (u_var 0)) (u_mul u_int (u_var 0))) u_int)))
theorem sc__law_top : FnScope ["_law_more", "_law_cell", "_law_mixed_here", "_law_way"] ["_law_more", "_law_cell"] (defScope s__law_top) := ⟨rfl, rfl, rfl, by decide +kernel, rfl, by decide +kernel, by decide +kernel⟩
theorem ok__law_top (C__law_mixed : Cal P w K mg base 1 "_law_mixed" ["_law_more"] [] m__law_mixed) {fa : Addr} {fd : FuncData} (F : FunD K "_law_top" "_law_top" (defArgs s__law_top) (defBody s__law_top) (defScope s__law_top) [] [] fa fd) : FnOk P w K mg base (L2.CX P w) 2 fa fd ["_law_more", "_law_cell"] (spP K mg 2 m__law_top) :=
  def_ok F sc__law_top fun cdv A outer s H E G => show PUSs _ (fun _ => E) (defBody s__law_top) g__law_top from
(ss_cons (s_z (s_set 2 G.nd (u_call C__law_mixed G.hr (by decide) G.hx (a_cons (u_var 0) a_nil))))
(ss_cons (s_z (s_set 3 G.nd (u_mod (u_var 2) u_int)))
(ss_cons (s_if (t_eq G.hr (u_var 3) u_int)
(ss_one (s_ret (u_sub (u_mod (u_fdiv (u_var 2) u_int) u_int) u_int)))
ss_nil)
(ss_cons (s_if (t_eq G.hr (u_var 3) u_int)
(ss_one (s_ret (u_mul (u_mod (u_var 1) (u_pow u_int u_int)) (u_sub u_int (u_mul u_int (u_mod (u_fdiv (u_var 2) u_int) u_int))))))
ss_nil)
(ss_cons (s_if (t_eq G.hr (u_var 3) u_int)
(ss_one (s_ret (u_mod (u_mul (u_add (u_var 1) (u_var 2)) (u_var 2)) (u_pow u_int u_int))))
ss_nil)
(ss_one (s_ret (u_sub (u_mod (u_fdiv (u_var 2) u_int) u_int) u_int))))))))
theorem sc__law_bottom : FnScope ["_law_more", "_law_cell", "_law_mixed_here", "_law_way"] ["_law_more", "_law_cell"] (defScope s__law_bottom) := ⟨rfl, rfl, rfl, by decide +kernel, rfl, by decide +kernel, by decide +kernel⟩
theorem ok__law_bottom (C__law_mixed : Cal P w K mg base 1 "_law_mixed" ["_law_more"] [] m__law_mixed) {fa : Addr} {fd : FuncData} (F : FunD K "_law_bottom" "_law_bottom" (defArgs s__law_bottom) (defBody s__law_bottom) (defScope s__law_bottom) [] [] fa fd) : FnOk P w K mg base (L2.CX P w) 2 fa fd ["_law_more", "_law_cell"] (spP K mg 2 m__law_bottom) :=
  def_ok F sc__law_bottom fun cdv A outer s H E G => show PUSs _ (fun _ => E) (defBody s__law_bottom) g__law_bottom from
(ss_cons (s_z (s_set 2 G.nd (u_call C__law_mixed G.hr (by decide) G.hx (a_cons (u_add (u_var 0) u_int) a_nil))))
(ss_cons (s_z (s_set 3 G.nd (u_mod (u_var 2) u_int)))
(ss_cons (s_if (t_eq G.hr (u_var 3) u_int)
(ss_one (s_ret u_int))
ss_nil)
(ss_cons (s_if (t_eq G.hr (u_var 3) u_int)
(ss_one (s_ret (u_add u_int (u_mod (u_var 1) (u_pow u_int u_int)))))
ss_nil)
(ss_cons (s_if (t_eq G.hr (u_var 3) u_int)
(ss_one (s_ret (u_add u_int (u_mod (u_mul (u_add (u_var 1) (u_mul u_int (u_var 2))) (u_var 2)) (u_pow u_int u_int)))))
ss_nil)
(ss_one (s_ret (u_add u_int (u_mod (u_fdiv (u_var 2) u_int) (u_ix (u_lst (a_cons u_int (a_cons u_int a_nil))) (u_mod (u_var 3) u_int)))))))))))
theorem sc_common : FnScope ["one", "other"] ["one", "other"] (defScope s_common) := ⟨rfl, rfl, rfl, by decide +kernel, rfl, by decide +kernel, by decide +kernel⟩
theorem ok_common {fa : Addr} {fd : FuncData} (F : FunD K "common" "common" (defArgs s_common) (defBody s_common) (defScope s_common) [] [] fa fd) : FnOk P w K mg base (L2.CX P w) 1 fa fd ["one", "other"] (spP K mg 2 m_common) :=
  def_ok F sc_common fun cdv A outer s H E G => show PUSs _ (fun _ => E) (defBody s_common) g_common from
(ss_cons (s_while G.po (t_gt (u_var 1) u_int)
(show PUSs _ (fun _ => E) _ b_common_0 from (ss_one (s_par 0 1 G.nd (a_cons (u_var 1) (a_cons (u_mod (u_var 0) (u_var 1)) a_nil)) (by rfl)))))
(ss_one (s_retV 0)))
theorem sc_time_of : FnScope ["top", "bottom", "divisor"] ["top", "bottom"] (defScope s_time_of) := ⟨rfl, rfl, rfl, by decide +kernel, rfl, by decide +kernel, by decide +kernel⟩
theorem ok_time_of (n_abs : mg "abs" = none) (x_NoTime : ExcK K mg "NoTime") (C_common : Cal P w K mg base 1 "common" ["one", "other"] [] m_common) {fa : Addr} {fd : FuncData} (F : FunD K "time_of" "time_of" (defArgs s_time_of) (defBody s_time_of) (defScope s_time_of) [.int 1] [] fa fd) : FnOk P w K mg base (L2.CX P w) 2 fa fd ["top", "bottom"] (spP K mg 2 m_time_of) :=
  def_ok F sc_time_of fun cdv A outer s H E G => show PUSs _ (fun _ => E) (defBody s_time_of) g_time_of from
(ss_cons (s_if (t_eq G.hr (u_var 1) u_int)
(ss_one (s_raise x_NoTime G.tk))
ss_nil)
(ss_cons (s_if (t_lt (u_var 1) u_int)
(ss_one (s_par 0 1 G.nd (a_cons (u_neg (u_var 0)) (a_cons (u_neg (u_var 1)) a_nil)) (by rfl)))
ss_nil)
(ss_cons (s_z (s_set 2 G.nd (u_call C_common G.hr (by decide) G.hx (a_cons (u_abs n_abs (r_cons (u_var 0) r_nil)) (a_cons (u_var 1) a_nil)))))
(ss_one (s_ret (u_tup (a_cons (u_fdiv (u_var 0) (u_var 2)) (a_cons (u_fdiv (u_var 1) (u_var 2)) a_nil))))))))
theorem sc_is_figures : FnScope ["text", "sign"] ["text"] (defScope s_is_figures) := ⟨rfl, rfl, rfl, by decide +kernel, rfl, by decide +kernel, by decide +kernel⟩
theorem ok_is_figures (n_all : mg "all" = none) (k_FIGURES : ∃ v u, mg "FIGURES" = some u ∧ RelV v u ∧ ∀ G, Rep K mg G v c_FIGURES) {fa : Addr} {fd : FuncData} (F : FunD K "is_figures" "is_figures" (defArgs s_is_figures) (defBody s_is_figures) (defScope s_is_figures) [] [] fa fd) : FnOk P w K mg base (L2.CX P w) 1 fa fd ["text"] (spP K mg 1 m_is_figures) :=
  def_ok F sc_is_figures fun cdv A outer s H E G => show PUSs _ (fun _ => E) (defBody s_is_figures) g_is_figures from
(ss_cons (s_if (t_w (w_or (t_eq G.hr (u_var 0) u_str) (w_or1 (t_w (w_and (t_val (u_starts (u_var 0) u_str)) (w_and1 (t_ne G.hr (u_var 0) u_str)))))))
(ss_one (s_ret u_bl))
ss_nil)
(ss_one (s_ret (u_all n_all (r_cons (u_lc [("sign", 1)] G.nd (i_any (u_var 0)) (blkOk_by (N := ["text", "sign"]) (sc := defScope s_is_figures) (by decide +kernel)) (q_name (by decide)) (fun _ _ _ _ _ => (g_name 1 G.nd)) (fun _ _ _ _ _ => ts_nil) (fun _ _ _ _ _ => (show PUE _ E00 _ (xBin inD (xVar 1) (xC c_FIGURES)) from (u_in (by exact G.hr) (u_var 1) (u_glob k_FIGURES))))) r_nil)))))
theorem sc_time_text : FnScope ["one", "top", "bottom"] ["one"] (defScope s_time_text) := ⟨rfl, rfl, rfl, by decide +kernel, rfl, by decide +kernel, by decide +kernel⟩
theorem ok_time_text (n_str : mg "str" = none) {fa : Addr} {fd : FuncData} (F : FunD K "time_text" "time_text" (defArgs s_time_text) (defBody s_time_text) (defScope s_time_text) [] [] fa fd) : FnOk P w K mg base (L2.CX P w) 1 fa fd ["one"] (spP K mg 1 m_time_text) :=
  def_ok F sc_time_text fun cdv A outer s H E G => show PUSs _ (fun _ => E) (defBody s_time_text) g_time_text from
(ss_cons (s_asg (u_var 0) (g_tup (gs_cons (g_name 1 G.nd) (gs_cons (g_name 2 G.nd) gs_nil))))
(ss_cons (s_if (t_eq G.hr (u_var 2) u_int)
(ss_one (s_ret (u_strc n_str (r_cons (u_var 1) r_nil))))
ss_nil)
(ss_one (s_ret (u_joined (j_cons (u_fmt (u_var 1)) (j_cons u_str (j_cons (u_fmt (u_var 2)) j_nil))))))))
theorem sc_read_time : FnScope ["text", "figures", "found", "top", "sign", "bottom"] ["text"] (defScope s_read_time) := ⟨rfl, rfl, rfl, by decide +kernel, rfl, by decide +kernel, by decide +kernel⟩
theorem ok_read_time (n_int : mg "int" = none) (x_NoTime : ExcK K mg "NoTime") (C_is_figures : Cal P w K mg base 1 "is_figures" ["text"] [] m_is_figures) (C_time_of : Cal P w K mg base 2 "time_of" ["top", "bottom"] [] m_time_of) (C_time_text : Cal P w K mg base 1 "time_text" ["one"] [] m_time_text) {fa : Addr} {fd : FuncData} (F : FunD K "read_time" "read_time" (defArgs s_read_time) (defBody s_read_time) (defScope s_read_time) [] [] fa fd) : FnOk P w K mg base (L2.CX P w) 3 fa fd ["text"] (spP K mg 1 m_read_time) :=
  def_ok F sc_read_time fun cdv A outer s H E G => show PUSs _ (fun _ => E) (defBody s_read_time) g_read_time from
(ss_cons (s_asg (u_part (u_var 0) u_str) (g_tup (gs_cons (g_name 3 G.nd) (gs_cons (g_name 4 G.nd) (gs_cons (g_name 5 G.nd) gs_nil)))))
(ss_cons (s_z (s_set 1 G.nd (u_var 3)))
(ss_cons (s_if (t_val (u_starts (u_var 3) u_str))
(ss_one (s_z (s_set 1 G.nd (u_sl (u_var 3) (o_some u_int) o_no))))
ss_nil)
(ss_cons (s_if (t_eq G.hr (u_var 4) u_str)
(ss_one (s_z (s_set 5 G.nd u_str)))
ss_nil)
(ss_cons (s_if (t_w (w_or (t_not (t_val (u_call C_is_figures G.hr (by decide) G.hx (a_cons (u_var 1) a_nil)))) (w_or1 (t_not (t_val (u_call C_is_figures G.hr (by decide) G.hx (a_cons (u_var 5) a_nil)))))))
(ss_one (s_raise x_NoTime G.tk))
ss_nil)
(ss_cons (s_z (s_set 2 G.nd (u_call C_time_of G.hr (by decide) G.hx (a_cons (u_intc n_int (r_cons (u_var 3) r_nil)) (a_cons (u_intc n_int (r_cons (u_var 5) r_nil)) a_nil)))))
(ss_cons (s_if (t_ne G.hr (u_call C_time_text G.hr (by decide) G.hx (a_cons (u_var 2) a_nil)) (u_var 0))
(ss_one (s_raise x_NoTime G.tk))
ss_nil)
(ss_one (s_retV 2)))))))))
theorem sc__law_read : FnScope ["_law_text", "_law_found", "_law_error", "e"] ["_law_text"] (defScope s__law_read) := ⟨rfl, rfl, rfl, by decide +kernel, rfl, by decide +kernel, by decide +kernel⟩
theorem ok__law_read (n_isinstance : mg "isinstance" = none) (y_YardError : Caught K mg "YardError" tx_YardError) (j_NoMachine_NoPlace_NoRow_TooMany : IsXF K mg [.own "NoMachine", .own "NoPlace", .own "NoRow", .own "TooMany"] ix_NoMachine_NoPlace_NoRow_TooMany) (j_NoTime : IsXF K mg [.own "NoTime"] ix_NoTime) (j_ValueError : IsXF K mg [.ty "ValueError" "ValueError"] ix_ValueError) (C_read_time : Cal P w K mg base 3 "read_time" ["text"] [] m_read_time) {fa : Addr} {fd : FuncData} (F : FunD K "_law_read" "_law_read" (defArgs s__law_read) (defBody s__law_read) (defScope s__law_read) [] [] fa fd) : FnOk P w K mg base (L2.CX P w) 4 fa fd ["_law_text"] (spP K mg 1 m__law_read) :=
  def_ok F sc__law_read fun cdv A outer s H E G => show PUSs _ (fun _ => E) (defBody s__law_read) g__law_read from
(ss_cons (s_z (s_set 1 G.nd u_non))
(ss_cons (s_z (s_set 2 G.nd u_non))
(ss_cons (s_try 3 2 G y_YardError fun W pn xe G => show PUSs _ (fun σ => WE W σ) _ b__law_read_0 from (ss_one (s_z (s_set 1 G.nd (u_call C_read_time G.hr (by decide) G.hx (a_cons (u_var 0) a_nil))))))
(ss_cons (s_if (t_isN (u_var 2))
(ss_one (s_retV 1))
ss_nil)
(ss_cons (s_if (t_w (w_or (t_not (t_val (u_isx1 (u_var 2) n_isinstance j_NoTime (c_own c_nil)))) (w_or1 (t_not (t_val (u_isx1 (u_var 2) n_isinstance j_ValueError (c_ty c_nil)))))))
(ss_one (s_ret u_str))
ss_nil)
(ss_cons (s_if (t_val (u_isxT (u_var 2) n_isinstance j_NoMachine_NoPlace_NoRow_TooMany (c_own (c_own (c_own (c_own c_nil))))))
(ss_one (s_ret u_str))
ss_nil)
(ss_one (s_ret u_non))))))))
theorem sc__law_whole : FnScope ["_law_thing"] ["_law_thing"] (defScope s__law_whole) := ⟨rfl, rfl, rfl, by decide +kernel, rfl, by decide +kernel, by decide +kernel⟩
theorem ok__law_whole (n_bool : mg "bool" = none) (n_int : mg "int" = none) (n_isinstance : mg "isinstance" = none) {fa : Addr} {fd : FuncData} (F : FunD K "_law_whole" "_law_whole" (defArgs s__law_whole) (defBody s__law_whole) (defScope s__law_whole) [] [] fa fd) : FnOk P w K mg base (L2.CX P w) 1 fa fd ["_law_thing"] (spP K mg 1 m__law_whole) :=
  def_ok F sc__law_whole fun cdv A outer s H E G => show PUSs _ (fun _ => E) (defBody s__law_whole) g__law_whole from
(ss_one (s_ret (u_and (u_isi "int" (u_var 0) n_isinstance n_int (by decide +kernel)) (u_one (u_not (u_isi "bool" (u_var 0) n_isinstance n_bool (by decide +kernel)))))))
theorem sc__law_is : FnScope ["_law_found", "_law_top_here", "_law_bottom_here", "_law_one", "_law_other"] ["_law_found", "_law_top_here", "_law_bottom_here"] (defScope s__law_is) := ⟨rfl, rfl, rfl, by decide +kernel, rfl, by decide +kernel, by decide +kernel⟩
theorem ok__law_is (n_abs : mg "abs" = none) (n_isinstance : mg "isinstance" = none) (n_len : mg "len" = none) (n_tuple : mg "tuple" = none) (C__law_whole : Cal P w K mg base 1 "_law_whole" ["_law_thing"] [] m__law_whole) {fa : Addr} {fd : FuncData} (F : FunD K "_law_is" "_law_is" (defArgs s__law_is) (defBody s__law_is) (defScope s__law_is) [] [] fa fd) : FnOk P w K mg base (L2.CX P w) 2 fa fd ["_law_found", "_law_top_here", "_law_bottom_here"] (spP K mg 3 m__law_is) :=
  def_ok F sc__law_is fun cdv A outer s H E G => show PUSs _ (fun _ => E) (defBody s__law_is) g__law_is from
(ss_cons (s_if (t_w (w_or (t_not (t_val (u_isi "tuple" (u_var 0) n_isinstance n_tuple (by decide +kernel)))) (w_or (t_ne G.hr (u_len n_len (r_cons (u_var 0) r_nil)) u_int) (w_or (t_not (t_val (u_call C__law_whole G.hr (by decide) G.hx (a_cons (u_ix (u_var 0) u_int) a_nil)))) (w_or1 (t_not (t_val (u_call C__law_whole G.hr (by decide) G.hx (a_cons (u_ix (u_var 0) u_int) a_nil)))))))))
(ss_one (s_ret u_bl))
ss_nil)
(ss_cons (s_z (s_set 3 G.nd (u_abs n_abs (r_cons (u_ix (u_var 0) u_int) r_nil))))
(ss_cons (s_z (s_set 4 G.nd (u_ix (u_var 0) u_int)))
(ss_cons (s_while G.po (t_gt (u_var 4) u_int)
(show PUSs _ (fun _ => E) _ b__law_is_0 from (ss_one (s_par 3 4 G.nd (a_cons (u_var 4) (a_cons (u_mod (u_var 3) (u_var 4)) a_nil)) (by rfl)))))
(ss_one (s_ret (u_and (u_gt (u_ix (u_var 0) u_int) u_int) (u_and (u_eq G.hr (u_var 3) u_int) (u_one (u_eq G.hr (u_mul (u_ix (u_var 0) u_int) (u_var 2)) (u_mul (u_var 1) (u_ix (u_var 0) u_int))))))))))))
theorem sc__law_odd : FnScope ["_law_number_here", "_law_some"] ["_law_number_here"] (defScope s__law_odd) := ⟨rfl, rfl, rfl, by decide +kernel, rfl, by decide +kernel, by decide +kernel⟩
theorem ok__law_odd {fa : Addr} {fd : FuncData} (F : FunD K "_law_odd" "_law_odd" (defArgs s__law_odd) (defBody s__law_odd) (defScope s__law_odd) [] [] fa fd) : FnOk P w K mg base (L2.CX P w) 1 fa fd ["_law_number_here"] (spP K mg 1 m__law_odd) :=
  def_ok F sc__law_odd fun cdv A outer s H E G => show PUSs _ (fun _ => E) (defBody s__law_odd) g__law_odd from
(ss_cons (s_z (s_set 1 G.nd (u_lst (a_cons u_str (a_cons u_str (a_cons u_str (a_cons u_str (a_cons u_str (a_cons u_str (a_cons u_str (a_cons u_str (a_cons u_str (a_cons u_str (a_cons u_str (a_cons u_str a_nil)))))))))))))))
(ss_cons (s_z (s_set 1 G.nd (u_add (u_var 1) (u_lst (a_cons u_str (a_cons u_str (a_cons u_str (a_cons u_str (a_cons u_str (a_cons u_str (a_cons u_str (a_cons u_str (a_cons u_str (a_cons u_str (a_cons u_str (a_cons u_str a_nil))))))))))))))))
(ss_one (s_ret (u_ix (u_var 1) (u_mod (u_var 0) u_int))))))
theorem sc__law_spoilt : FnScope ["_law_text", "_law_top_here", "_law_bottom_here", "_law_number_here", "_law_way", "_law_at", "_law_sign", "_law_by"] ["_law_text", "_law_top_here", "_law_bottom_here", "_law_number_here"] (defScope s__law_spoilt) := ⟨rfl, rfl, rfl, by decide +kernel, rfl, by decide +kernel, by decide +kernel⟩
theorem ok__law_spoilt (n_len : mg "len" = none) (n_str : mg "str" = none) (C__law_odd : Cal P w K mg base 1 "_law_odd" ["_law_number_here"] [] m__law_odd) {fa : Addr} {fd : FuncData} (F : FunD K "_law_spoilt" "_law_spoilt" (defArgs s__law_spoilt) (defBody s__law_spoilt) (defScope s__law_spoilt) [] [] fa fd) : FnOk P w K mg base (L2.CX P w) 2 fa fd ["_law_text", "_law_top_here", "_law_bottom_here", "_law_number_here"] (spP K mg 4 m__law_spoilt) :=
  def_ok F sc__law_spoilt fun cdv A outer s H E G => show PUSs _ (fun _ => E) (defBody s__law_spoilt) g__law_spoilt from
(ss_cons (s_z (s_set 4 G.nd (u_mod (u_var 3) u_int)))
(ss_cons (s_z (s_set 5 G.nd (u_mod (u_fdiv (u_var 3) u_int) (u_add (u_len n_len (r_cons (u_var 0) r_nil)) u_int))))
(ss_cons (s_z (s_set 6 G.nd (u_ix u_str (u_mod (u_fdiv (u_var 3) u_int) u_int))))
(ss_cons (s_z (s_set 7 G.nd (u_add u_int (u_mod (u_fdiv (u_var 3) u_int) u_int))))
(ss_cons (s_if (t_eq G.hr (u_var 4) u_int)
(ss_one (s_ret (u_add (u_add (u_sl (u_var 0) o_no (o_some (u_var 5))) (u_var 6)) (u_sl (u_var 0) (o_some (u_var 5)) o_no))))
ss_nil)
(ss_cons (s_if (t_eq G.hr (u_var 4) u_int)
(ss_one (s_ret (u_add (u_add (u_sl (u_var 0) o_no (o_some (u_var 5))) (u_var 6)) (u_sl (u_var 0) (o_some (u_add (u_var 5) u_int)) o_no))))
ss_nil)
(ss_cons (s_if (t_eq G.hr (u_var 4) u_int)
(ss_one (s_ret (u_add (u_sl (u_var 0) o_no (o_some (u_var 5))) (u_sl (u_var 0) (o_some (u_add (u_var 5) u_int)) o_no))))
ss_nil)
(ss_cons (s_if (t_eq G.hr (u_var 4) u_int)
(ss_one (s_ret (u_add (u_add (u_strc n_str (r_cons (u_mul (u_var 1) (u_var 7)) r_nil)) u_str) (u_strc n_str (r_cons (u_mul (u_var 2) (u_var 7)) r_nil)))))
ss_nil)
(ss_cons (s_if (t_eq G.hr (u_var 4) u_int)
(ss_one (s_ret (u_add (u_add (u_strc n_str (r_cons (u_var 1) r_nil)) u_str) (u_strc n_str (r_cons (u_neg (u_var 2)) r_nil)))))
ss_nil)
(ss_cons (s_if (t_eq G.hr (u_var 4) u_int)
(ss_one (s_ret (u_add (u_var 0) (u_sl (u_var 0) (o_some (u_var 5)) o_no))))
ss_nil)
(ss_cons (s_if (t_eq G.hr (u_var 4) u_int)
(ss_one (s_ret (u_call C__law_odd G.hr (by decide) G.hx (a_cons (u_fdiv (u_var 3) u_int) a_nil))))
ss_nil)
(ss_one (s_retV 0)))))))))))))
theorem sc__law_number : FnScope ["_law_text", "_law_sign"] ["_law_text"] (defScope s__law_number) := ⟨rfl, rfl, rfl, by decide +kernel, rfl, by decide +kernel, by decide +kernel⟩
theorem ok__law_number (n_int : mg "int" = none) (n_len : mg "len" = none) {fa : Addr} {fd : FuncData} (F : FunD K "_law_number" "_law_number" (defArgs s__law_number) (defBody s__law_number) (defScope s__law_number) [] [] fa fd) : FnOk P w K mg base (L2.CX P w) 1 fa fd ["_law_text"] (spP K mg 1 m__law_number) :=
  def_ok F sc__law_number fun cdv A outer s H E G => show PUSs _ (fun _ => E) (defBody s__law_number) g__law_number from
(ss_cons (s_if (t_w (w_or (t_eq G.hr (u_var 0) u_str) (w_or1 (t_w (w_and (t_gt (u_len n_len (r_cons (u_var 0) r_nil)) u_int) (w_and1 (t_eq G.hr (u_ix (u_var 0) u_int) u_str)))))))
(ss_one (s_ret u_non))
ss_nil)
(ss_cons (s_for G.po (i_any (u_var 0)) (g_name 1 G.nd)
(show PUSs _ (fun _ => E) _ b__law_number_0 from (ss_one (s_if (t_nin G.hr (u_var 1) u_str)
(ss_one (s_ret u_non))
ss_nil))))
(ss_one (s_ret (u_intc n_int (r_cons (u_var 0) r_nil))))))
theorem sc__law_due : FnScope ["_law_text", "_law_parts", "_law_first", "_law_sign", "_law_top_here", "_law_bottom_here"] ["_law_text"] (defScope s__law_due) := ⟨rfl, rfl, rfl, by decide +kernel, rfl, by decide +kernel, by decide +kernel⟩
theorem ok__law_due (n_len : mg "len" = none) (C__law_is : Cal P w K mg base 2 "_law_is" ["_law_found", "_law_top_here", "_law_bottom_here"] [] m__law_is) (C__law_number : Cal P w K mg base 1 "_law_number" ["_law_text"] [] m__law_number) {fa : Addr} {fd : FuncData} (F : FunD K "_law_due" "_law_due" (defArgs s__law_due) (defBody s__law_due) (defScope s__law_due) [] [] fa fd) : FnOk P w K mg base (L2.CX P w) 3 fa fd ["_law_text"] (spP K mg 1 m__law_due) :=
  def_ok F sc__law_due fun cdv A outer s H E G => show PUSs _ (fun _ => E) (defBody s__law_due) g__law_due from
(ss_cons (s_z (s_set 1 G.nd (u_split (u_var 0) u_str)))
(ss_cons (s_if (t_gt (u_len n_len (r_cons (u_var 1) r_nil)) u_int)
(ss_one (s_ret u_non))
ss_nil)
(ss_cons (s_z (s_set 2 G.nd (u_ix (u_var 1) u_int)))
(ss_cons (s_z (s_set 3 G.nd u_int))
(ss_cons (s_if (t_eq G.hr (u_sl (u_var 2) o_no (o_some u_int)) u_str)
(ss_cons (s_z (s_set 2 G.nd (u_sl (u_var 2) (o_some u_int) o_no)))
(ss_one (s_z (s_set 3 G.nd (u_neg u_int)))))
ss_nil)
(ss_cons (s_z (s_set 4 G.nd (u_call C__law_number G.hr (by decide) G.hx (a_cons (u_var 2) a_nil))))
(ss_cons (s_z (s_set 5 G.nd u_int))
(ss_cons (s_if (t_eq G.hr (u_len n_len (r_cons (u_var 1) r_nil)) u_int)
(ss_one (s_z (s_set 5 G.nd (u_call C__law_number G.hr (by decide) G.hx (a_cons (u_ix (u_var 1) u_int) a_nil)))))
ss_nil)
(ss_cons (s_if (t_w (w_or (t_isN (u_var 4)) (w_or (t_isN (u_var 5)) (w_or1 (t_w (w_and (t_eq G.hr (u_var 4) u_int) (w_and1 (t_w (w_or (t_lt (u_var 3) u_int) (w_or1 (t_eq G.hr (u_len n_len (r_cons (u_var 1) r_nil)) u_int)))))))))))
(ss_one (s_ret u_non))
ss_nil)
(ss_cons (s_if (t_w (w_and (t_eq G.hr (u_len n_len (r_cons (u_var 1) r_nil)) u_int) (w_and1 (t_lt (u_var 5) u_int))))
(ss_one (s_ret u_non))
ss_nil)
(ss_cons (s_if (t_not (t_val (u_call C__law_is G.hr (by decide) G.hx (a_cons (u_tup (a_cons (u_var 4) (a_cons (u_var 5) a_nil))) (a_cons (u_var 4) (a_cons (u_var 5) a_nil))))))
(ss_one (s_ret u_non))
ss_nil)
(ss_one (s_ret (u_tup (a_cons (u_mul (u_var 3) (u_var 4)) (a_cons (u_var 5) a_nil))))))))))))))))
theorem sc_law : FnScope ["_law_script", "_law_more", "_law_k", "_law_a", "_law_b", "_law_one", "_law_text", "_law_other", "_law_due_here", "_law_found"] ["_law_script"] (defScope s_law) := ⟨rfl, rfl, rfl, by decide +kernel, rfl, by decide +kernel, by decide +kernel⟩
theorem ok_law (n_len : mg "len" = none) (n_range : mg "range" = none) (n_str : mg "str" = none) (C__law_bottom : Cal P w K mg base 2 "_law_bottom" ["_law_more", "_law_cell"] [] m__law_bottom) (C__law_due : Cal P w K mg base 3 "_law_due" ["_law_text"] [] m__law_due) (C__law_is : Cal P w K mg base 2 "_law_is" ["_law_found", "_law_top_here", "_law_bottom_here"] [] m__law_is) (C__law_mixed : Cal P w K mg base 1 "_law_mixed" ["_law_more"] [] m__law_mixed) (C__law_next : Cal P w K mg base 1 "_law_next" ["_law_more", "_law_cell", "_law_k"] [] m__law_next) (C__law_read : Cal P w K mg base 4 "_law_read" ["_law_text"] [] m__law_read) (C__law_spoilt : Cal P w K mg base 2 "_law_spoilt" ["_law_text", "_law_top_here", "_law_bottom_here", "_law_number_here"] [] m__law_spoilt) (C__law_top : Cal P w K mg base 2 "_law_top" ["_law_more", "_law_cell"] [] m__law_top) (C_time_of : Cal P w K mg base 2 "time_of" ["top", "bottom"] [] m_time_of) (C_time_text : Cal P w K mg base 1 "time_text" ["one"] [] m_time_text) {fa : Addr} {fd : FuncData} (F : FunD K "law" "law" (defArgs s_law) (defBody s_law) (defScope s_law) [] [] fa fd) : FnOk P w K mg base (L2.CX P w) 5 fa fd ["_law_script"] (spP K mg 1 m_law) :=
  def_ok F sc_law fun cdv A outer s H E G => show PUSs _ (fun _ => E) (defBody s_law) g_law from
(ss_cons (s_z (s_set 1 G.nd u_int))
(ss_cons (s_for G.po (i_rng1 (r_cons (u_len n_len (r_cons (u_var 0) r_nil)) r_nil) n_range) (g_name 2 G.nd)
(show PUSs _ (fun _ => E) _ b_law_0 from (ss_cons (s_z (s_set 1 G.nd (u_call C__law_next G.hr (by decide) G.hx (a_cons (u_var 1) (a_cons (u_ix (u_var 0) (u_var 2)) (a_cons (u_var 2) a_nil))))))
(ss_cons (s_z (s_set 3 G.nd (u_call C__law_top G.hr (by decide) G.hx (a_cons (u_var 1) (a_cons (u_ix (u_var 0) (u_var 2)) a_nil)))))
(ss_cons (s_z (s_set 4 G.nd (u_call C__law_bottom G.hr (by decide) G.hx (a_cons (u_var 1) (a_cons (u_ix (u_var 0) (u_var 2)) a_nil)))))
(ss_cons (s_z (s_set 5 G.nd (u_call C_time_of G.hr (by decide) G.hx (a_cons (u_var 3) (a_cons (u_var 4) a_nil)))))
(ss_cons (s_z (s_set 6 G.nd (u_strc n_str (r_cons (u_ix (u_var 5) u_int) r_nil))))
(ss_cons (s_if (t_ne G.hr (u_ix (u_var 5) u_int) u_int)
(ss_one (s_z (s_set 6 G.nd (u_add (u_add (u_var 6) u_str) (u_strc n_str (r_cons (u_ix (u_var 5) u_int) r_nil))))))
ss_nil)
(ss_cons (s_if (t_w (w_or (t_not (t_val (u_call C__law_is G.hr (by decide) G.hx (a_cons (u_var 5) (a_cons (u_var 3) (a_cons (u_var 4) a_nil)))))) (w_or (t_ne G.hr (u_call C_time_text G.hr (by decide) G.hx (a_cons (u_var 5) a_nil)) (u_var 6)) (w_or1 (t_ne G.hr (u_call C__law_read G.hr (by decide) G.hx (a_cons (u_var 6) a_nil)) (u_var 5))))))
(ss_one (s_ret u_bl))
ss_nil)
(ss_cons (s_z (s_set 7 G.nd (u_call C__law_spoilt G.hr (by decide) G.hx (a_cons (u_var 6) (a_cons (u_ix (u_var 5) u_int) (a_cons (u_ix (u_var 5) u_int) (a_cons (u_call C__law_mixed G.hr (by decide) G.hx (a_cons (u_add (u_var 1) u_int) a_nil)) a_nil)))))))
(ss_cons (s_z (s_set 8 G.nd (u_call C__law_due G.hr (by decide) G.hx (a_cons (u_var 7) a_nil))))
(ss_cons (s_z (s_set 9 G.nd (u_call C__law_read G.hr (by decide) G.hx (a_cons (u_var 7) a_nil))))
(ss_one (s_if (t_w (w_or (t_ne G.hr (u_var 9) (u_var 8)) (w_or1 (t_w (w_and (t_notN (u_var 8)) (w_and1 (t_not (t_val (u_call C__law_is G.hr (by decide) G.hx (a_cons (u_var 9) (a_cons (u_ix (u_var 8) u_int) (a_cons (u_ix (u_var 8) u_int) a_nil))))))))))))
(ss_one (s_ret u_bl))
ss_nil))))))))))))))
(ss_one (s_ret u_bl))))
end
end Cy

set_option Elab.async false
set_option linter.all false
set_option maxRecDepth 100000
set_option maxHeartbeats 8000000
namespace Cy
open PySem PySem.Spec PyProof.Rows L2 PL
def d__law_next : He.DefD := ⟨("_law_next", none), "_law_next", "_law_next", defArgs s__law_next, defBody s__law_next, defScope s__law_next, [], []⟩
def d__law_mixed : He.DefD := ⟨("_law_mixed", none), "_law_mixed", "_law_mixed", defArgs s__law_mixed, defBody s__law_mixed, defScope s__law_mixed, [], []⟩
def d__law_top : He.DefD := ⟨("_law_top", none), "_law_top", "_law_top", defArgs s__law_top, defBody s__law_top, defScope s__law_top, [], []⟩
def d__law_bottom : He.DefD := ⟨("_law_bottom", none), "_law_bottom", "_law_bottom", defArgs s__law_bottom, defBody s__law_bottom, defScope s__law_bottom, [], []⟩
def d_common : He.DefD := ⟨("common", none), "common", "common", defArgs s_common, defBody s_common, defScope s_common, [], []⟩
def d_time_of : He.DefD := ⟨("time_of", none), "time_of", "time_of", defArgs s_time_of, defBody s_time_of, defScope s_time_of, [.int 1], []⟩
def d_is_figures : He.DefD := ⟨("is_figures", none), "is_figures", "is_figures", defArgs s_is_figures, defBody s_is_figures, defScope s_is_figures, [], []⟩
def d_time_text : He.DefD := ⟨("time_text", none), "time_text", "time_text", defArgs s_time_text, defBody s_time_text, defScope s_time_text, [], []⟩
def d_read_time : He.DefD := ⟨("read_time", none), "read_time", "read_time", defArgs s_read_time, defBody s_read_time, defScope s_read_time, [], []⟩
def d__law_read : He.DefD := ⟨("_law_read", none), "_law_read", "_law_read", defArgs s__law_read, defBody s__law_read, defScope s__law_read, [], []⟩
def d__law_whole : He.DefD := ⟨("_law_whole", none), "_law_whole", "_law_whole", defArgs s__law_whole, defBody s__law_whole, defScope s__law_whole, [], []⟩
def d__law_is : He.DefD := ⟨("_law_is", none), "_law_is", "_law_is", defArgs s__law_is, defBody s__law_is, defScope s__law_is, [], []⟩
def d__law_odd : He.DefD := ⟨("_law_odd", none), "_law_odd", "_law_odd", defArgs s__law_odd, defBody s__law_odd, defScope s__law_odd, [], []⟩
def d__law_spoilt : He.DefD := ⟨("_law_spoilt", none), "_law_spoilt", "_law_spoilt", defArgs s__law_spoilt, defBody s__law_spoilt, defScope s__law_spoilt, [], []⟩
def d__law_number : He.DefD := ⟨("_law_number", none), "_law_number", "_law_number", defArgs s__law_number, defBody s__law_number, defScope s__law_number, [], []⟩
def d__law_due : He.DefD := ⟨("_law_due", none), "_law_due", "_law_due", defArgs s__law_due, defBody s__law_due, defScope s__law_due, [], []⟩
def d_law : He.DefD := ⟨("law", none), "law", "law", defArgs s_law, defBody s_law, defScope s_law, [], []⟩
def fn : List He.DefD := [d__law_next, d__law_mixed, d__law_top, d__law_bottom, d_common, d_time_of, d_is_figures, d_time_text, d_read_time, d__law_read, d__law_whole, d__law_is, d__law_odd, d__law_spoilt, d__law_number, d__law_due, d_law]
def fa : List (PySem.W.Frag → Bool) := [fun K => (He.Fa.free "abs").ok K, fun K => (He.Fa.free "all").ok K, fun K => (He.Fa.free "bool").ok K, fun K => (He.Fa.free "int").ok K, fun K => (He.Fa.free "isinstance").ok K, fun K => (He.Fa.free "len").ok K, fun K => (He.Fa.free "range").ok K, fun K => (He.Fa.free "str").ok K, fun K => (He.Fa.free "tuple").ok K, fun K => (He.Fa.glo "NoTime").ok K, fun K => (He.Fa.exc "NoTime").ok K, fun K => (He.Fa.str "FIGURES" "0123456789").ok K, fun K => cauB K "YardError" [("YardError", true), ("NoTime", true), ("NoMachine", true), ("NoPlace", true), ("NoRow", true), ("TooMany", true)], fun K => isxB K [.own "NoMachine", .own "NoPlace", .own "NoRow", .own "TooMany"] [("YardError", false), ("NoTime", false), ("NoMachine", true), ("NoPlace", true), ("NoRow", true), ("TooMany", true)], fun K => isxB K [.own "NoTime"] [("YardError", false), ("NoTime", true), ("NoMachine", false), ("NoPlace", false), ("NoRow", false), ("TooMany", false)], fun K => isxB K [.ty "ValueError" "ValueError"] [("YardError", true), ("NoTime", true), ("NoMachine", true), ("NoPlace", true), ("NoRow", true), ("TooMany", true)], fun K => (He.Fa.glo "_law_next").ok K, fun K => (He.Fa.glo "_law_mixed").ok K, fun K => (He.Fa.glo "_law_top").ok K, fun K => (He.Fa.glo "_law_bottom").ok K, fun K => (He.Fa.glo "common").ok K, fun K => (He.Fa.glo "time_of").ok K, fun K => (He.Fa.glo "is_figures").ok K, fun K => (He.Fa.glo "time_text").ok K, fun K => (He.Fa.glo "read_time").ok K, fun K => (He.Fa.glo "_law_read").ok K, fun K => (He.Fa.glo "_law_whole").ok K, fun K => (He.Fa.glo "_law_is").ok K, fun K => (He.Fa.glo "_law_odd").ok K, fun K => (He.Fa.glo "_law_spoilt").ok K, fun K => (He.Fa.glo "_law_number").ok K, fun K => (He.Fa.glo "_law_due").ok K, fun K => (He.Fa.glo "law").ok K]
abbrev Rw : PySem.W.OpenRow := PySem.W.OpenLaw.row PySem.Challenge.rw_clockyard_k02_time_texts
abbrev hk : PySem.W.Hook := hookP 4 fa fn
def ob (s : PySem.W.SharedT) : He.AlD := obsPG 4 fa fn (HandSHeadRun.getT s)
theorem ob_eq (s : PySem.W.SharedT) : ob s = hk.obs s.abs := obsPG_eq (HandSHeadRun.getT_eq s)
def loose : List PySem.Str := (["YardError", "NoTime", "NoMachine", "NoPlace", "NoRow", "TooMany", "FIGURES", "common", "time_of", "time_text", "is_figures", "read_time", "_law_whole", "_law_is", "_law_next", "_law_mixed", "_law_top", "_law_bottom", "_law_number", "_law_due", "_law_odd", "_law_spoilt", "_law_read"] : List PySem.Str)
theorem run (w : World) : HandSHeadRun.RunEq Rw (PySem.W.view Rw.prog [26]) hk ob 3000 loose w := by
  intro os
  kernel_rfl
theorem facts {P : Program} {w : World} {K : PySem.W.Frag} {h : Heap} {mg : MG} {f : Addr} (X : K.In h) (G : h.Ns mainGlobals mg) (hfa : mg ("law" : Str) = some (.ref f)) (c : SaysP fa fn K) (law_true : LawD m_law) :
    ∃ fd : FuncData, (∀ (s : Shared) (v : Value), BindsTo s fd ⟨[v], []⟩ [("_law_script", v)]) ∧ ∀ base : Heap, K.In base → base.Ns mainGlobals mg → FnOk P w K mg base (L2.CX P w) 5 f fd ["_law_script"] (spLaw K) := by
  have n_abs : mg "abs" = none := He.free_ok X G (c.fact 0 (p := fun K => (He.Fa.free "abs").ok K) rfl)
  have n_all : mg "all" = none := He.free_ok X G (c.fact 1 (p := fun K => (He.Fa.free "all").ok K) rfl)
  have n_bool : mg "bool" = none := He.free_ok X G (c.fact 2 (p := fun K => (He.Fa.free "bool").ok K) rfl)
  have n_int : mg "int" = none := He.free_ok X G (c.fact 3 (p := fun K => (He.Fa.free "int").ok K) rfl)
  have n_isinstance : mg "isinstance" = none := He.free_ok X G (c.fact 4 (p := fun K => (He.Fa.free "isinstance").ok K) rfl)
  have n_len : mg "len" = none := He.free_ok X G (c.fact 5 (p := fun K => (He.Fa.free "len").ok K) rfl)
  have n_range : mg "range" = none := He.free_ok X G (c.fact 6 (p := fun K => (He.Fa.free "range").ok K) rfl)
  have n_str : mg "str" = none := He.free_ok X G (c.fact 7 (p := fun K => (He.Fa.free "str").ok K) rfl)
  have n_tuple : mg "tuple" = none := He.free_ok X G (c.fact 8 (p := fun K => (He.Fa.free "tuple").ok K) rfl)
  have x_NoTime : ExcK K mg "NoTime" := by
    obtain ⟨h1, h2, h3, h4⟩ := He.exc_ok (x := "NoTime") (c.fact 10 (p := fun K => (He.Fa.exc "NoTime").ok K) rfl)
    exact ⟨_, He.glo_ok X G (c.fact 9 (p := fun K => (He.Fa.glo "NoTime").ok K) rfl), h1, h2, h3, h4⟩
  have k_FIGURES : ∃ v u, mg "FIGURES" = some u ∧ RelV v u ∧ ∀ G, Rep K mg G v c_FIGURES := by
    obtain ⟨t, e⟩ := He.str_ok X G (c.fact 11 (p := fun K => (He.Fa.str "FIGURES" "0123456789").ok K) rfl)
    exact ⟨.str "0123456789", _, e, ⟨t, rfl⟩, fun _ => .str _⟩
  have y_YardError : Caught K mg "YardError" tx_YardError := cau_ok X G (c.fact 12 (p := fun K => cauB K "YardError" [("YardError", true), ("NoTime", true), ("NoMachine", true), ("NoPlace", true), ("NoRow", true), ("TooMany", true)]) rfl)
  have j_NoMachine_NoPlace_NoRow_TooMany : IsXF K mg [.own "NoMachine", .own "NoPlace", .own "NoRow", .own "TooMany"] ix_NoMachine_NoPlace_NoRow_TooMany := isx_ok X G (c.fact 13 (p := fun K => isxB K [.own "NoMachine", .own "NoPlace", .own "NoRow", .own "TooMany"] [("YardError", false), ("NoTime", false), ("NoMachine", true), ("NoPlace", true), ("NoRow", true), ("TooMany", true)]) rfl)
  have j_NoTime : IsXF K mg [.own "NoTime"] ix_NoTime := isx_ok X G (c.fact 14 (p := fun K => isxB K [.own "NoTime"] [("YardError", false), ("NoTime", true), ("NoMachine", false), ("NoPlace", false), ("NoRow", false), ("TooMany", false)]) rfl)
  have j_ValueError : IsXF K mg [.ty "ValueError" "ValueError"] ix_ValueError := isx_ok X G (c.fact 15 (p := fun K => isxB K [.ty "ValueError" "ValueError"] [("YardError", true), ("NoTime", true), ("NoMachine", true), ("NoPlace", true), ("NoRow", true), ("TooMany", true)]) rfl)
  obtain ⟨fd__law_next, F__law_next⟩ := c.def_ 0 (d := d__law_next) rfl
  have a__law_next : mg "_law_next" = some (.ref (He.ga K "_law_next")) := He.glo_ok X G (c.fact 16 (p := fun K => (He.Fa.glo "_law_next").ok K) rfl)
  obtain ⟨fd__law_mixed, F__law_mixed⟩ := c.def_ 1 (d := d__law_mixed) rfl
  have a__law_mixed : mg "_law_mixed" = some (.ref (He.ga K "_law_mixed")) := He.glo_ok X G (c.fact 17 (p := fun K => (He.Fa.glo "_law_mixed").ok K) rfl)
  obtain ⟨fd__law_top, F__law_top⟩ := c.def_ 2 (d := d__law_top) rfl
  have a__law_top : mg "_law_top" = some (.ref (He.ga K "_law_top")) := He.glo_ok X G (c.fact 18 (p := fun K => (He.Fa.glo "_law_top").ok K) rfl)
  obtain ⟨fd__law_bottom, F__law_bottom⟩ := c.def_ 3 (d := d__law_bottom) rfl
  have a__law_bottom : mg "_law_bottom" = some (.ref (He.ga K "_law_bottom")) := He.glo_ok X G (c.fact 19 (p := fun K => (He.Fa.glo "_law_bottom").ok K) rfl)
  obtain ⟨fd_common, F_common⟩ := c.def_ 4 (d := d_common) rfl
  have a_common : mg "common" = some (.ref (He.ga K "common")) := He.glo_ok X G (c.fact 20 (p := fun K => (He.Fa.glo "common").ok K) rfl)
  obtain ⟨fd_time_of, F_time_of⟩ := c.def_ 5 (d := d_time_of) rfl
  have a_time_of : mg "time_of" = some (.ref (He.ga K "time_of")) := He.glo_ok X G (c.fact 21 (p := fun K => (He.Fa.glo "time_of").ok K) rfl)
  obtain ⟨fd_is_figures, F_is_figures⟩ := c.def_ 6 (d := d_is_figures) rfl
  have a_is_figures : mg "is_figures" = some (.ref (He.ga K "is_figures")) := He.glo_ok X G (c.fact 22 (p := fun K => (He.Fa.glo "is_figures").ok K) rfl)
  obtain ⟨fd_time_text, F_time_text⟩ := c.def_ 7 (d := d_time_text) rfl
  have a_time_text : mg "time_text" = some (.ref (He.ga K "time_text")) := He.glo_ok X G (c.fact 23 (p := fun K => (He.Fa.glo "time_text").ok K) rfl)
  obtain ⟨fd_read_time, F_read_time⟩ := c.def_ 8 (d := d_read_time) rfl
  have a_read_time : mg "read_time" = some (.ref (He.ga K "read_time")) := He.glo_ok X G (c.fact 24 (p := fun K => (He.Fa.glo "read_time").ok K) rfl)
  obtain ⟨fd__law_read, F__law_read⟩ := c.def_ 9 (d := d__law_read) rfl
  have a__law_read : mg "_law_read" = some (.ref (He.ga K "_law_read")) := He.glo_ok X G (c.fact 25 (p := fun K => (He.Fa.glo "_law_read").ok K) rfl)
  obtain ⟨fd__law_whole, F__law_whole⟩ := c.def_ 10 (d := d__law_whole) rfl
  have a__law_whole : mg "_law_whole" = some (.ref (He.ga K "_law_whole")) := He.glo_ok X G (c.fact 26 (p := fun K => (He.Fa.glo "_law_whole").ok K) rfl)
  obtain ⟨fd__law_is, F__law_is⟩ := c.def_ 11 (d := d__law_is) rfl
  have a__law_is : mg "_law_is" = some (.ref (He.ga K "_law_is")) := He.glo_ok X G (c.fact 27 (p := fun K => (He.Fa.glo "_law_is").ok K) rfl)
  obtain ⟨fd__law_odd, F__law_odd⟩ := c.def_ 12 (d := d__law_odd) rfl
  have a__law_odd : mg "_law_odd" = some (.ref (He.ga K "_law_odd")) := He.glo_ok X G (c.fact 28 (p := fun K => (He.Fa.glo "_law_odd").ok K) rfl)
  obtain ⟨fd__law_spoilt, F__law_spoilt⟩ := c.def_ 13 (d := d__law_spoilt) rfl
  have a__law_spoilt : mg "_law_spoilt" = some (.ref (He.ga K "_law_spoilt")) := He.glo_ok X G (c.fact 29 (p := fun K => (He.Fa.glo "_law_spoilt").ok K) rfl)
  obtain ⟨fd__law_number, F__law_number⟩ := c.def_ 14 (d := d__law_number) rfl
  have a__law_number : mg "_law_number" = some (.ref (He.ga K "_law_number")) := He.glo_ok X G (c.fact 30 (p := fun K => (He.Fa.glo "_law_number").ok K) rfl)
  obtain ⟨fd__law_due, F__law_due⟩ := c.def_ 15 (d := d__law_due) rfl
  have a__law_due : mg "_law_due" = some (.ref (He.ga K "_law_due")) := He.glo_ok X G (c.fact 31 (p := fun K => (He.Fa.glo "_law_due").ok K) rfl)
  obtain ⟨fd_law, F_law⟩ := c.def_ 16 (d := d_law) rfl
  have a_law : mg "law" = some (.ref (He.ga K "law")) := He.glo_ok X G (c.fact 32 (p := fun K => (He.Fa.glo "law").ok K) rfl)
  have e := hfa.symm.trans a_law
  cases e
  have bl := FunD.bindsA (ps := ["_law_script"]) F_law fun _ _ _ _ _ _ us hl => match us, hl with | [_], _ => rfl
  refine ⟨fd_law, fun s v => bl s [v] rfl, fun base _ _ => ?_⟩
  have O__law_next := ok__law_next (P := P) (w := w) (K := K) (mg := mg) (base := base) F__law_next
  have C__law_next : Cal P w K mg base 1 "_law_next" ["_law_more", "_law_cell", "_law_k"] [] m__law_next := cal_mk O__law_next a__law_next F__law_next.kp (FunD.bindsN F__law_next fun _ _ _ _ _ _ us hl => match us, hl with | [_, _, _], _ => rfl)
  have O__law_mixed := ok__law_mixed (P := P) (w := w) (K := K) (mg := mg) (base := base) F__law_mixed
  have C__law_mixed : Cal P w K mg base 1 "_law_mixed" ["_law_more"] [] m__law_mixed := cal_mk O__law_mixed a__law_mixed F__law_mixed.kp (FunD.bindsN F__law_mixed fun _ _ _ _ _ _ us hl => match us, hl with | [_], _ => rfl)
  have O__law_top := ok__law_top (P := P) (w := w) (K := K) (mg := mg) (base := base) C__law_mixed F__law_top
  have C__law_top : Cal P w K mg base 2 "_law_top" ["_law_more", "_law_cell"] [] m__law_top := cal_mk O__law_top a__law_top F__law_top.kp (FunD.bindsN F__law_top fun _ _ _ _ _ _ us hl => match us, hl with | [_, _], _ => rfl)
  have O__law_bottom := ok__law_bottom (P := P) (w := w) (K := K) (mg := mg) (base := base) C__law_mixed F__law_bottom
  have C__law_bottom : Cal P w K mg base 2 "_law_bottom" ["_law_more", "_law_cell"] [] m__law_bottom := cal_mk O__law_bottom a__law_bottom F__law_bottom.kp (FunD.bindsN F__law_bottom fun _ _ _ _ _ _ us hl => match us, hl with | [_, _], _ => rfl)
  have O_common := ok_common (P := P) (w := w) (K := K) (mg := mg) (base := base) F_common
  have C_common : Cal P w K mg base 1 "common" ["one", "other"] [] m_common := cal_mk O_common a_common F_common.kp (FunD.bindsN F_common fun _ _ _ _ _ _ us hl => match us, hl with | [_, _], _ => rfl)
  have O_time_of := ok_time_of (P := P) (w := w) (K := K) (mg := mg) (base := base) n_abs x_NoTime C_common F_time_of
  have C_time_of : Cal P w K mg base 2 "time_of" ["top", "bottom"] [] m_time_of := cal_mkD (dvs := []) O_time_of a_time_of F_time_of.kp (FunD.binds1 F_time_of 2 1 (by intro z; cases z) rfl fun _ _ _ _ _ _ _ us its hl hi => match us, hl, its, hi with | [_, _], _, [_], _ => ⟨_, rfl, rfl⟩) (fun _ => .nil)
  have O_is_figures := ok_is_figures (P := P) (w := w) (K := K) (mg := mg) (base := base) n_all k_FIGURES F_is_figures
  have C_is_figures : Cal P w K mg base 1 "is_figures" ["text"] [] m_is_figures := cal_mk O_is_figures a_is_figures F_is_figures.kp (FunD.bindsN F_is_figures fun _ _ _ _ _ _ us hl => match us, hl with | [_], _ => rfl)
  have O_time_text := ok_time_text (P := P) (w := w) (K := K) (mg := mg) (base := base) n_str F_time_text
  have C_time_text : Cal P w K mg base 1 "time_text" ["one"] [] m_time_text := cal_mk O_time_text a_time_text F_time_text.kp (FunD.bindsN F_time_text fun _ _ _ _ _ _ us hl => match us, hl with | [_], _ => rfl)
  have O_read_time := ok_read_time (P := P) (w := w) (K := K) (mg := mg) (base := base) n_int x_NoTime C_is_figures C_time_of C_time_text F_read_time
  have C_read_time : Cal P w K mg base 3 "read_time" ["text"] [] m_read_time := cal_mk O_read_time a_read_time F_read_time.kp (FunD.bindsN F_read_time fun _ _ _ _ _ _ us hl => match us, hl with | [_], _ => rfl)
  have O__law_read := ok__law_read (P := P) (w := w) (K := K) (mg := mg) (base := base) n_isinstance y_YardError j_NoMachine_NoPlace_NoRow_TooMany j_NoTime j_ValueError C_read_time F__law_read
  have C__law_read : Cal P w K mg base 4 "_law_read" ["_law_text"] [] m__law_read := cal_mk O__law_read a__law_read F__law_read.kp (FunD.bindsN F__law_read fun _ _ _ _ _ _ us hl => match us, hl with | [_], _ => rfl)
  have O__law_whole := ok__law_whole (P := P) (w := w) (K := K) (mg := mg) (base := base) n_bool n_int n_isinstance F__law_whole
  have C__law_whole : Cal P w K mg base 1 "_law_whole" ["_law_thing"] [] m__law_whole := cal_mk O__law_whole a__law_whole F__law_whole.kp (FunD.bindsN F__law_whole fun _ _ _ _ _ _ us hl => match us, hl with | [_], _ => rfl)
  have O__law_is := ok__law_is (P := P) (w := w) (K := K) (mg := mg) (base := base) n_abs n_isinstance n_len n_tuple C__law_whole F__law_is
  have C__law_is : Cal P w K mg base 2 "_law_is" ["_law_found", "_law_top_here", "_law_bottom_here"] [] m__law_is := cal_mk O__law_is a__law_is F__law_is.kp (FunD.bindsN F__law_is fun _ _ _ _ _ _ us hl => match us, hl with | [_, _, _], _ => rfl)
  have O__law_odd := ok__law_odd (P := P) (w := w) (K := K) (mg := mg) (base := base) F__law_odd
  have C__law_odd : Cal P w K mg base 1 "_law_odd" ["_law_number_here"] [] m__law_odd := cal_mk O__law_odd a__law_odd F__law_odd.kp (FunD.bindsN F__law_odd fun _ _ _ _ _ _ us hl => match us, hl with | [_], _ => rfl)
  have O__law_spoilt := ok__law_spoilt (P := P) (w := w) (K := K) (mg := mg) (base := base) n_len n_str C__law_odd F__law_spoilt
  have C__law_spoilt : Cal P w K mg base 2 "_law_spoilt" ["_law_text", "_law_top_here", "_law_bottom_here", "_law_number_here"] [] m__law_spoilt := cal_mk O__law_spoilt a__law_spoilt F__law_spoilt.kp (FunD.bindsN F__law_spoilt fun _ _ _ _ _ _ us hl => match us, hl with | [_, _, _, _], _ => rfl)
  have O__law_number := ok__law_number (P := P) (w := w) (K := K) (mg := mg) (base := base) n_int n_len F__law_number
  have C__law_number : Cal P w K mg base 1 "_law_number" ["_law_text"] [] m__law_number := cal_mk O__law_number a__law_number F__law_number.kp (FunD.bindsN F__law_number fun _ _ _ _ _ _ us hl => match us, hl with | [_], _ => rfl)
  have O__law_due := ok__law_due (P := P) (w := w) (K := K) (mg := mg) (base := base) n_len C__law_is C__law_number F__law_due
  have C__law_due : Cal P w K mg base 3 "_law_due" ["_law_text"] [] m__law_due := cal_mk O__law_due a__law_due F__law_due.kp (FunD.bindsN F__law_due fun _ _ _ _ _ _ us hl => match us, hl with | [_], _ => rfl)
  have O_law := ok_law (P := P) (w := w) (K := K) (mg := mg) (base := base) n_len n_range n_str C__law_bottom C__law_due C__law_is C__law_mixed C__law_next C__law_read C__law_spoilt C__law_top C_time_of C_time_text F_law
  exact law_sp O_law law_true
end Cy

set_option Elab.async false
set_option linter.all false
set_option maxRecDepth 100000
set_option maxHeartbeats 4000000
set_option exponentiation.threshold 10000
namespace Cy
open PySem PySem.Spec PyProof.Rows L2 PL
/-! ### times -/
theorem common_loop (b : Nat) : ∀ a : Nat, sWh c_common_1 b_common_0 [.fz (.int a), .fz (.int b)] = .nx [.fz (.int (Nat.gcd a b : Nat)), .fz (.int 0)] := by
  induction b using Nat.strongRecOn with
  | _ b ih =>
    intro a
    by_cases hb : b = 0
    · subst hb
      rw [sWh_end (by simp [c_common_1])]
      simp
    · have h0 : (0 : Int) < b := by omega
      have hg : Nat.gcd a b = Nat.gcd b (a % b) := by rw [Nat.gcd_comm a b, Nat.gcd_rec b a, Nat.gcd_comm]
      refine sWh_step (env' := [.fz (.int b), .fz (.int (a % b : Nat))]) (by simp [c_common_1]; omega) (by simp [b_common_0, mod_ (a : Int) b h0]) ?_ (by intro z; cases z)
      rw [ih (a % b) (Nat.mod_lt _ (by omega)) b, hg]
theorem common_ok (a b : Nat) : m_common [.int a, .int b] = .ok (.fz (.int (Nat.gcd a b : Nat))) := by
  simp [m_common, runB_, g_common, common_loop]
theorem is_loop (s0 s1 s2 : Sl) (b : Nat) : ∀ a : Nat, sWh c__law_is_1 b__law_is_0 [s0, s1, s2, .fz (.int a), .fz (.int b)] = .nx [s0, s1, s2, .fz (.int (Nat.gcd a b : Nat)), .fz (.int 0)] := by
  induction b using Nat.strongRecOn with
  | _ b ih =>
    intro a
    by_cases hb : b = 0
    · subst hb
      rw [sWh_end (by simp [c__law_is_1])]
      simp
    · have h0 : (0 : Int) < b := by omega
      have hg : Nat.gcd a b = Nat.gcd b (a % b) := by rw [Nat.gcd_comm a b, Nat.gcd_rec b a, Nat.gcd_comm]
      refine sWh_step (env' := [s0, s1, s2, .fz (.int b), .fz (.int (a % b : Nat))]) (by simp [c__law_is_1]; omega) (by simp [b__law_is_0, mod_ (a : Int) b h0]) ?_ (by intro z; cases z)
      rw [ih (a % b) (Nat.mod_lt _ (by omega)) b, hg]
theorem abs_nat (a : Int) : (if a < 0 then -a else a) = ((a.natAbs : Nat) : Int) := by split <;> omega
theorem time_ok (a b : Int) (hb : 0 < b) (hl : b.natAbs < 2 ^ 8000) : m_time_of [.int a, .int b] = .ok (.fz (nf a b)) := by
  have hc : m_common [.int (a.natAbs : Nat), .int b] = .ok (.fz (.int (Int.gcd a b : Nat))) := by
    have e : b = ((b.natAbs : Nat) : Int) := by omega
    rw [e]
    have := common_ok a.natAbs b.natAbs
    rw [this]
    simp [Int.gcd]
  have hg : (0 : Int) < (Int.gcd a b : Nat) := by have := gcd_posR a b hb; omega
  have hle : Int.gcd a b ≤ b.natAbs := by
    unfold Int.gcd
    exact Nat.gcd_le_right _ (by omega)
  have f : ∀ i : Int, fdivI i (Int.gcd a b : Nat) = .ok (.fz (.int (i / (Int.gcd a b : Nat)))) := fun i => fdiv_ i _ hg (by
    rw [Int.natAbs_natCast]
    have : Int.gcd a b < 2 ^ 8000 := Nat.lt_of_le_of_lt hle hl
    have := log2_small (i := ((Int.gcd a b : Nat) : Int)) (n := 8000) (by rw [Int.natAbs_natCast]; exact this) (by decide)
    rw [Int.natAbs_natCast] at this
    omega)
  have b0 : ¬ b = 0 := by omega
  have b1 : ¬ b < 0 := by omega
  clear hl hle
  simp [m_time_of, runB_, g_time_of, b0, b1, abs_nat, hc, f, nf]
def tm (p q : Int) : D := .tup [.int p, .int q]
theorem at0 (p q : D) : atI [p, q] 0 = some p := atI_some (j := 0) rfl rfl
theorem at1 (p q : D) : atI [p, q] 1 = some q := atI_some (j := 1) rfl rfl
theorem bm {x y : Int} {m n : Nat} (hx : x.natAbs < 2 ^ m) (hy : y.natAbs < 2 ^ n) : (x * y).natAbs < 2 ^ (m + n) := by
  rw [Int.natAbs_mul, Nat.pow_add]
  exact Nat.mul_lt_mul'' hx hy
theorem lw_int (p : Int) : m__law_whole [.int p] = .ok (.fz (.bl true)) := by simp [m__law_whole, runB_, g__law_whole]
/-- a time in lowest terms is told as that of any fraction of its worth -/
theorem is_ok (p q a b : Int) (h1 : p.natAbs < 2 ^ 400) (h2 : q.natAbs < 2 ^ 400) (h3 : a.natAbs < 2 ^ 400) (h4 : b.natAbs < 2 ^ 400) (hq : 0 < q) (hg : Int.gcd p q = 1) (hc : p * b = a * q) : m__law_is [tm p q, .int a, .int b] = .ok (.fz (.bl true)) := by
  have e1 := mul_ p b 400 400 h1 h4
  have e2 := mul_ a q 400 400 h3 h2
  have e3 : q = ((q.natAbs : Nat) : Int) := by omega
  have l := is_loop (.fz (tm p q)) (.fz (.int a)) (.fz (.int b)) q.natAbs p.natAbs
  rw [← e3] at l
  have l' : Nat.gcd p.natAbs q.natAbs = 1 := hg
  rw [l'] at l
  clear h1 h2 h3 h4
  simp [tm] at l
  simp [m__law_is, runB_, g__law_is, tm, at0, at1, lw_int, abs_nat, l, e1, e2, hc, hq]
/-! ### fractions told by any top and bottom -/
theorem nf_sm {a b : Int} (hb : 0 < b) (h1 : a.natAbs < 2 ^ 400) (h2 : b.natAbs < 2 ^ 400) : ∃ p q, nf a b = tm p q ∧ 0 < q ∧ Int.gcd p q = 1 ∧ p * b = a * q ∧ p.natAbs < 2 ^ 400 ∧ q.natAbs < 2 ^ 400 := by
  obtain ⟨p, q, e1, k1, k2, k3, k4, k5⟩ := nf_ok a b hb
  exact ⟨p, q, e1, k1, k2, k3, Nat.lt_of_le_of_lt k4 h1, Nat.lt_of_le_of_lt (by omega) h2⟩
theorem isF {a b : Int} (hb : 0 < b) (h1 : a.natAbs < 2 ^ 400) (h2 : b.natAbs < 2 ^ 400) : m__law_is [nf a b, .int a, .int b] = .ok (.fz (.bl true)) := by
  obtain ⟨p, q, e1, k1, k2, k3, k4, k5⟩ := nf_sm hb h1 h2
  rw [e1]
  exact is_ok p q a b k4 k5 h1 h2 k1 k2 k3
/-! ### the numbers -/
theorem next_ok (more cell k : Int) (h0 : 0 ≤ more) (h1 : more < 4294967296) : ∃ r, m__law_next [.int more, .int cell, .int k] = .ok (.fz (.int r)) ∧ 0 ≤ r ∧ r < 2147483647 := by
  have m1 : mulI more 48271 = .ok (.fz (.int (more * 48271))) := mul_ more 48271 32 31 (by omega) (by omega)
  refine ⟨_, by simp [m__law_next, runB_, g__law_next, m1]; rfl, emod_rng _ _ (by decide)⟩
theorem mixed_ok (more : Int) (h0 : 0 ≤ more) (h1 : more < 4294967296) : ∃ r, m__law_mixed [.int more] = .ok (.fz (.int r)) ∧ 0 ≤ r ∧ r < 2147483629 := by
  have m1 : mulI more more = .ok (.fz (.int (more * more))) := mul_ more more 32 32 (by omega) (by omega)
  have m2 : mulI 16807 more = .ok (.fz (.int (16807 * more))) := mul_ 16807 more 31 32 (by omega) (by omega)
  refine ⟨_, by simp [m__law_mixed, runB_, g__law_mixed, m1, m2]; rfl, emod_rng _ _ (by decide)⟩
theorem p28 : powI 10 28 = .ok (.fz (.int 10000000000000000000000000000)) := by unfold powI; rw [need_pos (by decide)]; rfl
theorem mul_cell (cell x m : Int) (hc : Builtin.Int.intBits cell ≤ 1048576) (hx : x.natAbs < 2 ^ 34) (hm : m.natAbs < 2 ^ 34) : mulI (cell + x) m = .ok (.fz (.int ((cell + x) * m))) := by
  have h := natAbs_lt_pow_bits cell
  generalize Builtin.Int.intBits cell = n at hc h
  have q1 : (2 : Nat) ^ n ≤ 2 ^ (n + 34) := Nat.pow_le_pow_right (by decide) (by omega)
  have q2 : (2 : Nat) ^ 34 ≤ 2 ^ (n + 34) := Nat.pow_le_pow_right (by decide) (by omega)
  have q3 : (2 : Nat) ^ (n + 35) = 2 ^ (n + 34) + 2 ^ (n + 34) := by rw [show n + 35 = (n + 34) + 1 by omega, Nat.pow_succ]; omega
  have q4 : (cell + x).natAbs < 2 ^ (n + 35) := by
    rw [q3]
    have : (cell + x).natAbs ≤ cell.natAbs + x.natAbs := Int.natAbs_add_le _ _
    exact Nat.lt_of_le_of_lt this (Nat.add_lt_add (Nat.lt_of_lt_of_le h q1) (Nat.lt_of_lt_of_le hx q2))
  exact mul_ _ _ (n + 35) 34 q4 hm (by omega) (by omega) (by omega)
def Tp (t : Int) : Prop := -10000000000000000000000000000 ≤ t ∧ t ≤ 10000000000000000000000000000
def Bt (b : Int) : Prop := 1 ≤ b ∧ b ≤ 10000000000000000000000000000
theorem top_ok (more cell : Int) (h0 : 0 ≤ more) (h1 : more < 2147483647) (hc : Builtin.Int.intBits cell ≤ 1048576) : ∃ t, m__law_top [.int more, .int cell] = .ok (.fz (.int t)) ∧ Tp t := by
  obtain ⟨m, e, k0, k1⟩ := mixed_ok more h0 (by omega)
  have f5 : ∀ z : Int, fdivI z 5 = .ok (.fz (.int (z / 5))) := fun z => fdiv_ z 5 (by omega) (by decide)
  have m1 : mulI 2 (m / 5 % 2) = .ok (.fz (.int (2 * (m / 5 % 2)))) := mul_ _ _ 2 2 (by omega) (by omega)
  have m2 : mulI (cell % 10000000000000000000000000000) (1 - 2 * (m / 5 % 2)) = .ok (.fz (.int (cell % 10000000000000000000000000000 * (1 - 2 * (m / 5 % 2))))) := mul_ _ _ 100 2 (by omega) (by omega)
  have m3 := mul_cell cell m m hc (by omega) (by omega)
  by_cases c0 : m % 5 = 0
  · refine ⟨m / 5 % 7 - 3, by simp [m__law_top, runB_, g__law_top, e, f5, c0], ?_⟩
    unfold Tp; omega
  · by_cases c1 : m % 5 = 1
    · refine ⟨_, by simp [m__law_top, runB_, g__law_top, e, f5, c1, p28, m1, m2]; rfl, ?_⟩
      have r := emod_rng cell 10000000000000000000000000000 (by decide)
      rcases (show m / 5 % 2 = 0 ∨ m / 5 % 2 = 1 by omega) with z | z <;> rw [z] <;> unfold Tp <;> omega
    · by_cases c2 : m % 5 = 2
      · refine ⟨_, by simp [m__law_top, runB_, g__law_top, e, f5, c2, p28, m3]; rfl, ?_⟩
        have r := emod_rng ((cell + m) * m) 10000000000000000000000000000 (by decide)
        unfold Tp; omega
      · refine ⟨m / 5 % 2001 - 1000, by simp [m__law_top, runB_, g__law_top, e, f5, c0, c1, c2], ?_⟩
        unfold Tp; omega
theorem two_at (u v : D) (z : Int) : atI [u, v] (z % 2) = some (if z % 2 = 0 then u else v) := by
  have h := emod_rng z 2 (by decide)
  by_cases c : z % 2 = 0
  · rw [if_pos c, c]; exact at0 u v
  · rw [if_neg c, show z % 2 = 1 by omega]; exact at1 u v
theorem bottom_ok (more cell : Int) (h0 : 0 ≤ more) (h1 : more < 2147483647) (hc : Builtin.Int.intBits cell ≤ 1048576) : ∃ t, m__law_bottom [.int more, .int cell] = .ok (.fz (.int t)) ∧ Bt t := by
  obtain ⟨m, e, k0, k1⟩ := mixed_ok (more + 77) (by omega) (by omega)
  have f5 : ∀ z : Int, fdivI z 5 = .ok (.fz (.int (z / 5))) := fun z => fdiv_ z 5 (by omega) (by decide)
  have m1 : mulI 3 m = .ok (.fz (.int (3 * m))) := mul_ _ _ 2 31 (by omega) (by omega)
  have m3 := mul_cell cell (3 * m) m hc (by omega) (by omega)
  have t2 : ∀ (u v z : Int), atI [D.int u, D.int v] (z % 2) = some (D.int (if z % 2 = 0 then u else v)) := fun u v z => by rw [two_at]; split <;> rfl
  have p2 : ∀ (x z : Int), modI x (if z % 2 = 0 then 12 else 1000) = .ok (.fz (.int (x % (if z % 2 = 0 then 12 else 1000)))) := fun x z => mod_ _ _ (by split <;> omega)
  by_cases c0 : m % 5 = 0
  · exact ⟨1, by simp [m__law_bottom, runB_, g__law_bottom, e, f5, c0], by unfold Bt; omega⟩
  · by_cases c1 : m % 5 = 1
    · refine ⟨_, by simp [m__law_bottom, runB_, g__law_bottom, e, f5, c1, p28]; rfl, ?_⟩
      have r := emod_rng cell 10000000000000000000000000000 (by decide)
      unfold Bt; omega
    · by_cases c2 : m % 5 = 2
      · refine ⟨_, by simp [m__law_bottom, runB_, g__law_bottom, e, f5, c2, p28, m1, m3]; rfl, ?_⟩
        have r := emod_rng ((cell + 3 * m) * m) 10000000000000000000000000000 (by decide)
        unfold Bt; omega
      · refine ⟨1 + m / 5 % (if m % 5 % 2 = 0 then 12 else 1000), by simp [m__law_bottom, runB_, g__law_bottom, e, f5, c0, c1, c2, t2, p2], ?_⟩
        unfold Bt; split <;> omega
/-! ### figures -/
theorem eq_str {a b : Str} (ha : PyData.strOk a = true) (hb : PyData.strOk b = true) : eqD (.str a) (.str b) = .ok (.fz (.bl (decide (a = b)))) := by
  have e : (a == b) = decide (a = b) := by rw [Bool.eq_iff_iff]; simp
  simp [eqD, D.pl, ha, hb, eqB, D.toPy, PyData.eqv, e]
theorem ne_str {a b : Str} (ha : PyData.strOk a = true) (hb : PyData.strOk b = true) : neD (.str a) (.str b) = .ok (.fz (.bl (!decide (a = b)))) := by
  have e : (a == b) = decide (a = b) := by rw [Bool.eq_iff_iff]; simp
  simp [neD, D.pl, ha, hb, eqB, D.toPy, PyData.eqv, e]
def FS : Str := "0123456789"
theorem FS_list : FS.cps.toList = [48, 49, 50, 51, 52, 53, 54, 55, 56, 57] := by decide +kernel
def dg (c : Nat) : Bool := decide (48 ≤ c ∧ c ≤ 57)
theorem dg_in (c : Nat) : decide (c ∈ FS.cps.toList) = dg c := by
  unfold dg
  apply decide_eq_decide.mpr
  rw [FS_list]
  simp
  omega
theorem sign_str (c : Nat) : strSign ⟨#[c]⟩ = some c := rfl
theorem in_sign (c : Nat) : inB (.str ⟨#[c]⟩) (.str FS) = .ok (dg c) := by
  have : inB (.str ⟨#[c]⟩) (.str FS) = .ok (decide (c ∈ FS.cps.toList)) := by simp [inB, sign_str]
  rw [this, dg_in]
/-- figures without a leading nought -/
def figB (l : List Nat) : Bool := !decide (l = []) && (!(decide (l.head? = some 48) && !decide (l = [48])) && l.all dg)
theorem ok_nil : PyData.strOk (Str.ofString "") = true := by decide +kernel
theorem ok_0 : PyData.strOk (Str.ofString "0") = true := by decide +kernel
theorem list_nil : (Str.ofString "").cps.toList = [] := by decide +kernel
theorem list_0 : (Str.ofString "0").cps.toList = [48] := by decide +kernel
theorem str_iff {a b : Str} : a = b ↔ a.cps.toList = b.cps.toList := ⟨fun h => by rw [h], str_ext⟩
theorem starts_one (z : Str) (c : Nat) : Txt.startswith z ⟨#[c]⟩ = decide (z.cps.toList.head? = some c) := by
  have q := StrLaws.subAt_one z c 0
  rw [← List.head?_eq_getElem?] at q
  unfold Txt.startswith
  rw [Bool.eq_iff_iff, decide_eq_true_iff, Bool.and_eq_true, decide_eq_true_iff]
  exact q
theorem str0 : Str.ofString "0" = ⟨#[48]⟩ := by decide +kernel
theorem figures_ok (z : Str) (h : PyData.strOk z = true) (hl : z.length ≤ 1000) : m_is_figures [.str z] = .ok (.fz (.bl (figB z.cps.toList))) := by
  have hsg : (PL.signs z).length < 16000000 := by simp [PL.signs]; have := str_len z; simp at this; omega
  have e0 : eqD (.str z) (.str (Str.ofString "")) = .ok (.fz (.bl (decide (z.cps.toList = [])))) := by
    rw [eq_str h ok_nil]
    congr 3
    apply decide_eq_decide.mpr
    rw [str_iff, list_nil]
  have e1 : neD (.str z) (.str (Str.ofString "0")) = .ok (.fz (.bl (!decide (z.cps.toList = [48])))) := by
    rw [ne_str h ok_0]
    congr 4
    apply decide_eq_decide.mpr
    rw [str_iff, list_0]
  have e2 : startsD z (.str (Str.ofString "0")) = .ok (.fz (.bl (decide (z.cps.toList.head? = some 48)))) := by
    rw [str0]
    show okB (Txt.startswith z ⟨#[48]⟩) = _
    rw [starts_one]
    rfl
  have hc : lcL (gN 1) xYes e_is_figures_0 (PL.signs z) [.fz (.str z), .no] = .ok (z.cps.toList.map fun c => D.bl (dg c)) := by
    refine lcL_mapA (fun c => D.str ⟨#[c]⟩) (fun c => D.bl (dg c)) z.cps.toList _ fun c _ => ⟨_, rfl, rfl, ?_⟩
    have e0 : c_FIGURES = .str FS := rfl
    simp [e_is_figures_0, e0, in_sign]
  have ha := allD_map dg z.cps.toList
  have eM : xM1 startsD (xVar 0) (xC (.str (Str.ofString "0"))) [.fz (.str z), .no] = .ok (.fz (.bl (decide (z.cps.toList.head? = some 48)))) := by
    simp [xM1, e2]
  unfold figB
  generalize z.cps.toList.map (fun c => D.bl (dg c)) = XX at hc ha
  generalize z.cps.toList.all dg = bb at ha
  by_cases c0 : z.cps.toList = []
  · simp only [c0, decide_true] at e0
    simp [m_is_figures, runB_, g_is_figures, e0, c0]
  · simp only [c0, decide_false] at e0
    by_cases c1 : z.cps.toList.head? = some 48
    · simp only [c1, decide_true] at eM
      by_cases c2 : z.cps.toList = [48]
      · simp only [c2, decide_true, Bool.not_true] at e1
        simp [m_is_figures, runB_, g_is_figures, e0, eM, e1, c2, hsg, hc, ha]
      · simp only [c2, decide_false, Bool.not_false] at e1
        have c0' : ¬ z.cps = #[] := fun q => c0 (by rw [q])
        have c2' : ¬ z.cps = #[48] := fun q => c2 (by rw [q])
        simp [m_is_figures, runB_, g_is_figures, e0, eM, e1, c1, c2]
    · simp only [c1, decide_false] at eM
      simp [m_is_figures, runB_, g_is_figures, e0, eM, c0, c1, hsg, hc, ha]
theorem num_loop (z : Sl) : ∀ (l : List Nat) (s1 : Sl), (l.all dg = true → ∃ s, forL (gN 1) b__law_number_0 (l.map fun c => D.str ⟨#[c]⟩) [z, s1] = .nx [z, s]) ∧ (l.all dg = false → forL (gN 1) b__law_number_0 (l.map fun c => D.str ⟨#[c]⟩) [z, s1] = .rt (.fz .non))
  | [], s1 => ⟨fun _ => ⟨s1, rfl⟩, fun h => by simp at h⟩
  | c :: l, s1 => by
    have ih := num_loop z l (.fz (.str ⟨#[c]⟩))
    have hb : b__law_number_0 [z, .fz (.str ⟨#[c]⟩)] = if dg c = true then .nx [z, .fz (.str ⟨#[c]⟩)] else .rt (.fz .non) := by
      have := in_sign c
      unfold FS at this
      cases hd : dg c <;> simp [b__law_number_0, this, hd]
    rw [List.map_cons, List.all_cons]
    unfold forL
    cases hd : dg c with
    | true =>
      rw [hd] at hb
      simp only [gN_, setL_cons, setL_nil, List.set_cons_succ, List.set_cons_zero, hb, Bool.true_and, if_true]
      exact ih
    | false =>
      rw [hd] at hb
      simp [hb]
def numD (l : List Nat) : D := if figB l = true then .int (NumText.digitsVal l : Nat) else .non
theorem number_ok (z : Str) (h : PyData.strOk z = true) (hl : z.length ≤ 600) : m__law_number [.str z] = .ok (.fz (numD z.cps.toList)) := by
  have hsz : z.length ≤ sizeLine := Nat.le_trans hl (by decide)
  have hlen : z.cps.toList.length = z.length := str_len z
  have e0 : eqD (.str z) (.str (Str.ofString "")) = .ok (.fz (.bl (decide (z.cps.toList = [])))) := by
    rw [eq_str h ok_nil]
    congr 3
    apply decide_eq_decide.mpr
    rw [str_iff, list_nil]
  by_cases c0 : z.cps.toList = []
  · have hf : figB z.cps.toList = false := by rw [c0]; rfl
    simp only [c0, decide_true] at e0
    unfold numD
    rw [hf]
    simp [m__law_number, runB_, g__law_number, e0]
  · simp only [c0, decide_false] at e0
    have hpos : 0 < z.cps.toList.length := List.length_pos_iff.mpr c0
    obtain ⟨c, r, hcr⟩ := List.exists_cons_of_ne_nil c0
    have ix : ixD (.str z) (.int 0) = okS ⟨#[c]⟩ := by
      have hat : atI z.cps.toList 0 = some c := by rw [hcr]; exact atI_some (j := 0) rfl rfl
      unfold ixD
      dsimp only
      rw [need_pos hsz, hat]
    have okc : PyData.strOk ⟨#[c]⟩ = true := by
      rw [strOk_iff] at h ⊢
      intro d hd
      have : d = c := by simpa using hd
      rw [this]
      exact h c (by rw [hcr]; exact List.mem_cons_self)
    have e1 : eqD (.str ⟨#[c]⟩) (.str (Str.ofString "0")) = .ok (.fz (.bl (decide (c = 48)))) := by
      rw [eq_str okc ok_0]
      congr 3
      apply decide_eq_decide.mpr
      rw [str0, str_iff]
      simp
    have e2 : lenD [.str z] = .ok (.fz (.int z.length)) := by rw [len_s, need_pos hsz]
    have hn : z.length = r.length + 1 := by rw [← hlen, hcr]; rfl
    obtain ⟨l1, l2⟩ := num_loop (.fz (.str z)) z.cps.toList .no
    have hsig : PL.signs z = z.cps.toList.map fun c => D.str ⟨#[c]⟩ := rfl
    rw [← hsig] at l1 l2
    have key : ((c = 48 ∧ 1 < z.length) ↔ (z.cps.toList.head? = some 48 ∧ ¬ z.cps.toList = [48])) := by
      rw [hcr, hn]
      constructor
      · rintro ⟨rfl, h2⟩
        exact ⟨rfl, fun q => by cases q; simp at h2⟩
      · rintro ⟨h1, h2⟩
        have : c = 48 := by simpa using h1
        subst this
        refine ⟨rfl, ?_⟩
        cases r with
        | nil => exact absurd rfl h2
        | cons _ _ => simp
    by_cases k : c = 48 ∧ 1 < z.length
    · obtain ⟨k1, k2⟩ := key.mp k
      have hf : figB z.cps.toList = false := by
        unfold figB
        rw [decide_eq_true k1, decide_eq_false k2]
        simp
      have hg : (1 : Int) < z.length := by omega
      unfold numD
      rw [hf]
      obtain ⟨k3, _⟩ := k
      simp only [k3, decide_true] at e1
      rw [k3] at ix
      simp [m__law_number, runB_, g__law_number, e0, e2, hg, ix, e1]
    · have hk : (decide (z.cps.toList.head? = some 48) && !decide (z.cps.toList = [48])) = false := by
        rw [Bool.and_eq_false_iff]
        by_cases k1 : z.cps.toList.head? = some 48
        · right
          by_cases k2 : z.cps.toList = [48]
          · rw [decide_eq_true k2]; rfl
          · exact absurd (key.mpr ⟨k1, k2⟩) k
        · left
          exact decide_eq_false k1
      have hf : figB z.cps.toList = z.cps.toList.all dg := by
        unfold figB
        rw [hk, decide_eq_false c0]
        simp
      unfold numD
      rw [hf]
      have first : ∀ X Y : Out, ifT [.fz (.str z), .no] (xOr (xB (xBin eqD (xVar 0) (xC (.str (Str.ofString ""))))) (xAnd (xB (xBin gtI (xBlt lenD (xConsR (xVar 0) xNil)) (xC (.int 1)))) (xB (xBin eqD (xBin ixD (xVar 0) (xC (.int 0))) (xC (.str (Str.ofString "0")))))) [.fz (.str z), .no]) X Y = Y := by
        intro X Y
        by_cases g1 : 1 < z.length
        · have g1' : (1 : Int) < z.length := by omega
          have g2 : ¬ c = 48 := fun q => k ⟨q, g1⟩
          simp only [g2, decide_false] at e1
          simp [e0, e2, g1', ix, e1]
        · have g1' : ¬ (1 : Int) < z.length := by omega
          simp [e0, e2, g1']
      cases hall : z.cps.toList.all dg with
      | false =>
        have := l2 hall
        simp only [m__law_number, runB_, g__law_number, List.map_cons, List.map_nil, List.length_cons, List.length_nil, sSeq_, sIf_]
        show outR (Out.thn (ifT [.fz (.str z), .no] _ _ _) _) = _
        have hrep : ([Sl.fz (D.str z)] ++ List.replicate (2 - (0 + 1)) Sl.no) = [.fz (.str z), .no] := rfl
        rw [hrep, first]
        simp [this]
      | true =>
        obtain ⟨s, hs⟩ := l1 hall
        have hd : NumText.AllDigits z.cps.toList := fun d hd => by
          have := List.all_eq_true.mp hall d hd
          simpa [dg] using this
        have hi : PL.intD [.str z] = .ok (.fz (.int (NumText.digitsVal z.cps.toList : Nat))) := by
          unfold PL.intD
          dsimp only
          have q : PySem.intText? z = some ((NumText.digitsVal z.cps.toList : Nat) : Int) := PySem.intText_digits hd c0 (by omega)
          rw [q]
          dsimp only
          rw [need_pos (by omega)]
          rfl
        simp only [m__law_number, runB_, g__law_number, List.map_cons, List.map_nil, List.length_cons, List.length_nil, sSeq_, sIf_]
        show outR (Out.thn (ifT [.fz (.str z), .no] _ _ _) _) = _
        have hrep : ([Sl.fz (D.str z)] ++ List.replicate (2 - (0 + 1)) Sl.no) = [.fz (.str z), .no] := rfl
        rw [hrep, first]
        simp [hs, hi]
/-! ### a sign ahead -/
def neg (z : Str) : Bool := decide (z.cps.toList.head? = some 45)
def tailS (z : Str) : Str := ⟨(z.cps.toList.drop 1).toArray⟩
def bodyS (z : Str) : Str := if neg z = true then tailS z else z
theorem tail_list (z : Str) : (tailS z).cps.toList = z.cps.toList.drop 1 := by simp [tailS]
theorem cut_tail (z : Str) : cutS z (some 1) none = tailS z := by
  refine str_ext ?_
  rw [cut_cps, tail_list]
  have e1 : HT.sIx z.length 0 (some 1) = min 1 z.length := HT.sIx_nat z.length 0 1
  rw [e1, HT.sIx_none]
  have hl := str_len z
  by_cases h : z.length = 0
  · have : z.cps.toList = [] := List.eq_nil_of_length_eq_zero (by omega)
    rw [this]
    simp
  · have e2 : min 1 z.length = 1 := by omega
    rw [e2]
    exact List.take_of_length_le (by simp [hl])
theorem cut_head (z : Str) : (cutS z none (some 1)).cps.toList = z.cps.toList.take 1 := by
  rw [cut_cps]
  have e1 : HT.sIx z.length z.length (some 1) = min 1 z.length := HT.sIx_nat z.length z.length 1
  rw [e1, HT.sIx_none]
  have hl := str_len z
  by_cases h : z.length = 0
  · have : z.cps.toList = [] := List.eq_nil_of_length_eq_zero (by omega)
    rw [this]
    simp
  · have e2 : min 1 z.length = 1 := by omega
    rw [e2]
    simp
theorem strM : Str.ofString "-" = ⟨#[45]⟩ := by decide +kernel
theorem strS : Str.ofString "/" = sg 47 := by decide +kernel
theorem head_eq (z : Str) : (cutS z none (some 1) = ⟨#[45]⟩) ↔ neg z = true := by
  rw [str_iff, cut_head]
  unfold neg
  cases z.cps.toList with
  | nil => simp
  | cons x r => simp
/-! ### what a text says -/
theorem is_val (p q : Int) (h1 : p.natAbs < 2 ^ 400) (h2 : q.natAbs < 2 ^ 400) (hq : 0 < q) : m__law_is [tm p q, .int p, .int q] = .ok (.fz (.bl (decide (Int.gcd p q = 1)))) := by
  have e1 := mul_ p q 400 400 h1 h2
  have e3 : q = ((q.natAbs : Nat) : Int) := by omega
  have l := is_loop (.fz (tm p q)) (.fz (.int p)) (.fz (.int q)) q.natAbs p.natAbs
  rw [← e3] at l
  have l' : Nat.gcd p.natAbs q.natAbs = Int.gcd p q := rfl
  rw [l'] at l
  clear h1 h2
  have e4 : decide ((Int.gcd p q : Int) = 1) = decide (Int.gcd p q = 1) := by
    apply decide_eq_decide.mpr
    omega
  simp [tm] at l
  simp [m__law_is, runB_, g__law_is, tm, at0, at1, lw_int, abs_nat, l, e1, hq, e4]
  by_cases c : Int.gcd p q = 1
  · rw [if_pos c, decide_eq_true c]
  · rw [if_neg c, decide_eq_false c]
theorem val_lt : ∀ (l : List Nat) (a : Nat), (∀ c ∈ l, c ≤ 57) → l.foldl (fun acc c => acc * 10 + (c - 48)) a < (a + 1) * 10 ^ l.length
  | [], a, _ => by simp
  | c :: r, a, h => by
    have hc := h c List.mem_cons_self
    have ih := val_lt r (a * 10 + (c - 48)) fun d hd => h d (List.mem_cons_of_mem _ hd)
    rw [List.foldl_cons, List.length_cons, Nat.pow_succ]
    refine Nat.lt_of_lt_of_le ih ?_
    have : a * 10 + (c - 48) + 1 ≤ (a + 1) * 10 := by omega
    calc (a * 10 + (c - 48) + 1) * 10 ^ r.length ≤ (a + 1) * 10 * 10 ^ r.length := Nat.mul_le_mul_right _ this
      _ = (a + 1) * (10 ^ r.length * 10) := by rw [Nat.mul_assoc, Nat.mul_comm 10]
theorem val_small (l : List Nat) (h : figB l = true) (hl : l.length ≤ 120) : NumText.digitsVal l < 2 ^ 400 := by
  have hd : ∀ c ∈ l, c ≤ 57 := by
    unfold figB at h
    simp only [Bool.and_eq_true] at h
    intro c hc
    have := List.all_eq_true.mp h.2.2 c hc
    have : 48 ≤ c ∧ c ≤ 57 := by simpa [dg] using this
    exact this.2
  have q := val_lt l 0 hd
  have e : (0 + 1) * 10 ^ l.length ≤ 10 ^ 120 := by
    rw [Nat.zero_add, Nat.one_mul]
    exact Nat.pow_le_pow_right (by decide) hl
  have e2 : (10 : Nat) ^ 120 < 2 ^ 400 := by decide
  exact Nat.lt_trans (Nat.lt_of_lt_of_le q e) e2
def rdA (a : Str) : D := if figB (bodyS a).cps.toList = true then (if neg a = true ∧ NumText.digitsVal (bodyS a).cps.toList = 0 then .non else
  tm ((if neg a = true then -1 else 1) * (NumText.digitsVal (bodyS a).cps.toList : Nat)) 1) else .non
def rdB (a b : Str) : D := if figB (bodyS a).cps.toList = true ∧ figB b.cps.toList = true then (if NumText.digitsVal (bodyS a).cps.toList = 0 ∨ NumText.digitsVal b.cps.toList < 2 ∨ Nat.gcd (NumText.digitsVal (bodyS a).cps.toList) (NumText.digitsVal b.cps.toList) ≠ 1 then .non else
  tm ((if neg a = true then -1 else 1) * (NumText.digitsVal (bodyS a).cps.toList : Nat)) (NumText.digitsVal b.cps.toList : Nat)) else .non
theorem ok_sub {a b : Str} (h : PyData.strOk b = true) (hs : ∀ c ∈ a.cps.toList, c ∈ b.cps.toList) : PyData.strOk a = true := by
  rw [strOk_iff] at *
  exact fun c hc => h c (hs c hc)
theorem ok_M : PyData.strOk ⟨#[45]⟩ = true := by decide +kernel
theorem ok_body {z : Str} (h : PyData.strOk z = true) : PyData.strOk (bodyS z) = true := by
  unfold bodyS
  split
  · exact ok_sub h fun c hc => List.mem_of_mem_drop (by rw [tail_list] at hc; exact hc)
  · exact h
theorem len_body (z : Str) : (bodyS z).length ≤ z.length := by
  unfold bodyS
  split
  · rw [← str_len, ← str_len, tail_list]
    simp
  · exact Nat.le_refl _
theorem neg_eq {z : Str} (h : PyData.strOk z = true) : eqD (.str (cutS z none (some 1))) (.str ⟨#[45]⟩) = .ok (.fz (.bl (neg z))) := by
  rw [eq_str (ok_sub h fun c hc => List.mem_of_mem_take (by rw [cut_head] at hc; exact hc)) ok_M]
  congr 3
  have := head_eq z
  cases hn : neg z with
  | true => exact decide_eq_true (this.mpr hn)
  | false => exact decide_eq_false fun q => by rw [this.mp q] at hn; cases hn
theorem due_A {x : Str} (h : PyData.strOk x = true) (hl : x.length ≤ 120) (hn : 47 ∉ x.cps.toList) : m__law_due [.str x] = .ok (.fz (rdA x)) := by
  have hsz : x.length ≤ sizeLine := Nat.le_trans hl (by decide)
  have hsz2 : x.length + 2 ≤ sizeLine := Nat.le_trans (Nat.add_le_add_right hl 2) (by decide)
  have e1 : splitD x (.str (Str.ofString "/")) = .ok (.ow (.lst [.str x])) := by
    rw [strS]
    unfold splitD
    dsimp only
    rw [need_pos ⟨rfl, hsz2⟩, split_none hn]
    rfl
  have eM : ∀ env : Ev, env[0]? = some (.fz (.str x)) → xM1 splitD (xVar 0) (xC (.str (Str.ofString "/"))) env = .ok (.ow (.lst [.str x])) := fun env he => by
    simp [xM1, he, e1]
  have e2 := neg_eq h
  have e3 := number_ok (bodyS x) (ok_body h) (Nat.le_trans (len_body x) (by omega))
  have hlen := str_len (bodyS x)
  have hlb := len_body x
  have a0 : atI [D.str x] 0 = some (.str x) := atI_some (j := 0) rfl rfl
  have m2 : ∀ v : Int, mulI 1 v = mulI 1 v := fun _ => rfl
  unfold rdA
  cases hf : figB (bodyS x).cps.toList with
  | false =>
    have e4 : numD (bodyS x).cps.toList = .non := by unfold numD; rw [hf]; rfl
    rw [e4] at e3
    cases hng : neg x with
    | true =>
      have hb : bodyS x = tailS x := by unfold bodyS; rw [if_pos hng]
      rw [hb] at e3
      rw [hng] at e2
      simp [m__law_due, runB_, g__law_due, eM, a0, strM, hsz, e2, cut_tail, e3]
    | false =>
      have hb : bodyS x = x := by unfold bodyS; rw [hng]; rfl
      rw [hb] at e3
      rw [hng] at e2
      simp [m__law_due, runB_, g__law_due, eM, a0, strM, hsz, e2, e3]
  | true =>
    have hv := val_small _ hf (by omega)
    have e4 : numD (bodyS x).cps.toList = .int (NumText.digitsVal (bodyS x).cps.toList : Nat) := by unfold numD; rw [hf]; rfl
    rw [e4] at e3
    generalize NumText.digitsVal (bodyS x).cps.toList = v at *
    have i1 := is_val (v : Int) 1 (by rw [Int.natAbs_natCast]; exact hv) (by decide) (by decide)
    rw [Int.gcd_one_right] at i1
    have m1 : ∀ s : Int, s.natAbs < 2 ^ 2 → mulI s (v : Int) = .ok (.fz (.int (s * v))) := fun s hs => mul_ s v 2 400 hs (by rw [Int.natAbs_natCast]; exact hv)
    have m3 := m1 1 (by decide)
    have m4 := m1 (-1) (by decide)
    clear hv m1
    unfold tm at i1
    cases hng : neg x with
    | true =>
      have hb : bodyS x = tailS x := by unfold bodyS; rw [if_pos hng]
      rw [hb] at e3
      rw [hng] at e2
      by_cases v0 : v = 0
      · subst v0
        simp [m__law_due, runB_, g__law_due, eM, a0, strM, hsz, e2, cut_tail, e3]
      · have v0' : ¬ (v : Int) = 0 := by omega
        simp [m__law_due, runB_, g__law_due, eM, a0, strM, hsz, e2, cut_tail, e3, v0, v0', i1, m4, tm]
    | false =>
      have hb : bodyS x = x := by unfold bodyS; rw [hng]; rfl
      rw [hb] at e3
      rw [hng] at e2
      simp [m__law_due, runB_, g__law_due, eM, a0, strM, hsz, e2, e3, i1, m3, tm]
theorem due_B {x a b : Str} (h : PyData.strOk x = true) (ha : PyData.strOk a = true) (hb0 : PyData.strOk b = true) (hl : x.length ≤ 120) (hla : a.length ≤ 120) (hlb : b.length ≤ 120) (hs : Txt.split x (sg 47) = [a, b]) : m__law_due [.str x] = .ok (.fz (rdB a b)) := by
  have hsz : a.length ≤ sizeLine := Nat.le_trans hla (by decide)
  have hsz2 : x.length + 2 ≤ sizeLine := Nat.le_trans (Nat.add_le_add_right hl 2) (by decide)
  have e1 : splitD x (.str (Str.ofString "/")) = .ok (.ow (.lst [.str a, .str b])) := by
    rw [strS]
    unfold splitD
    dsimp only
    rw [need_pos ⟨rfl, hsz2⟩, hs]
    rfl
  have eM : ∀ env : Ev, env[0]? = some (.fz (.str x)) → xM1 splitD (xVar 0) (xC (.str (Str.ofString "/"))) env = .ok (.ow (.lst [.str a, .str b])) := fun env he => by
    simp [xM1, he, e1]
  have e2 := neg_eq ha
  have e3 := number_ok (bodyS a) (ok_body ha) (Nat.le_trans (len_body a) (by omega))
  have e5 := number_ok b hb0 (by omega)
  have hlen := str_len (bodyS a)
  have hlen2 := str_len b
  have hlb2 := len_body a
  have a0 : atI [D.str a, D.str b] 0 = some (.str a) := atI_some (j := 0) rfl rfl
  have a1 : atI [D.str a, D.str b] 1 = some (.str b) := atI_some (j := 1) rfl rfl
  unfold rdB
  have hbt : (neg a = true → bodyS a = tailS a) := fun q => by unfold bodyS; rw [if_pos q]
  have hbf : (neg a = false → bodyS a = a) := fun q => by unfold bodyS; rw [q]; rfl
  cases hf : figB (bodyS a).cps.toList with
  | false =>
    have e4 : numD (bodyS a).cps.toList = .non := by unfold numD; rw [hf]; rfl
    rw [e4] at e3
    generalize numD b.cps.toList = nb at *
    cases hng : neg a with
    | true =>
      rw [hbt hng] at e3
      rw [hng] at e2
      simp [m__law_due, runB_, g__law_due, eM, a0, a1, strM, hsz, e2, cut_tail, e3, e5]
    | false =>
      rw [hbf hng] at e3
      rw [hng] at e2
      simp [m__law_due, runB_, g__law_due, eM, a0, a1, strM, hsz, e2, e3, e5]
  | true =>
    have hv := val_small _ hf (by omega)
    have e4 : numD (bodyS a).cps.toList = .int (NumText.digitsVal (bodyS a).cps.toList : Nat) := by unfold numD; rw [hf]; rfl
    rw [e4] at e3
    generalize NumText.digitsVal (bodyS a).cps.toList = v at *
    cases hf2 : figB b.cps.toList with
    | false =>
      have e6 : numD b.cps.toList = .non := by unfold numD; rw [hf2]; rfl
      rw [e6] at e5
      clear hv
      cases hng : neg a with
      | true =>
        rw [hbt hng] at e3
        rw [hng] at e2
        simp [m__law_due, runB_, g__law_due, eM, a0, a1, strM, hsz, e2, cut_tail, e3, e5]
      | false =>
        rw [hbf hng] at e3
        rw [hng] at e2
        simp [m__law_due, runB_, g__law_due, eM, a0, a1, strM, hsz, e2, e3, e5]
    | true =>
      have hw := val_small _ hf2 (by omega)
      have e6 : numD b.cps.toList = .int (NumText.digitsVal b.cps.toList : Nat) := by unfold numD; rw [hf2]; rfl
      rw [e6] at e5
      generalize NumText.digitsVal b.cps.toList = w at *
      have i1 : 2 ≤ w → m__law_is [tm v w, .int v, .int w] = .ok (.fz (.bl (decide (Nat.gcd v w = 1)))) := fun q => is_val (v : Int) w (by rw [Int.natAbs_natCast]; exact hv) (by rw [Int.natAbs_natCast]; exact hw) (by omega)
      have m1 : ∀ s : Int, s.natAbs < 2 ^ 2 → mulI s (v : Int) = .ok (.fz (.int (s * v))) := fun s hs => mul_ s v 2 400 hs (by rw [Int.natAbs_natCast]; exact hv)
      have m3 := m1 1 (by decide)
      have m4 := m1 (-1) (by decide)
      clear hv hw m1
      unfold tm at i1
      by_cases v0 : v = 0
      · subst v0
        cases hng : neg a with
        | true =>
          rw [hbt hng] at e3
          rw [hng] at e2
          simp [m__law_due, runB_, g__law_due, eM, a0, a1, strM, hsz, e2, cut_tail, e3, e5]
        | false =>
          rw [hbf hng] at e3
          rw [hng] at e2
          simp [m__law_due, runB_, g__law_due, eM, a0, a1, strM, hsz, e2, e3, e5]
      · have v0' : ¬ (v : Int) = 0 := by omega
        by_cases w2 : w < 2
        · have w2' : (w : Int) < 2 := by omega
          cases hng : neg a with
          | true =>
            rw [hbt hng] at e3
            rw [hng] at e2
            simp [m__law_due, runB_, g__law_due, eM, a0, a1, strM, hsz, e2, cut_tail, e3, e5, v0, v0', w2, w2']
          | false =>
            rw [hbf hng] at e3
            rw [hng] at e2
            simp [m__law_due, runB_, g__law_due, eM, a0, a1, strM, hsz, e2, e3, e5, v0, v0', w2, w2']
        · have w2' : ¬ (w : Int) < 2 := by omega
          have i2 := i1 (by omega)
          by_cases gg : Nat.gcd v w = 1
          · rw [decide_eq_true gg] at i2
            cases hng : neg a with
            | true =>
              rw [hbt hng] at e3
              rw [hng] at e2
              simp [m__law_due, runB_, g__law_due, eM, a0, a1, strM, hsz, e2, cut_tail, e3, e5, v0, v0', w2, w2', gg, i2, m4, tm]
            | false =>
              rw [hbf hng] at e3
              rw [hng] at e2
              simp [m__law_due, runB_, g__law_due, eM, a0, a1, strM, hsz, e2, e3, e5, v0, v0', w2, w2', gg, i2, m3, tm]
          · rw [decide_eq_false gg] at i2
            cases hng : neg a with
            | true =>
              rw [hbt hng] at e3
              rw [hng] at e2
              simp [m__law_due, runB_, g__law_due, eM, a0, a1, strM, hsz, e2, cut_tail, e3, e5, v0, v0', w2, w2', gg, i2]
            | false =>
              rw [hbf hng] at e3
              rw [hng] at e2
              simp [m__law_due, runB_, g__law_due, eM, a0, a1, strM, hsz, e2, e3, e5, v0, v0', w2, w2', gg, i2]
theorem due_C {x : Str} (hl : x.length ≤ 120) (hc : 2 ≤ x.cps.toList.count 47) : m__law_due [.str x] = .ok (.fz .non) := by
  have hsz2 : x.length + 2 ≤ sizeLine := Nat.le_trans (Nat.add_le_add_right hl 2) (by decide)
  have hk := split_count x 47
  generalize hS : Txt.split x (sg 47) = l at hk
  have e1 : splitD x (.str (Str.ofString "/")) = .ok (.ow (.lst (l.map D.str))) := by
    rw [strS]
    unfold splitD
    dsimp only
    rw [need_pos ⟨rfl, hsz2⟩, hS]
  have eM : ∀ env : Ev, env[0]? = some (.fz (.str x)) → xM1 splitD (xVar 0) (xC (.str (Str.ofString "/"))) env = .ok (.ow (.lst (l.map D.str))) := fun env he => by
    simp [xM1, he, e1]
  have h2 : (2 : Int) < (l.length : Int) := by omega
  clear hk
  simp [m__law_due, runB_, g__law_due, eM, h2]
/-! ### reading back -/
def S (i : Int) : Str := Str.ofString (toString i)
theorem fig_dig {l : List Nat} (h : figB l = true) : NumText.AllDigits l ∧ l ≠ [] ∧ (l.head? = some 48 → l = [48]) := by
  unfold figB at h
  simp only [Bool.and_eq_true] at h
  obtain ⟨h1, h2, h3⟩ := h
  refine ⟨fun c hc => ?_, ?_, fun hh => ?_⟩
  · have := List.all_eq_true.mp h3 c hc
    simpa [dg] using this
  · simpa using h1
  · rw [decide_eq_true hh] at h2
    simpa using h2
theorem fig_text {l : List Nat} (h : figB l = true) : (S (NumText.digitsVal l : Nat)).cps.toList = l := by
  obtain ⟨h1, h2, h3⟩ := fig_dig h
  unfold S
  rw [PySem.W.KIN.signs_num]
  have hlen : l.length = (l.length - 1) + 1 := by
    have := List.length_pos_iff.mpr h2
    omega
  have q := NumText.toDigits_digitsVal (l.length - 1) l hlen h1 (by
    cases l with
    | nil => exact absurd rfl h2
    | cons c r =>
      by_cases hc : c = 48
      · subst hc
        have := h3 rfl
        left
        rw [this]
        rfl
      · right
        have := h1 c List.mem_cons_self
        exact ⟨c, r, rfl, by omega⟩)
  rw [q, List.map_map]
  have : ∀ c ∈ l, (Char.toNat ∘ Char.ofNat) c = c := fun c hc => by
    have hd := h1 c hc
    have : ∀ k : Fin 58, (Char.ofNat k.val).toNat = k.val := by decide
    exact this ⟨c, by omega⟩
  rw [List.map_congr_left this, List.map_id']
theorem S_neg (v : Nat) (h : 0 < v) : (S (-(v : Int))).cps.toList = 45 :: (S (v : Nat)).cps.toList := by
  unfold S
  obtain ⟨m, rfl⟩ : ∃ m, v = m + 1 := ⟨v - 1, by omega⟩
  have e : (toString (-((m + 1 : Nat) : Int)) : String) = "-" ++ toString ((m + 1 : Nat) : Int) := by
    rfl
  rw [e]
  have a : ∀ z : String, (Str.ofString z).cps.toList = z.toList.map Char.toNat := fun z => by
    unfold Str.ofString
    rw [cpsOfBytes_string]
  rw [a, a, String.toList_append, List.map_append]
  rfl
theorem lgv {v : Int} (h : v.natAbs < 2 ^ 400) : v.natAbs.log2 < 1920 := by
  have := log2_small h (by decide)
  omega
def txt (p q : Int) : Str := if q = 1 then S p else S p ++ "/" ++ S q
theorem app_len (a b : Str) : (a ++ b).length = a.length + b.length := by
  rw [← str_len, app_cps, List.length_append, str_len, str_len]
theorem slash_len : (Str.ofString "/").length = 1 := by decide
theorem S_len {p : Int} (h : p.natAbs < 2 ^ 400) : (S p).length ≤ 1921 := int_text_len_1921 (lgv h)
theorem S_one {p : Int} (h : p.natAbs < 2 ^ 400) : (S p).length ≤ sizeLine := by have := S_len h; rw [sizeLine_eq]; omega
theorem S_two {p : Int} (h : p.natAbs < 2 ^ 400) : (S p).length + (Str.ofString "/").length ≤ sizeLine := by have := S_len h; rw [sizeLine_eq, slash_len]; omega
theorem S_three {p q : Int} (h : p.natAbs < 2 ^ 400) (h2 : q.natAbs < 2 ^ 400) : (S p ++ Str.ofString "/").length + (S q).length ≤ sizeLine := by have := S_len h; have := S_len h2; rw [app_len, sizeLine_eq, slash_len]; omega
theorem text_ok (p q : Int) (h1 : p.natAbs < 2 ^ 400) (h2 : q.natAbs < 2 ^ 400) : m_time_text [tm p q] = .ok (.fz (.str (txt p q))) := by
  have a1 : strD [.int p] = .ok (.fz (.str (S p))) := str_i p (lgv h1)
  have a2 : fmtD (.int p) = .ok (S p) := fmt_i p (lgv h1)
  have a3 : fmtD (.int q) = .ok (S q) := fmt_i q (lgv h2)
  have b1 := S_one h1
  have b2 := S_two h1
  have b3 := S_three h1 h2
  rw [← app_len] at b2 b3
  clear h1 h2
  unfold txt
  by_cases c : q = 1
  · simp [m_time_text, runB_, g_time_text, tm, sAsg, c, a1, gT, gCons', gNil']
  · simp [m_time_text, runB_, g_time_text, tm, sAsg, c, a1, a2, a3, gT, gCons', gNil', app_empty, b1, b2, b3]
theorem nf_one (a : Int) : nf a 1 = tm a 1 := by
  refine nf_uniq (by decide) (by decide) (Int.gcd_one_right a) rfl
theorem int_pos {z : Str} (hf : figB z.cps.toList = true) (hl : z.length ≤ 120) : PL.intD [.str z] = .ok (.fz (.int (NumText.digitsVal z.cps.toList : Nat))) := by
  obtain ⟨h1, h2, _⟩ := fig_dig hf
  have q : PySem.intText? z = some ((NumText.digitsVal z.cps.toList : Nat) : Int) := PySem.intText_digits h1 h2 (by omega)
  unfold PL.intD
  dsimp only
  rw [q]
  dsimp only
  rw [need_pos (by omega)]
  rfl
theorem neg_list {z : Str} (hn : neg z = true) : z.cps.toList = 45 :: (tailS z).cps.toList := by
  unfold neg at hn
  have h := of_decide_eq_true hn
  rw [tail_list]
  cases hz : z.cps.toList with
  | nil => rw [hz] at h; cases h
  | cons c r =>
    rw [hz] at h
    have : c = 45 := by simpa using h
    rw [this]
    rfl
theorem int_neg {z : Str} (hn : neg z = true) (hf : figB (tailS z).cps.toList = true) (hl : z.length ≤ 120) : PL.intD [.str z] = .ok (.fz (.int (-(NumText.digitsVal (tailS z).cps.toList : Nat)))) := by
  obtain ⟨h1, h2, _⟩ := fig_dig hf
  have q : PySem.intText? z = some (-((NumText.digitsVal (tailS z).cps.toList : Nat) : Int)) := PySem.intText_neg (neg_list hn) h1 h2 (by omega)
  unfold PL.intD
  dsimp only
  rw [q]
  dsimp only
  rw [need_pos (by omega)]
  rfl
theorem neg_starts (z : Str) : startsD z (.str (Str.ofString "-")) = .ok (.fz (.bl (neg z))) := by
  rw [strM]
  show okB (Txt.startswith z ⟨#[45]⟩) = _
  rw [starts_one]
  rfl
def rdR (d : D) : R Rs := match d with
  | .non => .ex ⟨"NoTime", none⟩
  | d => .ok (.fz d)
theorem rdR_tm (p q : Int) : rdR (tm p q) = .ok (.fz (tm p q)) := rfl
theorem one_list : (Str.ofString "1").cps.toList = [49] := by decide +kernel
theorem ok_one : PyData.strOk (Str.ofString "1") = true := by decide +kernel
theorem fig_one : m_is_figures [.str (Str.ofString "1")] = .ok (.fz (.bl true)) := by
  rw [figures_ok _ ok_one (by decide +kernel), one_list]
  rfl
theorem int_one : PL.intD [.str (Str.ofString "1")] = .ok (.fz (.int 1)) := by
  rw [int_pos (by rw [one_list]; rfl) (by decide +kernel), one_list]
  rfl
theorem read_A {x : Str} (h : PyData.strOk x = true) (hl : x.length ≤ 120) (hn : 47 ∉ x.cps.toList) : m_read_time [.str x] = rdR (rdA x) := by
  have hsz : x.length ≤ sizeLine := Nat.le_trans hl (by decide)
  have e1 : partD x (.str (Str.ofString "/")) = .ok (.fz (.tup [.str x, .str Str.empty, .str Str.empty])) := by
    rw [strS]
    unfold partD
    dsimp only
    rw [need_pos ⟨rfl, hsz⟩, part_none hn]
  have eM : ∀ env : Ev, env[0]? = some (.fz (.str x)) → xM1 partD (xVar 0) (xC (.str (Str.ofString "/"))) env = .ok (.fz (.tup [.str x, .str Str.empty, .str Str.empty])) := fun env he => by
    simp [xM1, he, e1]
  have eN : ∀ env : Ev, env[3]? = some (.fz (.str x)) → xM1 startsD (xVar 3) (xC (.str (Str.ofString "-"))) env = .ok (.fz (.bl (neg x))) := fun env he => by
    simp [xM1, he, neg_starts]
  have e2 : eqD (.str Str.empty) (.str (Str.ofString "")) = .ok (.fz (.bl true)) := by
    have : Str.empty = Str.ofString "" := by decide +kernel
    rw [this]
    exact eq_self (by simpa [D.pl] using ok_nil)
  have e3 := figures_ok (bodyS x) (ok_body h) (Nat.le_trans (len_body x) (by omega))
  have hlen := str_len (bodyS x)
  have hlb := len_body x
  have hbt : (neg x = true → bodyS x = tailS x) := fun q => by unfold bodyS; rw [if_pos q]
  have hbf : (neg x = false → bodyS x = x) := fun q => by unfold bodyS; rw [q]; rfl
  have f1 := fig_one
  have i1 := int_one
  unfold rdA
  cases hf : figB (bodyS x).cps.toList with
  | false =>
    rw [hf] at e3
    cases hng : neg x with
    | true =>
      rw [hbt hng] at e3
      simp [m_read_time, runB_, g_read_time, sAsg, gT, gCons', gNil', eM, eN, hng, hsz, cut_tail, e2, e3, rdR]
    | false =>
      rw [hbf hng] at e3
      simp [m_read_time, runB_, g_read_time, sAsg, gT, gCons', gNil', eM, eN, hng, hsz, e2, e3, rdR]
  | true =>
    rw [hf] at e3
    have hv := val_small _ hf (by omega)
    have hS := fig_text hf
    cases hng : neg x with
    | true =>
      rw [hbt hng] at e3 hf hv hS ⊢
      have i2 := int_neg hng hf hl
      have hx := neg_list hng
      generalize NumText.digitsVal (tailS x).cps.toList = v at *
      have t1 := time_ok (-(v : Int)) 1 (by decide) (by decide)
      rw [nf_one] at t1
      have t2 := text_ok (-(v : Int)) 1 (by rw [Int.natAbs_neg, Int.natAbs_natCast]; exact hv) (by decide)
      have okS1 : PyData.strOk (S (-(v : Int))) = true := ofString_ok _
      have t3 := ne_str okS1 h
      clear hv
      by_cases v0 : v = 0
      · subst v0
        have : ¬ S (-((0 : Nat) : Int)) = x := fun q => by
          rw [str_iff, hx] at q
          have : (S (-((0 : Nat) : Int))).cps.toList = [48] := by decide +kernel
          rw [this] at q
          cases q
        rw [decide_eq_false this] at t3
        simp [txt] at t1 t2 t3
        simp [m_read_time, runB_, g_read_time, sAsg, gT, gCons', gNil', eM, eN, hng, hsz, cut_tail, e2, e3, rdR, f1, i1, i2, t1, t2, t3]
      · have : S (-(v : Int)) = x := by
          rw [str_iff, hx, S_neg v (by omega), hS]
        rw [decide_eq_true this] at t3
        simp [txt] at t1 t2 t3
        simp [m_read_time, runB_, g_read_time, sAsg, gT, gCons', gNil', eM, eN, hng, hsz, cut_tail, e2, e3, rdR_tm, f1, i1, i2, t1, t2, t3, v0]
    | false =>
      rw [hbf hng] at e3 hf hv hS ⊢
      have i2 := int_pos hf hl
      generalize NumText.digitsVal x.cps.toList = v at *
      have t1 := time_ok (v : Int) 1 (by decide) (by decide)
      rw [nf_one] at t1
      have t2 := text_ok (v : Int) 1 (by rw [Int.natAbs_natCast]; exact hv) (by decide)
      have okS1 : PyData.strOk (S (v : Int)) = true := ofString_ok _
      have t3 := ne_str okS1 h
      clear hv
      have : S (v : Int) = x := by rw [str_iff, hS]
      rw [decide_eq_true this] at t3
      simp [txt] at t1 t2 t3
      simp [m_read_time, runB_, g_read_time, sAsg, gT, gCons', gNil', eM, eN, hng, hsz, e2, e3, rdR_tm, f1, i1, i2, t1, t2, t3]
theorem cut_uniq {c : Nat} : ∀ {a a' b b' : List Nat}, c ∉ a → c ∉ a' → a ++ c :: b = a' ++ c :: b' → a = a' ∧ b = b'
  | [], [], b, b', _, _, e => by simpa using e
  | [], y :: r, b, b', _, h, e => by
    exfalso
    simp only [List.nil_append, List.cons_append, List.cons.injEq] at e
    exact h (by rw [e.1]; exact List.mem_cons_self)
  | y :: r, [], b, b', h, _, e => by
    exfalso
    simp only [List.nil_append, List.cons_append, List.cons.injEq] at e
    exact h (by rw [← e.1]; exact List.mem_cons_self)
  | y :: r, y' :: r', b, b', h, h', e => by
    simp only [List.cons_append, List.cons.injEq] at e
    obtain ⟨q1, q2⟩ := cut_uniq (fun z => h (List.mem_cons_of_mem _ z)) (fun z => h' (List.mem_cons_of_mem _ z)) e.2
    exact ⟨by rw [e.1, q1], q2⟩
theorem S_dig (v : Nat) : ∀ c ∈ (S (v : Nat)).cps.toList, 48 ≤ c ∧ c ≤ 57 := fun c hc => by
  unfold S at hc
  rw [PySem.W.KIN.signs_num] at hc
  obtain ⟨ch, hch, e⟩ := List.mem_map.mp hc
  rw [← e]
  have := Nat.isDigit_of_mem_toDigits (by decide) (by decide) hch
  unfold Char.isDigit at this
  simp only [Bool.and_eq_true, decide_eq_true_eq] at this
  exact ⟨this.1, this.2⟩
theorem S_noslash (p : Int) : 47 ∉ (S p).cps.toList := fun h => by
  by_cases c : 0 ≤ p
  · obtain ⟨v, rfl⟩ := Int.eq_ofNat_of_zero_le c
    have := S_dig v 47 h
    omega
  · obtain ⟨v, hv⟩ : ∃ v : Nat, p = -(v : Int) ∧ 0 < v := ⟨p.natAbs, by omega, by omega⟩
    rw [hv.1, S_neg v hv.2] at h
    rcases List.mem_cons.mp h with z | z
    · cases z
    · have := S_dig v 47 z
      omega
theorem S_inj {v w : Nat} (h : (S (v : Nat)).cps.toList = (S (w : Nat)).cps.toList) : v = w := by
  unfold S at h
  rw [PySem.W.KIN.signs_num, PySem.W.KIN.signs_num] at h
  rw [← PySem.W.KIN.val_back v, h, PySem.W.KIN.val_back]
/-- the text of a reduced time is a / b only where a / b is that time's own -/
theorem txt_eq {a b : Str} {sv : Int} {v w : Nat} (hw : 0 < w) (hsv : sv.natAbs = v) (ha : 0 < v → (S sv).cps.toList = a.cps.toList) (hb : (S (w : Nat)).cps.toList = b.cps.toList) (na : 47 ∉ a.cps.toList) {p q : Int} (hnf : nf sv w = tm p q) (hq : 0 < q) (hg : Int.gcd p q = 1) (hc : p * w = sv * q) :
    (txt p q = a ++ sg 47 ++ b) ↔ (2 ≤ w ∧ v ≠ 0 ∧ Nat.gcd v w = 1) := by
  have hlist : (a ++ sg 47 ++ b).cps.toList = a.cps.toList ++ 47 :: b.cps.toList := by
    rw [app_cps, app_cps, sg_list]
    simp
  constructor
  · intro h
    rw [str_iff, hlist] at h
    unfold txt at h
    by_cases q1 : q = 1
    · rw [if_pos q1] at h
      exfalso
      exact S_noslash p (by rw [h]; simp)
    · rw [if_neg q1] at h
      have e : (S p ++ "/" ++ S q).cps.toList = (S p).cps.toList ++ 47 :: (S q).cps.toList := by
        rw [strS, app_cps, app_cps, sg_list]
        simp
      rw [e] at h
      obtain ⟨k1, k2⟩ := cut_uniq (S_noslash p) na h
      obtain ⟨n, rfl⟩ := Int.eq_ofNat_of_zero_le (Int.le_of_lt hq)
      rw [← hb] at k2
      have := S_inj k2
      subst this
      have hp : p = sv := Int.eq_of_mul_eq_mul_right (by omega) hc
      have hgv : Nat.gcd v n = 1 := by
        rw [← hsv, ← hp]
        exact hg
      refine ⟨by omega, fun z => ?_, hgv⟩
      rw [z, Nat.gcd_zero_left] at hgv
      omega
  · rintro ⟨h1, h2, h3⟩
    have hu : nf sv w = tm sv w := nf_uniq (by omega) (by omega) (by unfold Int.gcd; rw [hsv]; exact h3) rfl
    rw [hu] at hnf
    cases hnf
    unfold txt
    rw [if_neg (by omega), str_iff, hlist, strS, app_cps, app_cps, sg_list, ha (by omega), hb]
    simp
theorem time_zero (a : Int) : m_time_of [.int a, .int 0] = .ex ⟨"NoTime", none⟩ := by simp [m_time_of, runB_, g_time_of]
theorem read_B {x a b : Str} (h : PyData.strOk x = true) (ha : PyData.strOk a = true) (hb0 : PyData.strOk b = true) (hl : x.length ≤ 120) (hla : a.length ≤ 120) (hlb : b.length ≤ 120) (hs : Txt.partition x (sg 47) = (a, sg 47, b)) (hx : a ++ sg 47 ++ b = x) (na : 47 ∉ a.cps.toList) : m_read_time [.str x] = rdR (rdB a b) := by
  have hsz : x.length ≤ sizeLine := Nat.le_trans hl (by decide)
  have hsza : a.length ≤ sizeLine := Nat.le_trans hla (by decide)
  have e1 : partD x (.str (Str.ofString "/")) = .ok (.fz (.tup [.str a, .str (sg 47), .str b])) := by
    rw [strS]
    unfold partD
    dsimp only
    rw [need_pos ⟨rfl, hsz⟩, hs]
  have eM : ∀ env : Ev, env[0]? = some (.fz (.str x)) → xM1 partD (xVar 0) (xC (.str (Str.ofString "/"))) env = .ok (.fz (.tup [.str a, .str (sg 47), .str b])) := fun env he => by
    simp [xM1, he, e1]
  have eN : ∀ env : Ev, env[3]? = some (.fz (.str a)) → xM1 startsD (xVar 3) (xC (.str (Str.ofString "-"))) env = .ok (.fz (.bl (neg a))) := fun env he => by
    simp [xM1, he, neg_starts]
  have e2 : eqD (.str (sg 47)) (.str (Str.ofString "")) = .ok (.fz (.bl false)) := by
    rw [eq_str (by decide +kernel) ok_nil]
    congr 3
  have e3 := figures_ok (bodyS a) (ok_body ha) (Nat.le_trans (len_body a) (by omega))
  have e5 := figures_ok b hb0 (by omega)
  have hlen := str_len (bodyS a)
  have hlen2 := str_len b
  have hlb2 := len_body a
  have hbt : (neg a = true → bodyS a = tailS a) := fun q => by unfold bodyS; rw [if_pos q]
  have hbf : (neg a = false → bodyS a = a) := fun q => by unfold bodyS; rw [q]; rfl
  unfold rdB
  cases hf : figB (bodyS a).cps.toList with
  | false =>
    rw [hf] at e3
    cases hng : neg a with
    | true =>
      rw [hbt hng] at e3
      simp [m_read_time, runB_, g_read_time, sAsg, gT, gCons', gNil', eM, eN, hng, hsza, cut_tail, e2, e3, rdR]
    | false =>
      rw [hbf hng] at e3
      simp [m_read_time, runB_, g_read_time, sAsg, gT, gCons', gNil', eM, eN, hng, hsza, e2, e3, rdR]
  | true =>
    rw [hf] at e3
    have hv := val_small _ hf (by omega)
    have hS := fig_text hf
    cases hf2 : figB b.cps.toList with
    | false =>
      rw [hf2] at e5
      clear hv
      cases hng : neg a with
      | true =>
        rw [hbt hng] at e3
        simp [m_read_time, runB_, g_read_time, sAsg, gT, gCons', gNil', eM, eN, hng, hsza, cut_tail, e2, e3, e5, rdR]
      | false =>
        rw [hbf hng] at e3
        simp [m_read_time, runB_, g_read_time, sAsg, gT, gCons', gNil', eM, eN, hng, hsza, e2, e3, e5, rdR]
    | true =>
      rw [hf2] at e5
      have hw := val_small _ hf2 (by omega)
      have hS2 := fig_text hf2
      have i3 := int_pos hf2 hlb
      have iN : neg a = true → PL.intD [.str a] = .ok (.fz (.int (-(NumText.digitsVal (bodyS a).cps.toList : Nat)))) := fun q => by
        rw [hbt q] at hf ⊢
        exact int_neg q hf hla
      have iP : neg a = false → PL.intD [.str a] = .ok (.fz (.int (NumText.digitsVal (bodyS a).cps.toList : Nat))) := fun q => by
        rw [hbf q] at hf ⊢
        exact int_pos hf hla
      generalize NumText.digitsVal (bodyS a).cps.toList = v at *
      generalize NumText.digitsVal b.cps.toList = w at *
      have fin : ∀ (sv : Int), PL.intD [.str a] = .ok (.fz (.int sv)) → sv.natAbs = v → (0 < v → (S sv).cps.toList = a.cps.toList) → m_read_time [.str x] = if v = 0 ∨ w < 2 ∨ Nat.gcd v w ≠ 1 then .ex ⟨"NoTime", none⟩ else .ok (.fz (tm sv w)) := by
        intro sv i2 hsv hSa
        by_cases w0 : w = 0
        · subst w0
          have tz := time_zero sv
          rw [if_pos (.inr (.inl (by decide)))]
          clear hv hw
          cases hng : neg a with
          | true =>
            rw [hbt hng] at e3
            simp [m_read_time, runB_, g_read_time, sAsg, gT, gCons', gNil', eM, eN, hng, hsza, cut_tail, e2, e3, e5, i2, i3, tz]
          | false =>
            rw [hbf hng] at e3
            simp [m_read_time, runB_, g_read_time, sAsg, gT, gCons', gNil', eM, eN, hng, hsza, e2, e3, e5, i2, i3, tz]
        · have wp : 0 < w := by omega
          obtain ⟨p, q, n1, n2, n3, n4, n5, n6⟩ := nf_ok sv (w : Int) (by omega)
          have t1 := time_ok sv (w : Int) (by omega) (by rw [Int.natAbs_natCast]; exact Nat.lt_trans hw (Nat.pow_lt_pow_right (by decide) (by decide)))
          have n1' : nf sv w = tm p q := n1
          have t2 := text_ok p q (by rw [hsv] at n5; exact Nat.lt_of_le_of_lt n5 hv) (Nat.lt_of_le_of_lt (show q.natAbs ≤ w by omega) hw)
          have t3 := ne_str (a := txt p q) (b := x) (by unfold txt; split <;> first | exact ofString_ok _ | exact app_ok (app_ok (ofString_ok _) (ofString_ok _)) (ofString_ok _)) h
          have t4 := txt_eq (b := b) wp hsv hSa hS2 na n1' n2 n3 n4
          rw [hx] at t4
          rw [n1'] at t1
          clear hv hw
          by_cases cnd : 2 ≤ w ∧ v ≠ 0 ∧ Nat.gcd v w = 1
          · rw [decide_eq_true (t4.mpr cnd)] at t3
            have n7 : nf sv w = tm sv w := nf_uniq (by omega) (by omega) (by unfold Int.gcd; rw [hsv]; exact cnd.2.2) rfl
            rw [n1'] at n7
            rw [n7] at t1 t2
            rw [if_neg (by rintro (z | z | z); exact cnd.2.1 z; omega; exact z cnd.2.2)]
            have pq : txt p q = txt p q := rfl
            generalize txt p q = T at *
            cases hng : neg a with
            | true =>
              rw [hbt hng] at e3
              simp [m_read_time, runB_, g_read_time, sAsg, gT, gCons', gNil', eM, eN, hng, hsza, cut_tail, e2, e3, e5, i2, i3, t1, t2, t3]
            | false =>
              rw [hbf hng] at e3
              simp [m_read_time, runB_, g_read_time, sAsg, gT, gCons', gNil', eM, eN, hng, hsza, e2, e3, e5, i2, i3, t1, t2, t3]
          · rw [decide_eq_false (fun z => cnd (t4.mp z))] at t3
            rw [if_pos (by
              by_cases z1 : v = 0
              · exact .inl z1
              · by_cases z2 : w < 2
                · exact .inr (.inl z2)
                · exact .inr (.inr fun z3 => cnd ⟨by omega, z1, z3⟩))]
            generalize txt p q = T at *
            cases hng : neg a with
            | true =>
              rw [hbt hng] at e3
              simp [m_read_time, runB_, g_read_time, sAsg, gT, gCons', gNil', eM, eN, hng, hsza, cut_tail, e2, e3, e5, i2, i3, t1, t2, t3]
            | false =>
              rw [hbf hng] at e3
              simp [m_read_time, runB_, g_read_time, sAsg, gT, gCons', gNil', eM, eN, hng, hsza, e2, e3, e5, i2, i3, t1, t2, t3]
      cases hng : neg a with
      | true =>
        rw [fin (-(v : Int)) (iN hng) (by omega) (fun z => by rw [S_neg v z, hS, hbt hng, neg_list hng])]
        by_cases cnd : v = 0 ∨ w < 2 ∨ Nat.gcd v w ≠ 1
        · rw [if_pos cnd, if_pos ⟨rfl, rfl⟩, if_pos cnd]; rfl
        · rw [if_neg cnd, if_pos ⟨rfl, rfl⟩, if_neg cnd]
          simp [rdR_tm]
      | false =>
        rw [fin (v : Int) (iP hng) (by omega) (fun _ => by rw [hS, hbf hng])]
        by_cases cnd : v = 0 ∨ w < 2 ∨ Nat.gcd v w ≠ 1
        · rw [if_pos cnd, if_pos ⟨rfl, rfl⟩, if_pos cnd]; rfl
        · rw [if_neg cnd, if_pos ⟨rfl, rfl⟩, if_neg cnd]
          simp [rdR_tm]
theorem read_C {x a b : Str} (h : PyData.strOk x = true) (ha : PyData.strOk a = true) (hb0 : PyData.strOk b = true) (hl : x.length ≤ 120) (hla : a.length ≤ 120) (hlb : b.length ≤ 120) (hs : Txt.partition x (sg 47) = (a, sg 47, b)) (nb : 47 ∈ b.cps.toList) : m_read_time [.str x] = .ex ⟨"NoTime", none⟩ := by
  have hsz : x.length ≤ sizeLine := Nat.le_trans hl (by decide)
  have hsza : a.length ≤ sizeLine := Nat.le_trans hla (by decide)
  have e1 : partD x (.str (Str.ofString "/")) = .ok (.fz (.tup [.str a, .str (sg 47), .str b])) := by
    rw [strS]
    unfold partD
    dsimp only
    rw [need_pos ⟨rfl, hsz⟩, hs]
  have eM : ∀ env : Ev, env[0]? = some (.fz (.str x)) → xM1 partD (xVar 0) (xC (.str (Str.ofString "/"))) env = .ok (.fz (.tup [.str a, .str (sg 47), .str b])) := fun env he => by
    simp [xM1, he, e1]
  have eN : ∀ env : Ev, env[3]? = some (.fz (.str a)) → xM1 startsD (xVar 3) (xC (.str (Str.ofString "-"))) env = .ok (.fz (.bl (neg a))) := fun env he => by
    simp [xM1, he, neg_starts]
  have e2 : eqD (.str (sg 47)) (.str (Str.ofString "")) = .ok (.fz (.bl false)) := by
    rw [eq_str (by decide +kernel) ok_nil]
    congr 3
  have e3 := figures_ok (bodyS a) (ok_body ha) (Nat.le_trans (len_body a) (by omega))
  have e5 := figures_ok b hb0 (by omega)
  have hf2 : figB b.cps.toList = false := by
    cases q : figB b.cps.toList with
    | false => rfl
    | true =>
      have := (fig_dig q).1 47 nb
      omega
  rw [hf2] at e5
  generalize figB (bodyS a).cps.toList = f at e3
  cases hng : neg a with
  | true =>
    have hb : bodyS a = tailS a := by unfold bodyS; rw [if_pos hng]
    rw [hb] at e3
    cases f <;> simp [m_read_time, runB_, g_read_time, sAsg, gT, gCons', gNil', eM, eN, hng, hsza, cut_tail, e2, e3, e5]
  | false =>
    have hb : bodyS a = a := by unfold bodyS; rw [hng]; rfl
    rw [hb] at e3
    cases f <;> simp [m_read_time, runB_, g_read_time, sAsg, gT, gCons', gNil', eM, eN, hng, hsza, e2, e3, e5]
/-- a datum that is none or a reduced time -/
def Tm (d : D) : Prop := d = .non ∨ ∃ p q : Int, d = tm p q ∧ p.natAbs < 2 ^ 400 ∧ q.natAbs < 2 ^ 400 ∧ 0 < q ∧ Int.gcd p q = 1
theorem Tm_A {a : Str} (hl : a.length ≤ 120) : Tm (rdA a) := by
  unfold rdA
  split
  · rename_i hf
    have hv := val_small _ hf (by have := str_len (bodyS a); have := len_body a; omega)
    split
    · exact .inl rfl
    · refine .inr ⟨_, _, rfl, ?_, by decide, by decide, Int.gcd_one_right _⟩
      split
      · rw [Int.neg_one_mul, Int.natAbs_neg, Int.natAbs_natCast]; exact hv
      · rw [Int.one_mul, Int.natAbs_natCast]; exact hv
  · exact .inl rfl
theorem Tm_B {a b : Str} (hl : a.length ≤ 120) (hl2 : b.length ≤ 120) : Tm (rdB a b) := by
  unfold rdB
  split
  · rename_i hf
    have hv := val_small _ hf.1 (by have := str_len (bodyS a); have := len_body a; omega)
    have hw := val_small _ hf.2 (by have := str_len b; omega)
    generalize NumText.digitsVal (bodyS a).cps.toList = v at *
    generalize NumText.digitsVal b.cps.toList = w at *
    split
    · exact .inl rfl
    · rename_i hc
      have g : Nat.gcd v w = 1 := Classical.byContradiction fun z => hc (.inr (.inr z))
      have w2 : ¬ w < 2 := fun z => hc (.inr (.inl z))
      refine .inr ⟨_, _, rfl, ?_, by rw [Int.natAbs_natCast]; exact hw, by omega, ?_⟩
      · split
        · rw [Int.neg_one_mul, Int.natAbs_neg, Int.natAbs_natCast]; exact hv
        · rw [Int.one_mul, Int.natAbs_natCast]; exact hv
      · split
        · rw [Int.neg_one_mul]
          unfold Int.gcd
          rw [Int.natAbs_neg, Int.natAbs_natCast, Int.natAbs_natCast]
          exact g
        · rw [Int.one_mul]
          exact g
  · exact .inl rfl
theorem say (x : Str) (h : PyData.strOk x = true) (hl : x.length ≤ 120) : ∃ d, Tm d ∧ m__law_due [.str x] = .ok (.fz d) ∧ m_read_time [.str x] = rdR d := by
  by_cases hn : 47 ∈ x.cps.toList
  · obtain ⟨a, b, hp, hx, na⟩ := part_some hn
    have hlx : x.length = a.length + 1 + b.length := by rw [← hx, app_len, app_len]; rfl
    have ha : PyData.strOk a = true := ok_sub h fun c hc => by rw [← hx, app_cps, app_cps]; simp [hc]
    have hb : PyData.strOk b = true := ok_sub h fun c hc => by rw [← hx, app_cps, app_cps]; simp [hc]
    have hcnt : x.cps.toList.count 47 = 1 + b.cps.toList.count 47 := by
      rw [← hx, app_cps, app_cps, sg_list, List.count_append, List.count_append, List.count_singleton_self, List.count_eq_zero.mpr na]
    by_cases nb : 47 ∈ b.cps.toList
    · have := List.count_pos_iff.mpr nb
      exact ⟨.non, .inl rfl, due_C hl (by omega), read_C h ha hb hl (by omega) (by omega) hp nb⟩
    · rw [List.count_eq_zero.mpr nb] at hcnt
      obtain ⟨a', b', hs, hx', na', nb'⟩ := split_one hcnt
      have hab : a' = a ∧ b' = b := by
        have e : a'.cps.toList ++ 47 :: b'.cps.toList = a.cps.toList ++ 47 :: b.cps.toList := by
          have e1 := congrArg (fun z : Str => z.cps.toList) hx'
          have e2 := congrArg (fun z : Str => z.cps.toList) hx
          simp only [app_cps, sg_list, List.append_assoc, List.singleton_append] at e1 e2
          rw [e1, e2]
        obtain ⟨k1, k2⟩ := cut_uniq na' na e
        exact ⟨str_ext k1, str_ext k2⟩
      rw [hab.1, hab.2] at hs
      exact ⟨rdB a b, Tm_B (by omega) (by omega), due_B h ha hb hl (by omega) (by omega) hs, read_B h ha hb hl (by omega) (by omega) hp hx na⟩
  · exact ⟨rdA x, Tm_A hl, due_A h hl hn, read_A h hl hn⟩
theorem law_read_ok {x : Str} {d : D} (hd : Tm d) (h : m_read_time [.str x] = rdR d) : m__law_read [.str x] = .ok (.fz d) := by
  have e1 : tx_YardError "NoTime" = some true := by decide +kernel
  have e2 : ix_NoTime "NoTime" = some true := by decide +kernel
  have e3 : ix_ValueError "NoTime" = some true := by decide +kernel
  have e4 : ix_NoMachine_NoPlace_NoRow_TooMany "NoTime" = some false := by decide +kernel
  rcases hd with rfl | ⟨p, q, rfl, _⟩
  · simp [rdR] at h
    simp [m__law_read, runB_, g__law_read, sTry, b__law_read_0, h, e1, isX, e2, e3, e4, isND]
  · rw [rdR_tm] at h
    simp [m__law_read, runB_, g__law_read, sTry, b__law_read_0, h]
/-! ### a time's own text -/
theorem S_lenN {n k : Nat} (hk : 1 ≤ k) (h : n < 10 ^ k) : (S (n : Nat)).cps.toList.length ≤ k := by
  unfold S
  rw [PySem.W.KIN.signs_num, List.length_map]
  exact digits10_le hk h
theorem S_len29 {p : Int} (h : p.natAbs < 10 ^ 29) : (S p).length ≤ 30 := by
  rw [← str_len]
  by_cases c : 0 ≤ p
  · obtain ⟨v, rfl⟩ := Int.eq_ofNat_of_zero_le c
    have := S_lenN (n := v) (k := 29) (by decide) (by rw [Int.natAbs_natCast] at h; exact h)
    omega
  · obtain ⟨v, hv⟩ : ∃ v : Nat, p = -(v : Int) ∧ 0 < v := ⟨p.natAbs, by omega, by omega⟩
    have hh : v < 10 ^ 29 := by rw [hv.1, Int.natAbs_neg, Int.natAbs_natCast] at h; exact h
    rw [hv.1, S_neg v hv.2, List.length_cons]
    have := S_lenN (n := v) (k := 29) (by decide) hh
    omega
theorem S_len30 {p : Int} (h : p.natAbs < 10 ^ 30) : (S p).length ≤ 31 := by
  rw [← str_len]
  by_cases c : 0 ≤ p
  · obtain ⟨v, rfl⟩ := Int.eq_ofNat_of_zero_le c
    have := S_lenN (n := v) (k := 30) (by decide) (by rw [Int.natAbs_natCast] at h; exact h)
    omega
  · obtain ⟨v, hv⟩ : ∃ v : Nat, p = -(v : Int) ∧ 0 < v := ⟨p.natAbs, by omega, by omega⟩
    have hh : v < 10 ^ 30 := by rw [hv.1, Int.natAbs_neg, Int.natAbs_natCast] at h; exact h
    rw [hv.1, S_neg v hv.2, List.length_cons]
    have := S_lenN (n := v) (k := 30) (by decide) hh
    omega
theorem S_val (v : Nat) : NumText.digitsVal (S (v : Nat)).cps.toList = v := by
  unfold S
  rw [PySem.W.KIN.signs_num]
  exact PySem.W.KIN.val_back v
theorem S_pos (v : Nat) : 1 ≤ (S (v : Nat)).cps.toList.length := by
  unfold S
  rw [PySem.W.KIN.signs_num, List.length_map]
  exact tDigits_len_ge 10 v
theorem S_fig (v : Nat) : figB (S (v : Nat)).cps.toList = true := by
  have h1 := S_pos v
  have h2 := S_dig v
  have h3 := S_val v
  have h4 : ∀ k, 1 ≤ k → v < 10 ^ k → (S (v : Nat)).cps.toList.length ≤ k := fun k hk h => S_lenN hk h
  generalize (S (v : Nat)).cps.toList = l at *
  unfold figB
  simp only [Bool.and_eq_true, Bool.not_eq_true', decide_eq_false_iff_not, List.all_eq_true]
  refine ⟨fun z => by rw [z] at h1; simp at h1, ?_, fun c hc => by have := h2 c hc; simp [dg, this.1, this.2]⟩
  cases l with
  | nil => simp at h1
  | cons c r =>
    by_cases hc : c = 48
    · subst hc
      cases r with
      | nil => simp
      | cons c2 r2 =>
        exfalso
        have hv := val_lt (c2 :: r2) 0 fun c hc => (h2 c (List.mem_cons_of_mem _ hc)).2
        have e : NumText.digitsVal (48 :: c2 :: r2) = (c2 :: r2).foldl (fun acc c => acc * 10 + (c - 48)) 0 := rfl
        rw [← e, h3, Nat.zero_add, Nat.one_mul] at hv
        have := h4 (c2 :: r2).length (by simp) hv
        simp only [List.length_cons] at this
        omega
    · simp [hc]
theorem neg_S (p : Int) : neg (S p) = decide (p < 0) := by
  unfold neg
  by_cases c : 0 ≤ p
  · obtain ⟨v, rfl⟩ := Int.eq_ofNat_of_zero_le c
    have h2 := S_dig v
    rw [decide_eq_false (show ¬ ((v : Int) < 0) by omega), decide_eq_false]
    intro z
    have := h2 45 (List.mem_of_mem_head? z)
    omega
  · obtain ⟨v, hv⟩ : ∃ v : Nat, p = -(v : Int) ∧ 0 < v := ⟨p.natAbs, by omega, by omega⟩
    rw [hv.1, S_neg v hv.2, decide_eq_true (show (-(v : Int) < 0) by omega)]
    rfl
theorem body_S (p : Int) : bodyS (S p) = S (p.natAbs : Nat) := by
  unfold bodyS
  rw [neg_S]
  by_cases c : 0 ≤ p
  · rw [decide_eq_false (by omega)]
    simp only [Bool.false_eq_true, if_false]
    congr 1
    omega
  · rw [decide_eq_true (by omega), if_pos rfl]
    refine str_ext ?_
    rw [tail_list]
    obtain ⟨v, hv⟩ : ∃ v : Nat, p = -(v : Int) ∧ 0 < v := ⟨p.natAbs, by omega, by omega⟩
    rw [hv.1, S_neg v hv.2, Int.natAbs_neg, Int.natAbs_natCast]
    rfl
theorem rdA_S (p : Int) : rdA (S p) = tm p 1 := by
  unfold rdA
  rw [body_S, S_fig, if_pos rfl, S_val, neg_S]
  by_cases c : p < 0
  · rw [decide_eq_true c, if_neg (by omega)]
    unfold tm
    simp only [if_true]
    congr 3
    omega
  · rw [decide_eq_false c, if_neg (by simp)]
    unfold tm
    simp only [Bool.false_eq_true, if_false]
    congr 3
    omega
theorem rdB_S (p : Int) (w : Nat) (hw : 2 ≤ w) (hg : Int.gcd p w = 1) : rdB (S p) (S (w : Nat)) = tm p w := by
  have hg' : Nat.gcd p.natAbs w = 1 := hg
  have h0 : p.natAbs ≠ 0 := fun z => by rw [z, Nat.gcd_zero_left] at hg'; omega
  unfold rdB
  rw [body_S, S_fig, S_fig, if_pos ⟨rfl, rfl⟩, S_val, S_val, neg_S, if_neg (by rintro (z | z | z); exact h0 z; omega; exact z hg')]
  by_cases c : p < 0
  · rw [decide_eq_true c]
    unfold tm
    simp only [if_true]
    congr 3
    omega
  · rw [decide_eq_false c]
    unfold tm
    simp only [Bool.false_eq_true, if_false]
    congr 3
    omega
theorem S_ok (p : Int) : PyData.strOk (S p) = true := ofString_ok _
theorem read_txt (p q : Int) (hp : p.natAbs < 10 ^ 29) (hq : 0 < q) (hq2 : q.natAbs < 10 ^ 29) (hg : Int.gcd p q = 1) : m_read_time [.str (txt p q)] = .ok (.fz (tm p q)) := by
  have b1 := S_len30 (p := p) (Nat.lt_trans hp (by decide))
  have b2 := S_len30 (p := q) (Nat.lt_trans hq2 (by decide))
  by_cases c : q = 1
  · subst c
    have e : txt p 1 = S p := by unfold txt; rw [if_pos rfl]
    rw [e, read_A (S_ok p) (by omega) (S_noslash p), rdA_S, rdR_tm]
  · obtain ⟨w, rfl⟩ := Int.eq_ofNat_of_zero_le (Int.le_of_lt hq)
    have e : txt p w = S p ++ sg 47 ++ S (w : Nat) := by unfold txt; rw [if_neg c, ← strS]
    have hl : (S p ++ sg 47 ++ S (w : Nat)).cps.toList = (S p).cps.toList ++ 47 :: (S (w : Nat)).cps.toList := by
      rw [app_cps, app_cps, sg_list]; simp
    obtain ⟨a, b, hp', hx, na⟩ := part_some (x := S p ++ sg 47 ++ S (w : Nat)) (c := 47) (by rw [hl]; simp)
    have hab : a = S p ∧ b = S (w : Nat) := by
      have e1 := congrArg (fun z : Str => z.cps.toList) hx
      rw [hl, app_cps, app_cps, sg_list] at e1
      obtain ⟨k1, k2⟩ := cut_uniq na (S_noslash p) (by simpa using e1)
      exact ⟨str_ext k1, str_ext k2⟩
    rw [hab.1, hab.2] at hp'
    rw [hab.1] at na
    rw [e, read_B (app_ok (app_ok (S_ok p) (by decide +kernel)) (S_ok _)) (S_ok p) (S_ok _) (by rw [app_len, app_len]; have : (sg 47).length = 1 := rfl; omega) (by omega) (by omega) hp' rfl na, rdB_S p w (by omega) hg, rdR_tm]
/-! ### spoilt texts -/
theorem cut_len (z : Str) (lo hi : Option Int) : (cutS z lo hi).length ≤ z.length := by
  rw [← str_len, ← str_len, cut_cps, List.length_take, List.length_drop]
  omega
theorem cut_two (z : Str) (a b : Int) (ha : 0 ≤ a) (hb : a ≤ b) : (cutS z none (some a)).length + (cutS z (some b) none).length ≤ z.length := by
  rw [← str_len, ← str_len, cut_cps, cut_cps, List.length_take, List.length_drop, List.length_take, List.length_drop, str_len]
  have h : HT.sIx z.length z.length (some a) ≤ HT.sIx z.length 0 (some b) := by
    unfold HT.sIx
    dsimp only
    rw [if_neg (by omega), if_neg (by omega)]
    omega
  have : HT.sIx z.length 0 none = 0 := rfl
  have : HT.sIx z.length z.length none = z.length := rfl
  omega
theorem cut_ok {z : Str} (h : PyData.strOk z = true) (lo hi : Option Int) : PyData.strOk (cutS z lo hi) = true :=
  ok_sub h fun c hc => by rw [cut_cps] at hc; exact List.mem_of_mem_drop (List.mem_of_mem_take hc)
def oddL : List D := [.str (Str.ofString ""), .str (Str.ofString "-"), .str (Str.ofString "/"), .str (Str.ofString "-0"), .str (Str.ofString "0/1"), .str (Str.ofString "0/7"), .str (Str.ofString "1/1"), .str (Str.ofString "2/4"), .str (Str.ofString "1/0"), .str (Str.ofString "-/2"), .str (Str.ofString "1/"), .str (Str.ofString "/2"), .str (Str.ofString "1/-2"), .str (Str.ofString "--1"), .str (Str.ofString "+1"), .str (Str.ofString "1 /2"), .str (Str.ofString "1/2/3"), .str (Str.ofString "01"), .str (Str.ofString "1/02"), .str (Str.ofString " 1"), .str (Str.ofString "1 "), .str (Str.ofString "x"), .str (Str.ofString "1.5"), .str (Str.ofString "-0/3")]
theorem odd_mem : ∀ x ∈ oddL, ∃ y, x = .str y ∧ PyData.strOk y = true ∧ y.length ≤ 120 := by
  intro x hx
  unfold oddL at hx
  simp only [List.mem_cons, List.not_mem_nil, or_false] at hx
  rcases hx with rfl | rfl | rfl | rfl | rfl | rfl | rfl | rfl | rfl | rfl | rfl | rfl | rfl | rfl | rfl | rfl | rfl | rfl | rfl | rfl | rfl | rfl | rfl | rfl <;> exact ⟨_, rfl, ofString_ok _, by decide +kernel⟩
theorem odd_ok (n : Int) : ∃ y, m__law_odd [.int n] = .ok (.fz (.str y)) ∧ PyData.strOk y = true ∧ y.length ≤ 120 := by
  have r := emod_rng n 24 (by decide)
  obtain ⟨x, h1, h2, _⟩ := atI_in (ds := oddL) r.1 r.2
  obtain ⟨y, rfl, h3, h4⟩ := odd_mem x h2
  refine ⟨y, ?_, h3, h4⟩
  unfold oddL at h1
  have sl : (24 : Nat) ≤ sizeLine := by rw [sizeLine_eq]; omega
  simp [m__law_odd, runB_, g__law_odd, h1, sl]
theorem sgn_ok (n : Int) : ∃ c : Nat, ixD (.str (Str.ofString "0+- /x.9")) (.int (n % 8)) = .ok (.fz (.str (sg c))) ∧ PyData.strOk (sg c) = true := by
  have r := emod_rng n 8 (by decide)
  have hl : (Str.ofString "0+- /x.9").cps.toList.length = 8 := by decide +kernel
  obtain ⟨c, h1, h2, _⟩ := atI_in (ds := (Str.ofString "0+- /x.9").cps.toList) r.1 (by rw [hl]; exact r.2)
  refine ⟨c, ?_, ok_sub (ofString_ok "0+- /x.9") fun c' hc => by rw [sg_list] at hc; rw [List.mem_singleton.mp hc]; exact h2⟩
  unfold ixD
  dsimp only
  rw [need_pos (by decide +kernel), h1]
  rfl
theorem spoilt_ok (p q n : Int) (hp : p.natAbs < 10 ^ 29) (hq : 0 < q) (hq2 : q.natAbs < 10 ^ 29) : ∃ y, m__law_spoilt [.str (txt p q), .int p, .int q, .int n] = .ok (.fz (.str y)) ∧ PyData.strOk y = true ∧ y.length ≤ 120 := by
  have hT : (txt p q).length ≤ 60 := by
    unfold txt
    split
    · have := S_len29 (p := p) hp; omega
    · have h1 := S_len29 (p := p) hp; have h2 : (S q).length ≤ 29 := by
        obtain ⟨w, rfl⟩ := Int.eq_ofNat_of_zero_le (Int.le_of_lt hq)
        rw [← str_len]; exact S_lenN (by decide) (by rw [Int.natAbs_natCast] at hq2; exact hq2)
      have h3 : ("/" : Str).length = 1 := slash_len
      rw [app_len, app_len]; omega
  have hO : PyData.strOk (txt p q) = true := by unfold txt; split <;> first | exact ofString_ok _ | exact app_ok (app_ok (ofString_ok _) (ofString_ok _)) (ofString_ok _)
  obtain ⟨c, e1, oc⟩ := sgn_ok (n / 300)
  have e2 := fdiv_ n 12 (by decide) (by decide)
  have e3 := fdiv_ n 300 (by decide) (by decide)
  have hby := emod_rng (n / 300) 5 (by decide)
  obtain ⟨by_, hb⟩ : ∃ b, b = 2 + n / 300 % 5 := ⟨_, rfl⟩
  have hby2 : by_.natAbs < 2 ^ 3 := by omega
  have hpb : p.natAbs < 2 ^ 100 := Nat.lt_trans hp (by decide)
  have hqb : q.natAbs < 2 ^ 100 := Nat.lt_trans hq2 (by decide)
  have e4 := mul_ p by_ 100 3 hpb hby2
  have e5 := mul_ q by_ 100 3 hqb hby2
  have L1 : (p * by_).natAbs < 10 ^ 30 := by
    rw [Int.natAbs_mul]
    have : by_.natAbs ≤ 6 := by omega
    calc p.natAbs * by_.natAbs ≤ p.natAbs * 6 := Nat.mul_le_mul_left _ this
      _ < 10 ^ 30 := by omega
  have L2 : (q * by_).natAbs < 10 ^ 30 := by
    rw [Int.natAbs_mul]
    have : by_.natAbs ≤ 6 := by omega
    calc q.natAbs * by_.natAbs ≤ q.natAbs * 6 := Nat.mul_le_mul_left _ this
      _ < 10 ^ 30 := by omega
  have lg : ∀ {x : Int}, x.natAbs < 10 ^ 30 → x.natAbs.log2 < 1920 := fun {x} h => lgv (Nat.lt_trans h (by decide))
  have s1 := str_i _ (lg L1)
  have s2 := str_i _ (lg L2)
  have s3 := str_i _ (lg (x := p) (by omega))
  have s4 := str_i _ (lg (x := -q) (by rw [Int.natAbs_neg]; omega))
  have k1 := S_len30 L1
  have k2 := S_len30 L2
  have k3 := S_len30 (p := p) (by omega)
  have k4 := S_len30 (p := -q) (by rw [Int.natAbs_neg]; omega)
  have ts : ∀ x : Int, (toString x : Str) = S x := fun _ => rfl
  rw [ts] at s1 s2 s3 s4
  obtain ⟨yo, eo, oo, lo⟩ := odd_ok (n / 12)
  have hz : sizeLine = 16777216 := sizeLine_eq
  have lsg : (sg c).length = 1 := rfl
  have slb : ∀ (z : Str) lo hi, (cutS (txt p q) lo hi).length ≤ 60 := fun z lo hi => by have := cut_len (txt p q) lo hi; omega
  have sl := slash_len
  have so : ∀ x, PyData.strOk (S x) = true := S_ok
  have os : PyData.strOk (Str.ofString "/") = true := ofString_ok _
  generalize txt p q = T at *
  have aok := so (p * by_)
  have bok := so (q * by_)
  have cok := so p
  have dok := so (-q)
  clear so ts
  generalize S (p * by_) = A at *
  generalize S (q * by_) = B at *
  generalize S p = C at *
  generalize S (-q) = Dd at *
  clear L1 L2 hpb hqb
  have hmod : 0 < (T.length : Int) + 1 := by omega
  obtain ⟨at_, hat⟩ : ∃ a, a = n / 12 % ((T.length : Int) + 1) := ⟨_, rfl⟩
  have e6 := mod_ (n / 12) _ hmod
  rw [← hat] at e6
  have zT : T.length ≤ sizeLine := by omega
  have f1 : (cutS T none (some at_)).length + (sg c).length ≤ sizeLine := by have := slb T none (some at_); omega
  have f2 : (cutS T none (some at_) ++ sg c).length + (cutS T (some at_) none).length ≤ sizeLine := by rw [app_len]; have := slb T none (some at_); have := slb T (some at_) none; omega
  have f3 : (cutS T none (some at_) ++ sg c).length + (cutS T (some (at_ + 1)) none).length ≤ sizeLine := by rw [app_len]; have := slb T none (some at_); have := slb T (some (at_ + 1)) none; omega
  have f4 : (cutS T none (some at_)).length + (cutS T (some (at_ + 1)) none).length ≤ sizeLine := by have := slb T none (some at_); have := slb T (some (at_ + 1)) none; omega
  have f5 : T.length + (cutS T (some at_) none).length ≤ sizeLine := by have := slb T (some at_) none; omega
  have f6 : A.length + (Str.ofString "/").length ≤ sizeLine := by omega
  have f7 : (A ++ Str.ofString "/").length + B.length ≤ sizeLine := by rw [app_len]; omega
  have f8 : C.length + (Str.ofString "/").length ≤ sizeLine := by omega
  have f9 : (C ++ Str.ofString "/").length + Dd.length ≤ sizeLine := by rw [app_len]; omega
  have g1 := slb T none (some at_)
  have g2 := slb T (some at_) none
  have g3 := slb T (some (at_ + 1)) none
  have hat0 : 0 ≤ at_ := by rw [hat]; exact Int.emod_nonneg _ (by omega)
  have w1 := cut_two T at_ at_ hat0 (Int.le_refl _)
  have w2 := cut_two T at_ (at_ + 1) hat0 (by omega)
  have o1 := cut_ok hO none (some at_)
  have o2 := cut_ok hO (some at_) none
  have o3 := cut_ok hO (some (at_ + 1)) none
  by_cases c0 : n % 12 = 0
  · exact ⟨cutS T none (some at_) ++ sg c ++ cutS T (some at_) none, by simp [m__law_spoilt, runB_, g__law_spoilt, zT, e1, e2, e3, e6, c0, f1, f2, ← hat], app_ok (app_ok o1 oc) o2, by rw [app_len, app_len]; omega⟩
  by_cases c1 : n % 12 = 1
  · exact ⟨cutS T none (some at_) ++ sg c ++ cutS T (some (at_ + 1)) none, by simp [m__law_spoilt, runB_, g__law_spoilt, zT, e1, e2, e3, e6, c1, f1, f3, ← hat], app_ok (app_ok o1 oc) o3, by rw [app_len, app_len]; omega⟩
  by_cases c2 : n % 12 = 2
  · exact ⟨cutS T none (some at_) ++ cutS T (some (at_ + 1)) none, by simp [m__law_spoilt, runB_, g__law_spoilt, zT, e1, e2, e3, e6, c2, f4, ← hat], app_ok o1 o3, by rw [app_len]; omega⟩
  by_cases c3 : n % 12 = 3
  · exact ⟨A ++ Str.ofString "/" ++ B, by simp [m__law_spoilt, runB_, g__law_spoilt, zT, e1, e2, e3, e6, c3, ← hb, e4, e5, s1, s2, f6, f7, ← hat], app_ok (app_ok aok os) bok, by rw [app_len, app_len]; omega⟩
  by_cases c4 : n % 12 = 4
  · exact ⟨C ++ Str.ofString "/" ++ Dd, by simp [m__law_spoilt, runB_, g__law_spoilt, zT, e1, e2, e3, e6, c4, s3, s4, f8, f9, ← hat], app_ok (app_ok cok os) dok, by rw [app_len, app_len]; omega⟩
  by_cases c5 : n % 12 = 5
  · exact ⟨T ++ cutS T (some at_) none, by simp [m__law_spoilt, runB_, g__law_spoilt, zT, e1, e2, e3, e6, c5, f5, ← hat], app_ok hO o2, by rw [app_len]; omega⟩
  by_cases c6 : n % 12 = 6
  · exact ⟨yo, by simp [m__law_spoilt, runB_, g__law_spoilt, zT, e1, e2, e3, e6, c6, eo, ← hat], oo, lo⟩
  exact ⟨T, by simp [m__law_spoilt, runB_, g__law_spoilt, zT, e1, e2, e3, e6, c0, c1, c2, c3, c4, c5, c6, ← hat], hO, by omega⟩
/-! ### the law -/
def Iv (ns : List Int) : Nat → Ev → Prop := fun k env => ∃ (more : Int) (s2 s3 s4 s5 s6 s7 s8 s9 : Sl), env = [.fz (.lst (ns.map D.int)), .fz (.int more), s2, s3, s4, s5, s6, s7, s8, s9] ∧ 0 ≤ more ∧ more < 2147483647
theorem turn (ns : List Int) (i : Nat) (more : Int) (s3 s4 s5 s6 s7 s8 s9 : Sl) (hi : i < ns.length) (hb : ∀ z ∈ ns, Builtin.Int.intBits z ≤ 1048576) (h0 : 0 ≤ more) (h1 : more < 2147483647) :
    ∃ env', b_law_0 [.fz (.lst (ns.map D.int)), .fz (.int more), .fz (.int i), s3, s4, s5, s6, s7, s8, s9] = .nx env' ∧ Iv ns (i + 1) env' := by
  have ha : atI (ns.map D.int) (i : Int) = some (.int ns[i]) := atI_some rfl (by simp [hi])
  have hc := hb ns[i] (List.getElem_mem hi)
  generalize ns[i] = cell at ha hc
  obtain ⟨m1, e1, p1, p2⟩ := next_ok more cell i h0 (by omega)
  obtain ⟨a, e2, ta⟩ := top_ok m1 cell p1 p2 hc
  obtain ⟨b, e3, tb⟩ := bottom_ok m1 cell p1 p2 hc
  obtain ⟨x, e4, p3, p4⟩ := mixed_ok (m1 + 5) (by omega) (by omega)
  have la : a.natAbs < 10 ^ 29 := by unfold Tp at ta; omega
  have lb : b.natAbs < 10 ^ 29 ∧ 0 < b := by unfold Bt at tb; omega
  obtain ⟨p, q, n1, n2, n3, n4, n5, n6⟩ := nf_ok a b lb.2
  have lp : p.natAbs < 10 ^ 29 := Nat.lt_of_le_of_lt n5 la
  have lq : q.natAbs < 10 ^ 29 := by omega
  have e5 := time_ok a b lb.2 (Nat.lt_of_lt_of_le lb.1 (Nat.le_trans (show (10 ^ 29 : Nat) ≤ 2 ^ 100 by decide) (Nat.pow_le_pow_right (by decide) (by decide))))
  have n1' : nf a b = tm p q := n1
  rw [n1'] at e5
  have s400 : ∀ {z : Int}, z.natAbs < 10 ^ 29 → z.natAbs < 2 ^ 400 := fun {z} h => Nat.lt_of_lt_of_le h (Nat.le_trans (show (10 ^ 29 : Nat) ≤ 2 ^ 100 by decide) (Nat.pow_le_pow_right (by decide) (by decide)))
  have e6 := is_ok p q a b (s400 lp) (s400 lq) (s400 la) (s400 lb.1) n2 n3 n4
  have e7 := text_ok p q (s400 lp) (s400 lq)
  have e8 := read_txt p q lp n2 lq n3
  have e9 : m__law_read [.str (txt p q)] = .ok (.fz (tm p q)) := law_read_ok (.inr ⟨p, q, rfl, s400 lp, s400 lq, n2, n3⟩) (by rw [rdR_tm]; exact e8)
  obtain ⟨y, e10, oy, ly⟩ := spoilt_ok p q x lp n2 lq
  obtain ⟨d, td, e11, e12⟩ := say y oy ly
  have e13 := law_read_ok td e12
  have pd : D.pl 60 d = true := by
    rcases td with rfl | ⟨r, t, rfl, _⟩
    · rfl
    · exact pl_pair r t 59
  have e14 := ne_self pd
  have ot : PyData.strOk (txt p q) = true := by unfold txt; split <;> first | exact ofString_ok _ | exact app_ok (app_ok (ofString_ok _) (ofString_ok _)) (ofString_ok _)
  have e15 : neD (.str (txt p q)) (.str (txt p q)) = .ok (.fz (.bl false)) := ne_self (by simpa [D.pl] using ot)
  have e16 : neD (tm p q) (tm p q) = .ok (.fz (.bl false)) := ne_self (pl_pair p q 59)
  have e17 : xAnd (xB (xUn isNN (xVar 8))) (xNot (xB (xCall 3 m__law_is [] (xCons (xVar 9) (xCons (xBin ixD (xVar 8) (xC (.int 0))) (xCons (xBin ixD (xVar 8) (xC (.int 1))) xNil))))))
      [.fz (.lst (ns.map D.int)), .fz (.int m1), .fz (.int i), .fz (.int a), .fz (.int b), .fz (tm p q), .fz (.str (txt p q)), .fz (.str y), .fz d, .fz d] = .ok false := by
    rcases td with rfl | ⟨r, t, rfl, r1, r2, r3, r4⟩
    · simp
    · have := is_ok r t r t r1 r2 r1 r2 r3 r4 rfl
      clear r1 r2
      unfold tm at this ⊢
      simp [at0, at1, this]
  have a1 : strD [.int p] = .ok (.fz (.str (S p))) := str_i p (lgv (s400 lp))
  have a2 : strD [.int q] = .ok (.fz (.str (S q))) := str_i q (lgv (s400 lq))
  have b2 := S_two (s400 lp)
  have b3 := S_three (s400 lp) (s400 lq)
  have i0 : ixD (tm p q) (.int 0) = .ok (.fz (.int p)) := by unfold tm; simp [at0]
  have i1 : ixD (tm p q) (.int 1) = .ok (.fz (.int q)) := by unfold tm; simp [at1]
  refine ⟨[.fz (.lst (ns.map D.int)), .fz (.int m1), .fz (.int i), .fz (.int a), .fz (.int b), .fz (tm p q), .fz (.str (txt p q)), .fz (.str y), .fz d, .fz d], ?_, m1, _, _, _, _, _, _, _, _, rfl, p1, p2⟩
  clear e8 e12 la lb lp lq
  by_cases c : q = 1
  · have et : txt p q = S p := by unfold txt; rw [if_pos c]
    rw [et] at e7 e9 e10 e15 e17 ⊢
    subst c
    simp at e17
    simp [b_law_0, ha, e1, e2, e3, e4, e5, e6, e7, e9, e10, e11, e13, e14, e15, e16, e17, a1, i0, i1]
  · have et : txt p q = S p ++ Str.ofString "/" ++ S q := by unfold txt; rw [if_neg c]
    rw [et] at e7 e9 e10 e15 e17 ⊢
    simp at e17
    simp [b_law_0, ha, e1, e2, e3, e4, e5, e6, e7, e9, e10, e11, e13, e14, e15, e16, e17, a1, a2, b2, b3, i0, i1, c]
theorem law_true : LawD m_law := by
  intro ns hl hb
  have e7 : rng1R [.int (ns.length : Int)] = .ok (rngL 0 ns.length) := by
    rw [rng1_ _ (by omega) (by omega)]
    rfl
  obtain ⟨env', h1, more, s2, s3, s4, s5, s6, s7, s8, s9, rfl, _⟩ := forL_inv (put := gN 2) (body := b_law_0) (Iv ns) (rngL 0 ns.length) [.fz (.lst (ns.map D.int)), .fz (.int 7), .no, .no, .no, .no, .no, .no, .no, .no] (by
    rintro i env d hd ⟨more, s2, s3, s4, s5, s6, s7, s8, s9, rfl, h0, h1⟩
    obtain ⟨hi, rfl⟩ := rngL_at hd
    have hz : (0 : Int) + (i : Int) = i := by omega
    rw [hz]
    obtain ⟨env', q1, q2⟩ := turn ns i more s3 s4 s5 s6 s7 s8 s9 hi hb h0 h1
    exact ⟨_, env', rfl, .inl q1, q2⟩) ⟨7, _, _, _, _, _, _, _, _, rfl, by omega, by omega⟩
  simp [m_law, runB_, g_law, e7, h1]
end Cy

set_option Elab.async false
set_option linter.all false
set_option maxRecDepth 100000
set_option maxHeartbeats 8000000
open PySem PySem.W PySem.Calls PyProof.Rows
theorem PySem.Challenge.cw_clockyard_k02_time_texts_holds : PySem.Challenge.rw_clockyard_k02_time_texts.Holds := by
  w_on; o_law
  refine HandSHeadRun.head_any (r := OpenLaw.row PySem.Challenge.rw_clockyard_k02_time_texts) (q := view (OpenLaw.row PySem.Challenge.rw_clockyard_k02_time_texts).prog [26]) (H := Cy.hk) (ob := Cy.ob) (M := 3000) (loose := Cy.loose) (d := HandSHeadRun.topDef (OpenLaw.row PySem.Challenge.rw_clockyard_k02_time_texts).prog 26) (kwd := []) Cy.ob_eq
    (by kernel_rfl) (fun s => by kernel_rfl) Cy.run (by kernel_rfl) (by kernel_rfl) (by kernel_rfl) (by rfl) (by first | assumption | decide +kernel) (by decide +kernel) ⟨rfl, rfl, rfl, rfl, rfl, by decide +kernel⟩ ?hw ?hc
  case hw => w_witness2
  case hc =>
    refine PL.walk_ofEB (l := PySem.Challenge.rw_clockyard_k02_time_texts) (k := 5) (x := "_law_script") rfl (by kernel_rfl) ⟨rfl, by decide, by decide⟩ ?F
    intro w mg fa h Y G hmg0
    obtain ⟨K, KX, c⟩ := Y
    have hmg : mg ("law" : PySem.Str) = some (.ref fa) := by
      have e : (HandSHeadRun.topDef (OpenLaw.row PySem.Challenge.rw_clockyard_k02_time_texts).prog 26).name = ("law" : PySem.Str) := by kernel_rfl
      rw [← e]
      exact hmg0
    obtain ⟨fd, hb, hF⟩ := Cy.facts (P := (PySem.Challenge.rw_clockyard_k02_time_texts).prog) (w := w) KX G hmg c Cy.law_true
    exact ⟨K, fd, KX, hb, hF⟩
