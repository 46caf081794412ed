import PyProof.Rows.All
import Wide.All
import OpenK.AllK
import Wide.FinOn
import HandS.ForMost
import HandS.Exc
import HandS.Lambda
import HandS.Deep
import HandS.TupAny
import HandS.TupMul
import HandS.TupLe
import HandS.IsInst
import HandS.Zip
import HandS.RaiseMore
import KE.DataEq
import KE.DataCmp
import KE.SortData
import HandS.Style
import HandS.Wide
import HandS.Strs
import PyProof.ReprBulk
import HandS.Flow
import HandS.Property
import HandS.Codes
import HandS.More
import HandS.Conv
import HandS.DictComp
import KE.GoesEnum
import KE.GoesMore
import HandS.DictEq
import HandS.Dict
import KE.SortKeyHeap
import HandS.SortKw
import HandS.EndTab
import HandS.SetFor
import KE.KExcSuper
import KE.KExcIs
import HandS.ExcIs
import PySem.Challenge.RW_strangerows_k08_errors
set_option Elab.async false
set_option linter.all false
set_option maxRecDepth 100000
set_option maxHeartbeats 4000000
namespace Sx
open PySem L2

/-! ### trees of draws -/
inductive T (α : Type) where
  | ret (a : α) | fail | ch (n : Nat) (k : Nat → T α)
namespace T
variable {α β γ : Type}
def bind : T α → (α → T β) → T β
  | .ret a, f => f a
  | .fail, _ => .fail
  | .ch n k, f => .ch n fun i => (k i).bind f
def wp : T α → (α → Prop) → Prop
  | .ret a, Q => Q a
  | .fail, _ => False
  | .ch n k, Q => ∀ i, i < n → (k i).wp Q
theorem wp_bind (t : T α) (f : α → T β) (Q : β → Prop) : (t.bind f).wp Q ↔ t.wp (fun a => (f a).wp Q) := by
  induction t with
  | ret a => exact Iff.rfl
  | fail => exact Iff.rfl
  | ch n k ih => exact ⟨fun h i hi => (ih i).mp (h i hi), fun h i hi => (ih i).mpr (h i hi)⟩
theorem wp_mono {t : T α} {Q R : α → Prop} (h : t.wp Q) (m : ∀ a, Q a → R a) : t.wp R := by
  induction t with
  | ret a => exact m a h
  | fail => exact h
  | ch n k ih => exact fun i hi => ih i (h i hi)
def ofOpt : Option α → T α
  | some a => .ret a
  | none => .fail
theorem wp_ofOpt {o : Option α} {Q : α → Prop} (h : (ofOpt o).wp Q) : ∃ a, o = some a ∧ Q a := by
  cases o with
  | none => exact h.elim
  | some a => exact ⟨a, rfl, h⟩
theorem bind_ret (t : T α) : t.bind .ret = t := by
  induction t with
  | ret a => rfl
  | fail => rfl
  | ch n k ih => show T.ch n _ = _; congr; funext i; exact ih i
theorem bind_assoc (t : T α) (f : α → T β) (g : β → T γ) : (t.bind f).bind g = t.bind fun a => (f a).bind g := by
  induction t with
  | ret a => rfl
  | fail => rfl
  | ch n k ih => show T.ch n _ = T.ch n _; congr; funext i; exact ih i
@[simp] theorem ret_bind (a : α) (f : α → T β) : (T.ret a).bind f = f a := rfl
@[simp] theorem fail_bind (f : α → T β) : (T.fail).bind f = .fail := rfl
end T

/-! ### data -/
inductive D where
  | non | bl (b : Bool) | int (i : Int) | str (x : Str)
  | lst (xs : List D) | tup (xs : List D)
  | dK (kvs : List (Key × D)) | dT (kvs : List (List Key × D))
  | obj (c : Nat) (fs : List (Str × D))
  | scr (n : Nat) | drw
  | ty (n : String) | cl (c : Nat) | adr (a : Addr) | exc (c : Nat) (fs : List (Str × D))
instance : Inhabited D := ⟨.non⟩

/-- the classes, and the tables of code objects of those defs that make lambdas -/
structure CT where
  c : Nat → Addr
  tb : List (Addr × Str)
instance : CoeFun CT (fun _ => Nat → Addr) := ⟨CT.c⟩
/-- what is fixed for a law: the written part, the two lists of the draws, the classes -/
structure Wd where
  K : PySem.W.Frag
  da : Addr
  db : Addr
  cls : CT
abbrev Wd.tb (W : Wd) : List (Addr × Str) := W.cls.tb

/-- a written tuple -/
def Wr (W : Wd) (a : Addr) (xs : List V) : Prop := SqT W.K (fun _ => none) a xs
/-- the object at the top is in S (but for the draws; a tuple always is) -/
def Tin (S : Addr → Prop) : V → D → Prop
  | _, .drw => True
  | _, .scr _ => True
  | _, .tup _ => True
  | _, .cl _ => True
  | _, .adr _ => True
  | .ref a, _ => S a
  | _, _ => True
/-- a caught error: its class, its dict -/
def ExcO (cls : Value) (dv : Option Addr) (a : Addr) : HO := .ext fun h => ∃ oe, h.get? a = some oe ∧ L2.Zc cls dv oe ∧ ∃ vs, oe.data = .fields vs
mutual
/-- v stands for the data d in the heap H; all objects within (not the one at the top) are in S -/
inductive Dv (W : Wd) (S : Addr → Prop) (H : Hp) : V → D → Prop
  | non : Dv W S H .non .non
  | bl (b : Bool) : Dv W S H (.bl b) (.bl b)
  | int (i : Int) : Dv W S H (.int i) (.int i)
  | str (x : Str) : Dv W S H (.str x) (.str x)
  | lst {a : Addr} {xs : List V} {ds : List D} : H a = some (.lst xs) → DvL W S H xs ds → Dv W S H (.ref a) (.lst ds)
  | tup {a : Addr} {xs : List V} {ds : List D} : (S a ∧ H a = some (.tup xs)) ∨ Wr W a xs → DvL W S H xs ds → Dv W S H (.ref a) (.tup ds)
  | dK {a : Addr} {kvs : List (Key × V)} {ds : List (Key × D)} : Rd H a (.dK kvs) → DvP W S H kvs ds → Dv W S H (.ref a) (.dK ds)
  | dT {a : Addr} {kvs : List (List Key × V)} {ds : List (List Key × D)} : H a = some (.dT kvs) → DvP W S H kvs ds → Dv W S H (.ref a) (.dT ds)
  | obj {a dx : Addr} {c : Nat} {fs : List (Str × V)} {ds : List (Str × D)} : H a = some (.ins (W.cls c) dx fs) → DvP W S H fs ds → Dv W S H (.ref a) (.obj c ds)
  | scr {a : Addr} {xs : List V} : (S a ∧ SqL W.K H a xs) ∨ (∀ G : Hp, SqL W.K G a xs) → Dv W S H (.ref a) (.scr xs.length)
  | drw : Dv W S H (.ref W.da) .drw
  | ty (n : String) : Dv W S H (.ty n) (.ty n)
  | cl (c : Nat) : Dv W S H (.ref (W.cls c)) (.cl c)
  | adr (a : Addr) : Dv W S H (.ref a) (.adr a)
  | exc {a dd : Addr} {c : Nat} {fs : List (Str × V)} {ds : List (Str × D)} : H a = some (ExcO (.ref (W.cls c)) (some dd) a) → S dd → H dd = some (.xd fs) → DvP W S H fs ds → Dv W S H (.ref a) (.exc c ds)
  | exc0 {a : Addr} {c : Nat} : H a = some (ExcO (.ref (W.cls c)) none a) → Dv W S H (.ref a) (.exc c [])
inductive DvL (W : Wd) (S : Addr → Prop) (H : Hp) : List V → List D → Prop
  | nil : DvL W S H [] []
  | cons {v : V} {vs : List V} {d : D} {ds : List D} : Tin S v d → Dv W S H v d → DvL W S H vs ds → DvL W S H (v :: vs) (d :: ds)
inductive DvP (W : Wd) (S : Addr → Prop) (H : Hp) : {κ : Type} → List (κ × V) → List (κ × D) → Prop
  | nil {κ : Type} : DvP W S H (κ := κ) [] []
  | cons {κ : Type} {k : κ} {v : V} {vs : List (κ × V)} {d : D} {ds : List (κ × D)} : Tin S v d → Dv W S H v d → DvP W S H vs ds → DvP W S H ((k, v) :: vs) ((k, d) :: ds)
end
/-- frozen -/
def Dz (W : Wd) (S : Addr → Prop) (H : Hp) (v : V) (d : D) : Prop := Tin S v d ∧ Dv W S H v d

theorem SqL.at {K : PySem.W.Frag} {H H' : Hp} {a : Addr} {xs : List V} (e : H' a = H a) (h : SqL K H a xs) : SqL K H' a xs := by
  rcases h with (h | ⟨o, h⟩) | h
  · exact .inl (.inl (by rw [e]; exact h))
  · exact .inl (.inr ⟨o, by rw [e]; exact h⟩)
  · exact .inr h
theorem rd_at {H H' : Hp} {a : Addr} {u : HO} (e : H' a = H a) (h : Rd H a u) : Rd H' a u := by
  unfold Rd
  rw [e]
  exact h
theorem Tin.mono {S S' : Addr → Prop} (hS : ∀ a, S a → S' a) : ∀ {v : V} {d : D}, Tin S v d → Tin S' v d := by
  intro v d h
  cases v <;> cases d <;> first | exact trivial | exact hS _ h
mutual
theorem Dv.mono {W : Wd} {S S' : Addr → Prop} {H H' : Hp} (hS : ∀ a, S a → S' a) (hH : ∀ a, S a → H' a = H a) : ∀ {v : V} {d : D}, Dv W S H v d → Tin (fun a => H' a = H a) v d → Dv W S' H' v d
  | _, _, .non, _ => .non
  | _, _, .bl b, _ => .bl b
  | _, _, .int i, _ => .int i
  | _, _, .str x, _ => .str x
  | _, _, .lst h r, t => .lst (Eq.trans t h) (DvL.mono hS hH r)
  | _, _, .tup h r, t => .tup (h.imp (fun ⟨s, q⟩ => ⟨hS _ s, (hH _ s).trans q⟩) id) (DvL.mono hS hH r)
  | _, _, .dK h r, t => .dK (rd_at t h) (DvP.mono hS hH r)
  | _, _, .dT h r, t => .dT (Eq.trans t h) (DvP.mono hS hH r)
  | _, _, .obj h r, t => .obj (Eq.trans t h) (DvP.mono hS hH r)
  | _, _, .scr h, t => .scr (h.imp (fun ⟨s, q⟩ => ⟨hS _ s, SqL.at (hH _ s) q⟩) id)
  | _, _, .drw, _ => .drw
  | _, _, .ty n, _ => .ty n
  | _, _, .cl c, _ => .cl c
  | _, _, .adr a, _ => .adr a
  | _, _, .exc e s h r, t => .exc (Eq.trans t e) (hS _ s) ((hH _ s).trans h) (DvP.mono hS hH r)
  | _, _, .exc0 e, t => .exc0 (Eq.trans t e)
theorem DvL.mono {W : Wd} {S S' : Addr → Prop} {H H' : Hp} (hS : ∀ a, S a → S' a) (hH : ∀ a, S a → H' a = H a) : ∀ {vs : List V} {ds : List D}, DvL W S H vs ds → DvL W S' H' vs ds
  | _, _, .nil => .nil
  | _, _, .cons t h r => .cons (t.mono hS) (Dv.mono hS hH h (t.mono hH)) (DvL.mono hS hH r)
theorem DvP.mono {W : Wd} {S S' : Addr → Prop} {H H' : Hp} (hS : ∀ a, S a → S' a) (hH : ∀ a, S a → H' a = H a) : ∀ {κ : Type} {vs : List (κ × V)} {ds : List (κ × D)}, DvP W S H vs ds → DvP W S' H' vs ds
  | _, _, _, .nil => .nil
  | _, _, _, .cons t h r => .cons (t.mono hS) (Dv.mono hS hH h (t.mono hH)) (DvP.mono hS hH r)
end
theorem Dz.mono {W : Wd} {S S' : Addr → Prop} {H H' : Hp} (hS : ∀ a, S a → S' a) (hH : ∀ a, S a → H' a = H a) {v : V} {d : D} (h : Dz W S H v d) : Dz W S' H' v d :=
  ⟨h.1.mono hS, h.2.mono hS hH (h.1.mono hH)⟩
end Sx
set_option Elab.async false
set_option linter.all false
set_option maxRecDepth 100000
set_option maxHeartbeats 4000000
set_option autoImplicit false
namespace Sx
open PySem L2

/-- a local name's object: frozen; its own; its own, but locked while a loop walks it -/
inductive Fg where
  | fz | ow | lk
  deriving DecidableEq
abbrev Slot := Option (Fg × D)
abbrev En := List Slot
/-- a result that is on its way: frozen data; a new object that nobody else holds; the object that the local name in slot i owns -/
inductive Op where
  | v (d : D) | fr (d : D) | b (i : Nat)
def Op.fz : Op → Op
  | .fr d => .v d
  | o => o
def frc (en : En) : Op → Option D
  | .v d => some d
  | .fr d => some d
  | .b i => match en[i]? with
    | some (some (_, d)) => some d
    | _ => none
def mkO (r : Bool × D) : Op := if r.1 then .fr r.2 else .v r.2

/-- the draws' two lists -/
def DrawOk (W : Wd) (H : Hp) : Prop := W.da ≠ W.db ∧ ∃ (ns : List Int) (i j k : Int), H W.da = some (.lst [.ref W.db, .int i, .int j, .int k]) ∧ H W.db = some (.lst (ns.map V.int)) ∧ ns ≠ [] ∧ ns.length ≤ 100 ∧ ∀ n ∈ ns, 0 ≤ n

/-- what is neither a table of code objects nor a code object -/
def NX (o : HO) : Prop := (∀ ps, o ≠ .tbl ps) ∧ ∀ c q, o ≠ LamX.CodeO c q
theorem Tabs.upd {T : List (Addr × Str)} {H : Hp} {p : Addr} {o u : HO} (t : LamX.Tabs T H) (h : H p = some o) (n : NX o) : LamX.Tabs T (L2.upd H p u) := fun x hx => by
  obtain ⟨ps, h1, h2, h3⟩ := t x hx
  have ne1 : x.1 ≠ p := fun z => by rw [z, h] at h1; cases h1; exact n.1 _ rfl
  refine ⟨ps, by rw [upd_ne ne1]; exact h1, h2, fun pos cv hc => ?_⟩
  obtain ⟨c, e1, e2⟩ := h3 pos cv hc
  exact ⟨c, e1, by rw [upd_ne fun z => by rw [z, h] at e2; cases e2; exact n.2 _ _ rfl]; exact e2⟩
theorem nx_lst (xs : List V) : NX (.lst xs) := ⟨(fun _ z => by cases z), (fun _ _ z => by unfold LamX.CodeO at z; cases z)⟩
theorem nx_dK (xs : List (Key × V)) : NX (.dK xs) := ⟨(fun _ z => by cases z), (fun _ _ z => by unfold LamX.CodeO at z; cases z)⟩
theorem nx_ins (a b : Addr) (xs : List (Str × V)) : NX (.ins a b xs) := ⟨(fun _ z => by cases z), (fun _ _ z => by unfold LamX.CodeO at z; cases z)⟩
theorem nx_frz (a : Obj) (u : HO) : NX (.frz a u) := ⟨(fun _ z => by cases z), (fun _ _ z => by unfold LamX.CodeO at z; cases z)⟩
theorem nx_own (a : Addr) : NX (.own a) := ⟨(fun _ z => by cases z), (fun _ _ z => by unfold LamX.CodeO at z; cases z)⟩
/-- not the second list of the draws, not a table -/
def NB (W : Wd) (p : Addr) : Prop := p ≠ W.db ∧ ∀ x ∈ W.tb, p ≠ x.1
def NPb (W : Wd) (P : Addr → Prop) : Prop := ¬ P W.db ∧ ∀ x ∈ W.tb, ¬ P x.1
theorem NPb.nb {W : Wd} {P : Addr → Prop} (h : NPb W P) {a : Addr} (p : P a) : NB W a := ⟨fun z => h.1 (z ▸ p), fun x hx z => h.2 x hx (z ▸ p)⟩
theorem NPb.sub {W : Wd} {P Q : Addr → Prop} (h : NPb W P) (k : ∀ a, Q a → P a) : NPb W Q := ⟨fun z => h.1 (k _ z), fun x hx z => h.2 x hx (k _ z)⟩
theorem NPb.add {W : Wd} {P : Addr → Prop} {p : Addr} (h : NPb W P) (n : NB W p) : NPb W (fun a => P a ∨ a = p) := ⟨fun z => z.elim h.1 fun e => n.1 e.symm, fun x hx z => z.elim (h.2 x hx) fun e => n.2 x hx e.symm⟩
/-- an address where nothing stands is none of these -/
theorem NB.of_none {W : Wd} {H : Hp} {p : Addr} (hb : ∃ o, H W.db = some o) (t : LamX.Tabs W.tb H) (h : H p = none) : NB W p :=
  ⟨(fun z => by obtain ⟨o, e⟩ := hb; rw [← z, h] at e; cases e), (fun x hx z => by obtain ⟨ps, h1, _⟩ := t x hx; rw [← z, h] at h1; cases h1)⟩
structure Rel (W : Wd) (S P : Addr → Prop) (en : En) (σ : St) (H : Hp) : Prop where
  sp : ∀ a, S a → P a
  pd : ∀ a, P a → ∃ o, H a = some o
  slot : ∀ (i : Nat) (f : Fg) (d : D), en[i]? = some (some (f, d)) → ∃ v, σ[i]? = some (some v) ∧ Dv W S H v d ∧ (f = .fz → Tin S v d) ∧ (f ≠ .fz → ∃ p o, v = .ref p ∧ ¬ S p ∧ (f = .ow → ¬ P p) ∧ (f = .lk → P p) ∧ p ≠ W.da ∧ NB W p ∧ H p = some o)
  inj : ∀ (i j : Nat) (f g : Fg) (d e : D) (v : V), en[i]? = some (some (f, d)) → en[j]? = some (some (g, e)) → f ≠ .fz → g ≠ .fz → σ[i]? = some (some v) → σ[j]? = some (some v) → i = j
  len : en.length = σ.length
  dr : DrawOk W H
  drP : ¬ P W.da ∧ NPb W P
  tb : LamX.Tabs W.tb H

structure Ext (S P : Addr → Prop) (H : Hp) (S' P' : Addr → Prop) (H' : Hp) : Prop where
  s : ∀ a, S a → S' a
  p : ∀ a, P a → P' a
  h : ∀ a, P a → H' a = H a
  n : ∀ a, S' a → S a ∨ ¬ P a
theorem Ext.refl {S P : Addr → Prop} {H : Hp} : Ext S P H S P H := ⟨fun _ h => h, fun _ h => h, fun _ _ => rfl, fun _ h => .inl h⟩
theorem Ext.trans {S P S1 P1 S2 P2 : Addr → Prop} {H H1 H2 : Hp} (a : Ext S P H S1 P1 H1) (b : Ext S1 P1 H1 S2 P2 H2) : Ext S P H S2 P2 H2 :=
  ⟨fun x h => b.s x (a.s x h), fun x h => b.p x (a.p x h), fun x h => (b.h x (a.p x h)).trans (a.h x h), fun x h => (b.n x h).elim (a.n x) fun q => .inr fun z => q (a.p x z)⟩

/-- p is a free object: protected by nobody, owned by no slot -/
def Free (W : Wd) (P : Addr → Prop) (en : En) (σ : St) (p : Addr) : Prop := ¬ P p ∧ p ≠ W.da ∧ NB W p ∧ ∀ (i : Nat) (f : Fg) (d : D), en[i]? = some (some (f, d)) → f ≠ .fz → σ[i]? ≠ some (some (V.ref p))
def OpOk (W : Wd) (S P : Addr → Prop) (en : En) (σ : St) (H : Hp) (v : V) : Op → Prop
  | .v d => Dz W S H v d
  | .fr d => Dv W S H v d ∧ ∃ p o, v = .ref p ∧ Free W P en σ p ∧ H p = some o
  | .b i => σ[i]? = some (some v)
/-- frozen data, or a name's -/
def Pend (W : Wd) (S : Addr → Prop) (σ : St) (H : Hp) (v : V) : Op → Prop
  | .v d => Dz W S H v d
  | .fr _ => False
  | .b i => σ[i]? = some (some v)

section
variable {W : Wd} {S P S' P' : Addr → Prop} {en : En} {σ : St} {H H' : Hp} {v : V} {d : D} {o : Op}
theorem Rel.top (R : Rel W S P en σ H) (e : Ext S P H S' P' H') (h : Dz W S H v d) : Dz W S' H' v d := h.mono e.s fun a s => e.h a (R.sp a s)
theorem Pend.ext (R : Rel W S P en σ H) (e : Ext S P H S' P' H') (h : Pend W S σ H v o) : Pend W S' σ H' v o := by
  cases o with
  | v d => exact R.top e h
  | fr d => exact h
  | b i => exact h
/-- what a name or data stands for now -/
theorem Pend.now (R : Rel W S P en σ H) (h : Pend W S σ H v o) (q : frc en o = some d) : Dv W S H v d := by
  cases o with
  | v d' => cases q; exact h.2
  | fr d => exact h.elim
  | b i =>
    cases e : en[i]? with
    | none => simp only [frc, e] at q; cases q
    | some s =>
      cases s with
      | none => simp only [frc, e] at q; cases q
      | some fd =>
        obtain ⟨f, d'⟩ := fd
        simp only [frc, e] at q
        cases q
        obtain ⟨v', e', dv, _⟩ := R.slot i f d e
        have h' : σ[i]? = some (some v) := h
        rw [h'] at e'
        cases e'
        exact dv
def add (S : Addr → Prop) (p : Addr) : Addr → Prop := fun a => S a ∨ a = p
/-- a free object is frozen -/
theorem Rel.freeze {p : Addr} {u : HO} (R : Rel W S P en σ H) (hp : Free W P en σ p) (ho : H p = some u) : Ext S P H (add S p) (add P p) H ∧ Rel W (add S p) (add P p) en σ H := by
  refine ⟨⟨fun a h => .inl h, fun a h => .inl h, fun _ _ => rfl, fun a h => h.imp id fun e => by rw [e]; exact hp.1⟩, ?_⟩
  refine ⟨fun a h => h.imp (R.sp a) id, fun a h => h.elim (R.pd a) fun e => ⟨u, by rw [e]; exact ho⟩, fun i f d e => ?_, R.inj, R.len, R.dr, ?_, R.tb⟩
  · obtain ⟨v, hv, dv, t, ow⟩ := R.slot i f d e
    refine ⟨v, hv, dv.mono (fun a h => .inl h) (fun _ _ => rfl) ?_, fun z => (t z).mono fun a h => .inl h, fun z => ?_⟩
    · cases v <;> cases d <;> first | exact trivial | exact rfl
    · obtain ⟨q, o, ev, hs, hq, hl, h1, h2, h3⟩ := ow z
      have ne : q ≠ p := fun eq => by
        subst eq
        exact hp.2.2.2 i f d e z (by rw [hv, ev])
      exact ⟨q, o, ev, fun w => w.elim hs ne, fun y w => w.elim (hq y) ne, fun y => .inl (hl y), h1, h2, h3⟩
  · exact ⟨fun w => w.elim R.drP.1 fun e => hp.2.1 e.symm, R.drP.2.add hp.2.2.1⟩
/-- a result is put to the frozen ones -/
theorem OpOk.settle (R : Rel W S P en σ H) (h : OpOk W S P en σ H v o) : ∃ S' P', Ext S P H S' P' H ∧ Rel W S' P' en σ H ∧ Pend W S' σ H v o.fz := by
  cases o with
  | v d => exact ⟨S, P, .refl, R, h⟩
  | b i => exact ⟨S, P, .refl, R, h⟩
  | fr d =>
    obtain ⟨dv, p, u, rfl, hf, hu⟩ := h
    obtain ⟨e, R'⟩ := R.freeze hf hu
    refine ⟨_, _, e, R', ?_, dv.mono e.s (fun _ _ => rfl) ?_⟩
    · cases d <;> first | exact trivial | exact Or.inr rfl
    · cases d <;> first | exact trivial | exact rfl
end

/-- what a rule's end wants, by data: nothing that stood is changed -/
def PRes (W : Wd) (S : Addr → Prop) (H : Hp) (r : Bool × D) (Q : VK) : Prop := ∀ (v : V) (H' : Hp) (S' : Addr → Prop), (∀ a o, H a = some o → H' a = some o) → (∀ a, S a → S' a) → (∀ a, S' a → S a ∨ H a = none) → (∀ a, S' a → ∃ o, H' a = some o) →
  Dv W S' H' v r.2 → (r.1 = false → Tin S' v r.2) → (r.1 = true → ∃ p o, v = .ref p ∧ H p = none ∧ ¬ S' p ∧ H' p = some o) → Q v H'
def DomS (S : Addr → Prop) (H : Hp) : Prop := ∀ a, S a → ∃ o, H a = some o
theorem Rel.dom {W : Wd} {S P : Addr → Prop} {en : En} {σ : St} {H : Hp} (R : Rel W S P en σ H) : DomS S H := fun a h => R.pd a (R.sp a h)
section
variable {W : Wd} {S P S' P' : Addr → Prop} {en : En} {σ : St} {H H' : Hp} {v : V} {r : Bool × D}
/-- behind a rule that changes nothing -/
theorem Rel.same (R : Rel W S P en σ H) (hH : ∀ a o, H a = some o → H' a = some o) (hS : ∀ a, S a → S' a) (hn : ∀ a, S' a → S a ∨ H a = none) (hd : ∀ a, S' a → ∃ o, H' a = some o) :
    Ext S P H S' (fun a => P a ∨ S' a) H' ∧ Rel W S' (fun a => P a ∨ S' a) en σ H' := by
  have hP : ∀ a, P a → H' a = H a := fun a h => by obtain ⟨o, e⟩ := R.pd a h; rw [e]; exact hH a o e
  refine ⟨⟨hS, fun a h => .inl h, hP, fun a h => (hn a h).imp id fun e z => by obtain ⟨o, q⟩ := R.pd a z; rw [e] at q; cases q⟩, ?_⟩
  refine ⟨fun a h => .inr h, fun a h => h.elim (fun z => by obtain ⟨o, e⟩ := R.pd a z; exact ⟨o, hH a o e⟩) (hd a), fun i f d e => ?_, R.inj, R.len, ?_, ?_, R.tb.ext hH⟩
  · obtain ⟨v, hv, dv, t, ow⟩ := R.slot i f d e
    refine ⟨v, hv, dv.mono hS (fun a h => hP a (R.sp a h)) ?_, fun z => (t z).mono hS, fun z => ?_⟩
    · by_cases hf : f = .fz
      · exact (t hf).mono fun a h => hP a (R.sp a h)
      · obtain ⟨q, o, ev, _, _, _, _, _, h3⟩ := ow hf
        subst ev
        have : H' q = H q := by rw [h3]; exact hH q o h3
        cases d <;> first | exact trivial | exact this
    · obtain ⟨q, o, ev, hs, hq, hl, h1, h2, h3⟩ := ow z
      have ns : ¬ S' q := fun w => (hn q w).elim hs fun e => by rw [h3] at e; cases e
      exact ⟨q, o, ev, ns, fun y w => w.elim (hq y) ns, fun y => .inl (hl y), h1, h2, hH q o h3⟩
  · obtain ⟨ne, ns, i, j, k, h1, h2, h3⟩ := R.dr
    exact ⟨ne, ns, i, j, k, hH _ _ h1, hH _ _ h2, h3⟩
  · obtain ⟨ne, ns, i, j, k, h1, h2, h3⟩ := R.dr
    refine ⟨fun w => w.elim R.drP.1 fun w => (hn _ w).elim (fun s => R.drP.1 (R.sp _ s)) fun e => ?_, fun w => w.elim R.drP.2.1 fun w => (hn _ w).elim (fun s => R.drP.2.1 (R.sp _ s)) fun e => ?_, fun x hx w => w.elim (R.drP.2.2 x hx) fun w => (hn _ w).elim (fun s => R.drP.2.2 x hx (R.sp _ s)) fun e => ?_⟩
    · rw [h1] at e; cases e
    · rw [h2] at e; cases e
    · obtain ⟨ps, h1, _⟩ := R.tb x hx
      rw [h1] at e; cases e
/-- a rule's end, for a result that is on its way -/
theorem Rel.res {Q : VK} (R : Rel W S P en σ H) (h : ∀ v H' S' P', Ext S P H S' P' H' → Rel W S' P' en σ H' → OpOk W S' P' en σ H' v (mkO r) → Q v H') : PRes W S H r Q := by
  intro v H' S' hH hS hn hd dv t ow
  obtain ⟨e, R'⟩ := R.same hH hS hn hd
  refine h v H' _ _ e R' ?_
  obtain ⟨f, d⟩ := r
  cases f with
  | false => exact ⟨t rfl, dv⟩
  | true =>
    obtain ⟨p, o, ev, hp, hs, hu⟩ := ow rfl
    subst ev
    refine ⟨dv, p, o, rfl, ⟨fun w => w.elim (fun z => by obtain ⟨o', q⟩ := R.pd p z; rw [hp] at q; cases q) hs, ?_, ?_, fun i f' d' e' nf q => ?_⟩, hu⟩
    · obtain ⟨ne, ns, i, j, k, h1, h2, h3⟩ := R.dr
      rintro rfl; rw [hp] at h1; cases h1
    · obtain ⟨ne, ns, i, j, k, h1, h2, h3⟩ := R.dr
      exact NB.of_none ⟨_, h2⟩ R.tb hp
    · obtain ⟨v', hv', _, _, ow'⟩ := R.slot i f' d' e'
      obtain ⟨q', o', ev, _, _, _, _, _, h3⟩ := ow' nf
      rw [hv'] at q
      cases q
      cases ev
      rw [hp] at h3; cases h3
end

/-! ### runs -/
abbrev Run := En → T (Op × En)
def ret1 (o : Option (Bool × D)) (en : En) : T (Op × En) := (T.ofOpt o).bind fun r => .ret (mkO r, en)
/-- an expression's reading by a run -/
def TV (W : Wd) (run : Run) : TE := fun σ H Q => ∃ S P en, Rel W S P en σ H ∧ (run en).wp fun r => ∀ v H' S' P', Ext S P H S' P' H' → Rel W S' P' r.2 σ H' → OpOk W S' P' r.2 σ H' v r.1 → Q v H'
theorem pe_weak {X : Cx} {e : Expr} {t t' : TE} (h : PE X e t) (w : ∀ σ H Q, t' σ H Q → t σ H Q) : PE X e t' := ⟨fun pins s σ H Q I q => h.run pins s σ H Q I (w σ H Q q)⟩
theorem pt_weak {X : Cx} {e : Expr} {t t' : TT} (h : PT X e t) (w : ∀ σ H Q, t' σ H Q → t σ H Q) : PT X e t' := ⟨fun pins s σ H Q I q => h.run pins s σ H Q I (w σ H Q q)⟩
section
variable {W : Wd} {σ : St} {H : Hp} {Q : VK} {run run' : Run}
/-- one expression, settled; then what follows -/
theorem TV.use {α : Type} {S P : Addr → Prop} {en : En} {f : Op × En → T α} {Q' : V → Hp → Prop} {R : α → Prop} (hR : Rel W S P en σ H) (h : ((run en).bind f).wp R)
    (k : ∀ (r : Op × En) v H' S' P', Ext S P H S' P' H' → Rel W S' P' r.2 σ H' → Pend W S' σ H' v r.1.fz → (f r).wp R → Q' v H') : TV W run σ H Q' := by
  refine ⟨S, P, en, hR, T.wp_mono ((T.wp_bind _ _ _).mp h) fun r q v H' S' P' e R' ok => ?_⟩
  obtain ⟨S2, P2, e2, R2, pe⟩ := ok.settle R'
  exact k r v H' S2 P2 (e.trans e2) R2 pe q
end
/-- a rule by one value -/
def Pure1 (W : Wd) (r : V → Hp → VK → Prop) (f : D → Option (Bool × D)) : Prop := ∀ S H x d c Q, DomS S H → Dv W S H x d → f d = some c → PRes W S H c Q → r x H Q
def Pure2 (W : Wd) (r : R2) (f : D → D → Option (Bool × D)) : Prop := ∀ S H x y d e c Q, DomS S H → Dv W S H x d → Dv W S H y e → f d e = some c → PRes W S H c Q → r x y H Q
/-- the run of one operand and a function -/
def run1 (ra : Run) (f : D → Option (Bool × D)) : Run := fun en => (ra en).bind fun a => ret1 ((frc a.2 a.1.fz).bind f) a.2
def run2 (ra rb : Run) (f : D → D → Option (Bool × D)) : Run := fun en => (ra en).bind fun a => (rb a.2).bind fun b => ret1 ((frc b.2 a.1.fz).bind fun x => (frc b.2 b.1.fz).bind fun y => f x y) b.2
section
variable {W : Wd} {X : Cx} {ra rb : Run} {a b : Expr} {pos : Pos}
theorem wp_ret1 {o : Option (Bool × D)} {en : En} {R : Op × En → Prop} (h : (ret1 o en).wp R) : ∃ c, o = some c ∧ R (mkO c, en) := by
  obtain ⟨c, e, q⟩ := T.wp_ofOpt ((T.wp_bind _ _ _).mp h)
  exact ⟨c, e, q⟩
theorem tv1 {r : V → Hp → VK → Prop} {f : D → Option (Bool × D)} (hr : Pure1 W r f) {σ : St} {H : Hp} {Q : VK} (h : TV W (run1 ra f) σ H Q) : TV W ra σ H fun x H1 => r x H1 Q := by
  obtain ⟨S, P, en, R, w⟩ := h
  refine TV.use R w fun c v H1 S1 P1 e1 R1 p1 q => ?_
  obtain ⟨z, ez, qz⟩ := wp_ret1 q
  obtain ⟨x, ex, fx⟩ := Option.bind_eq_some_iff.mp ez
  exact hr S1 H1 v x z Q R1.dom (p1.now R1 ex) fx (R1.res fun v' H' S' P' e' R' ok => qz v' H' S' P' (e1.trans e') R' ok)
theorem tv2 {r : R2} {f : D → D → Option (Bool × D)} (hr : Pure2 W r f) {σ : St} {H : Hp} {Q : VK} (h : TV W (run2 ra rb f) σ H Q) : TV W ra σ H fun x H1 => TV W rb σ H1 fun y H2 => r x y H2 Q := by
  obtain ⟨S, P, en, R, w⟩ := h
  refine TV.use R w fun c v H1 S1 P1 e1 R1 p1 q => ?_
  refine TV.use R1 q fun c2 u H2 S2 P2 e2 R2 p2 q2 => ?_
  obtain ⟨z, ez, qz⟩ := wp_ret1 q2
  obtain ⟨x, ex, ez⟩ := Option.bind_eq_some_iff.mp ez
  obtain ⟨y, ey, fx⟩ := Option.bind_eq_some_iff.mp ez
  exact hr S2 H2 v u x y z Q R2.dom ((p1.ext R1 e2).now R2 ex) (p2.now R2 ey) fx (R2.res fun v' H' S' P' e' R' ok => qz v' H' S' P' (e1.trans (e2.trans e')) R' ok)
theorem x_bin {op : Operator} {r : R2} {f : D → D → Option (Bool × D)} (ho : OpR X (binaryOp op) r) (hr : Pure2 W r f) (ha : PE X a (TV W ra)) (hb : PE X b (TV W rb)) : PE X (.BinOp a op b pos) (TV W (run2 ra rb f)) :=
  pe_weak (pe_op ho ha hb) fun _ _ _ h => tv2 hr h
theorem x_cmp {op : CmpOp} {r : R2} {f : D → D → Option (Bool × D)} (ho : OpR X (compareOp op) r) (hr : Pure2 W r f) (ha : PE X a (TV W ra)) (hb : PE X b (TV W rb)) (hm : behindInMarks op b = false) : PE X (.Compare a [op] [b] pos) (TV W (run2 ra rb f)) :=
  pe_weak (pe_cmpR ho ha hb hm) fun _ _ _ h => tv2 hr h
theorem x_un {op : UnaryOp} {r : V → Hp → VK → Prop} {f : D → Option (Bool × D)} (ho : UnR X (unaryOp op) r) (hr : Pure1 W r f) (ha : PE X a (TV W ra)) : PE X (.UnaryOp op a pos) (TV W (run1 ra f)) :=
  pe_weak (pe_un ho ha) fun _ _ _ h => tv1 hr h
end
end Sx
set_option Elab.async false
set_option linter.all false
set_option maxRecDepth 100000
set_option maxHeartbeats 4000000
set_option autoImplicit false
namespace Sx
open PySem L2

section
variable {W : Wd} {S P S' P' : Addr → Prop} {en : En} {σ : St} {H H' : Hp} {v : V} {d : D}
theorem lt_of_get {α : Type} {l : List α} {i : Nat} {x : α} (h : l[i]? = some x) : i < l.length := (List.getElem?_eq_some_iff.mp h).1
theorem set_get {α : Type} {l : List α} {i j : Nat} {x y : α} (h : (l.set i x)[j]? = some y) : (i = j ∧ x = y) ∨ (i ≠ j ∧ l[j]? = some y) := by
  by_cases e : i = j
  · subst e
    by_cases hl : i < l.length
    · rw [List.getElem?_set_self hl] at h; exact .inl ⟨rfl, Option.some.inj h⟩
    · rw [List.getElem?_eq_none (by simpa using hl)] at h; cases h
  · rw [List.getElem?_set_ne e] at h; exact .inr ⟨e, h⟩
/-- a name is forgotten -/
theorem Rel.drop (R : Rel W S P en σ H) (i : Nat) : Rel W S P (en.set i none) σ H := by
  refine ⟨R.sp, R.pd, fun j f e h => ?_, fun j k f g e e' v h1 h2 h3 h4 h5 h6 => ?_, by rw [List.length_set]; exact R.len, R.dr, R.drP, R.tb⟩
  · rcases set_get h with ⟨_, q⟩ | ⟨_, q⟩
    · cases q
    · exact R.slot j f e q
  · rcases set_get h1 with ⟨_, q⟩ | ⟨_, q⟩
    · cases q
    · rcases set_get h2 with ⟨_, q2⟩ | ⟨_, q2⟩
      · cases q2
      · exact R.inj j k f g e e' v q q2 h3 h4 h5 h6
/-- behind it its object is free -/
theorem Rel.free (R : Rel W S P en σ H) {i : Nat} (h : en[i]? = some (some (.ow, d))) : ∃ p o, σ[i]? = some (some (.ref p)) ∧ Dv W S H (.ref p) d ∧ Free W P (en.set i none) σ p ∧ H p = some o := by
  obtain ⟨v, hv, dv, _, ow⟩ := R.slot i .ow d h
  obtain ⟨p, o, rfl, hs, hp, _, h1, h2, h3⟩ := ow (by decide)
  refine ⟨p, o, hv, dv, ⟨hp rfl, h1, h2, fun j f e q nf qv => ?_⟩, h3⟩
  rcases set_get q with ⟨_, q⟩ | ⟨ne, q⟩
  · cases q
  · exact ne (R.inj i j .ow f d e _ h q (by decide) nf hv qv)
/-- frozen data stands in a slot -/
theorem Rel.put (R : Rel W S P en σ H) {i : Nat} (hi : i < en.length) (h : Dz W S H v d) : Rel W S P (en.set i (some (.fz, d))) (σ.set i (some v)) H := by
  refine ⟨R.sp, R.pd, fun j f e q => ?_, fun j k f g e e' u h1 h2 h3 h4 h5 h6 => ?_, by rw [List.length_set, List.length_set]; exact R.len, R.dr, R.drP, R.tb⟩
  · rcases set_get q with ⟨rfl, q2⟩ | ⟨ne, q2⟩
    · cases q2
      exact ⟨v, List.getElem?_set_self (by rw [← R.len]; exact hi), h.2, fun _ => h.1, fun z => absurd rfl z⟩
    · rw [List.getElem?_set_ne ne]; exact R.slot j f e q2
  · rcases set_get h1 with ⟨_, q⟩ | ⟨n1, q⟩
    · cases q; exact absurd rfl h3
    · rcases set_get h2 with ⟨_, q2⟩ | ⟨n2, q2⟩
      · cases q2; exact absurd rfl h4
      · rw [List.getElem?_set_ne n1] at h5
        rw [List.getElem?_set_ne n2] at h6
        exact R.inj j k f g e e' u q q2 h3 h4 h5 h6
/-- a free object stands in a slot: its name owns it -/
theorem Rel.take (R : Rel W S P en σ H) {i : Nat} {p : Addr} {o : HO} (hi : i < en.length) (h : Dv W S H (.ref p) d) (hf : Free W P en σ p) (ho : H p = some o) : Rel W S P (en.set i (some (.ow, d))) (σ.set i (some (.ref p))) H := by
  have at' : ∀ {j : Nat} {x : Option (Option V)}, i ≠ j → (σ.set i (some (.ref p)))[j]? = x → σ[j]? = x := fun ne q => by rw [List.getElem?_set_ne ne] at q; exact q
  have own : (σ.set i (some (.ref p)))[i]? = some (some (.ref p)) := List.getElem?_set_self (by rw [← R.len]; exact hi)
  refine ⟨R.sp, R.pd, fun j f e q => ?_, fun j k f g e e' u h1 h2 h3 h4 h5 h6 => ?_, by rw [List.length_set, List.length_set]; exact R.len, R.dr, R.drP, R.tb⟩
  · rcases set_get q with ⟨rfl, q2⟩ | ⟨ne, q2⟩
    · cases q2
      exact ⟨.ref p, own, h, (fun z => by cases z), fun _ => ⟨p, o, rfl, fun s => hf.1 (R.sp p s), fun _ => hf.1, (fun z => by cases z), hf.2.1, hf.2.2.1, ho⟩⟩
    · rw [List.getElem?_set_ne ne]; exact R.slot j f e q2
  · rcases set_get h1 with ⟨e1, q⟩ | ⟨n1, q⟩
    · rcases set_get h2 with ⟨e2, q2⟩ | ⟨n2, q2⟩
      · exact e1.symm.trans e2
      · subst e1
        rw [own] at h5
        cases h5
        exact absurd (at' n2 h6) (hf.2.2.2 k g e' q2 h4)
    · rcases set_get h2 with ⟨e2, q2⟩ | ⟨n2, q2⟩
      · subst e2
        rw [own] at h6
        cases h6
        exact absurd (at' n1 h5) (hf.2.2.2 j f e q h3)
      · exact R.inj j k f g e e' u q q2 h3 h4 (at' n1 h5) (at' n2 h6)
theorem set_set_same (R : Rel W S P en σ H) (i : Nat) (x : Option V) (h : σ[i]? = some x) : σ.set i x = σ := by
  apply List.ext_getElem?
  intro j
  by_cases e : i = j
  · subst e; rw [List.getElem?_set_self (lt_of_get h), h]
  · rw [List.getElem?_set_ne e]
end

/-! ### names, constants -/
def rVar (i : Nat) : Run := fun en => match en[i]? with
  | some (some (.fz, d)) => .ret (.v d, en)
  | some (some (.ow, d)) => .ret (.v d, (en.set i none).set i (some (.fz, d)))
  | _ => .fail
def rMov (i : Nat) : Run := fun en => match en[i]? with
  | some (some (.fz, d)) => .ret (.v d, en)
  | some (some (.ow, d)) => .ret (.fr d, en.set i none)
  | _ => .fail
def rBor (i : Nat) : Run := fun en => match en[i]? with
  | some (some _) => .ret (.b i, en)
  | _ => .fail
def rC (d : D) : Run := fun en => .ret (.v d, en)
section
variable {W : Wd} {σ : St} {H : Hp} {Q : VK} {X : Cx}
theorem slot_cases (en : En) (i : Nat) : en[i]? = none ∨ en[i]? = some none ∨ ∃ f d, en[i]? = some (some (f, d)) := by
  cases h : en[i]? with
  | none => exact .inl rfl
  | some s =>
    cases s with
    | none => exact .inr (.inl rfl)
    | some p => exact .inr (.inr ⟨p.1, p.2, rfl⟩)
theorem tv_var {i : Nat} (h : TV W (rVar i) σ H Q) : tVar i σ H Q := by
  obtain ⟨S, P, en, R, w⟩ := h
  unfold rVar at w
  rcases slot_cases en i with e | e | ⟨f, d, e⟩
  · rw [e] at w; exact w.elim
  · rw [e] at w; exact w.elim
  · rw [e] at w
    cases f with
    | fz =>
      obtain ⟨v, hv, dv, t, _⟩ := R.slot i .fz d e
      exact ⟨v, hv, w v H S P .refl R ⟨t rfl, dv⟩⟩
    | lk => exact w.elim
    | ow =>
      obtain ⟨p, o, hv, dv, hf, ho⟩ := R.free e
      obtain ⟨ex, R2⟩ := (R.drop i).freeze hf ho
      have dz : Dz W (add S p) H (.ref p) d := by
        refine ⟨?_, dv.mono ex.s (fun _ _ => rfl) ?_⟩
        · cases d <;> first | exact trivial | exact Or.inr rfl
        · cases d <;> first | exact trivial | exact rfl
      have R3 := R2.put (i := i) (by rw [List.length_set]; exact lt_of_get e) dz
      rw [set_set_same R i _ hv] at R3
      exact ⟨.ref p, hv, w _ H _ _ ex R3 dz⟩
theorem tv_mov {i : Nat} (h : TV W (rMov i) σ H Q) : tVar i σ H Q := by
  obtain ⟨S, P, en, R, w⟩ := h
  unfold rMov at w
  rcases slot_cases en i with e | e | ⟨f, d, e⟩
  · rw [e] at w; exact w.elim
  · rw [e] at w; exact w.elim
  · rw [e] at w
    cases f with
    | fz =>
      obtain ⟨v, hv, dv, t, _⟩ := R.slot i .fz d e
      exact ⟨v, hv, w v H S P .refl R ⟨t rfl, dv⟩⟩
    | lk => exact w.elim
    | ow =>
      obtain ⟨p, o, hv, dv, hf, ho⟩ := R.free e
      exact ⟨.ref p, hv, w _ H S P .refl (R.drop i) ⟨dv, p, o, rfl, hf, ho⟩⟩
theorem tv_bor {i : Nat} (h : TV W (rBor i) σ H Q) : tVar i σ H Q := by
  obtain ⟨S, P, en, R, w⟩ := h
  unfold rBor at w
  rcases slot_cases en i with e | e | ⟨f, d, e⟩
  · rw [e] at w; exact w.elim
  · rw [e] at w; exact w.elim
  · rw [e] at w
    obtain ⟨v, hv, _⟩ := R.slot i f d e
    exact ⟨v, hv, w v H S P .refl R hv⟩
theorem tv_c {v : V} {d : D} (hd : ∀ S H, Dz W S H v d) (h : TV W (rC d) σ H Q) : tC v σ H Q := by
  obtain ⟨S, P, en, R, w⟩ := h
  exact w v H S P .refl R (hd S H)
end

/-! ### arguments -/
abbrev Runs := En → T (List Op × En)
def PendL (W : Wd) (S : Addr → Prop) (σ : St) (H : Hp) : List V → List Op → Prop
  | [], [] => True
  | v :: vs, o :: os => Pend W S σ H v o ∧ PendL W S σ H vs os
  | _, _ => False
def TVs (W : Wd) (runs : Runs) : TA := fun σ H Q => ∃ S P en, Rel W S P en σ H ∧ (runs en).wp fun r => ∀ vs H' S' P', Ext S P H S' P' H' → Rel W S' P' r.2 σ H' → PendL W S' σ H' vs r.1 → Q vs H'
def rNil : Runs := fun en => .ret ([], en)
def rCons (ra : Run) (rs : Runs) : Runs := fun en => (ra en).bind fun a => (rs a.2).bind fun b => .ret (a.1.fz :: b.1, b.2)
def frcs (en : En) : List Op → Option (List D)
  | [] => some []
  | o :: os => (frc en o).bind fun d => (frcs en os).bind fun ds => some (d :: ds)
/-- frozen alone -/
def onlyV : List Op → Option (List D)
  | [] => some []
  | .v d :: os => (onlyV os).bind fun ds => some (d :: ds)
  | _ => none
def DvA (W : Wd) (S : Addr → Prop) (H : Hp) : List V → List D → Prop
  | [], [] => True
  | v :: vs, d :: ds => Dv W S H v d ∧ DvA W S H vs ds
  | _, _ => False
section
variable {W : Wd} {S P S' P' : Addr → Prop} {en : En} {σ : St} {H H' : Hp} {X : Cx}
theorem PendL.now (R : Rel W S P en σ H) : ∀ {vs : List V} {os : List Op} {ds : List D}, PendL W S σ H vs os → frcs en os = some ds → DvA W S H vs ds
  | [], [], ds, _, q => by cases q; trivial
  | v :: vs, o :: os, ds, h, q => by
    obtain ⟨d, e1, q⟩ := Option.bind_eq_some_iff.mp q
    obtain ⟨ds', e2, q⟩ := Option.bind_eq_some_iff.mp q
    cases q
    exact ⟨h.1.now R e1, PendL.now R h.2 e2⟩
  | [], _ :: _, _, h, _ => h.elim
  | _ :: _, [], _, h, _ => h.elim
theorem PendL.only : ∀ {vs : List V} {os : List Op} {ds : List D}, PendL W S σ H vs os → onlyV os = some ds → DvL W S H vs ds
  | [], [], ds, _, q => by cases q; exact .nil
  | v :: vs, .v d :: os, ds, h, q => by
    obtain ⟨ds', e2, q⟩ := Option.bind_eq_some_iff.mp q
    cases q
    exact .cons h.1.1 h.1.2 (PendL.only h.2 e2)
  | _ :: _, .fr _ :: _, _, _, q => by cases q
  | _ :: _, .b _ :: _, _, _, q => by cases q
  | [], _ :: _, _, h, _ => h.elim
  | _ :: _, [], _, h, _ => h.elim
theorem TVs.use {α : Type} {runs : Runs} {f : List Op × En → T α} {Q' : List V → Hp → Prop} {R : α → Prop} (hR : Rel W S P en σ H) (h : ((runs en).bind f).wp R)
    (k : ∀ (r : List Op × En) vs H' S' P', Ext S P H S' P' H' → Rel W S' P' r.2 σ H' → PendL W S' σ H' vs r.1 → (f r).wp R → Q' vs H') : TVs W runs σ H Q' :=
  ⟨S, P, en, hR, T.wp_mono ((T.wp_bind _ _ _).mp h) fun r q vs H' S' P' e R' ok => k r vs H' S' P' e R' ok q⟩
theorem tvs_nil {Q : List V → Hp → Prop} (h : TVs W rNil σ H Q) : tNil σ H Q := by
  obtain ⟨S, P, en, R, w⟩ := h
  exact w [] H S P .refl R trivial
theorem PendL.ext (R : Rel W S P en σ H) (e : Ext S P H S' P' H') : ∀ {vs : List V} {os : List Op}, PendL W S σ H vs os → PendL W S' σ H' vs os
  | [], [], _ => trivial
  | v :: vs, o :: os, h => ⟨h.1.ext R e, PendL.ext R e h.2⟩
  | [], _ :: _, h => h.elim
  | _ :: _, [], h => h.elim
theorem tvs_cons {ra : Run} {rs : Runs} {Q : List V → Hp → Prop} (h : TVs W (rCons ra rs) σ H Q) : tCons (TV W ra) (TVs W rs) σ H Q := by
  obtain ⟨S, P, en, R, w⟩ := h
  have w := (T.wp_bind _ _ _).mp w
  refine ⟨S, P, en, R, T.wp_mono w fun a q v H1 S1 P1 e1 R1 ok => ?_⟩
  obtain ⟨S2, P2, e2, R2, pe⟩ := ok.settle R1
  have q := (T.wp_bind _ _ _).mp q
  refine ⟨S2, P2, a.2, R2, T.wp_mono q fun b q vs H3 S3 P3 e3 R3 okl => ?_⟩
  exact q (v :: vs) H3 S3 P3 (e1.trans (e2.trans e3)) R3 ⟨pe.ext R2 e3, okl⟩
theorem pa_weak {es : List Expr} {t t' : TA} (h : PA X es t) (w : ∀ σ H Q, t' σ H Q → t σ H Q) : PA X es t' := ⟨fun pos pins s σ H Q I q => h.run pos pins s σ H Q I (w σ H Q q)⟩
theorem x_nil : PA X [] (TVs W rNil) := pa_weak pa_nil fun _ _ _ h => tvs_nil h
theorem x_cons {e : Expr} {es : List Expr} {ra : Run} {rs : Runs} (ha : PE X e (TV W ra)) (hr : PA X es (TVs W rs)) (hs : starEach (e :: es) X.env = (false, eval e X.env) :: starEach es X.env) : PA X (e :: es) (TVs W (rCons ra rs)) :=
  pa_weak (pa_cons ha hr hs) fun _ _ _ h => tvs_cons h
/-- a rule by values -/
def PureN (W : Wd) (r : List V → Hp → VK → Prop) (f : List D → Option (Bool × D)) : Prop := ∀ S H vs ds c Q, DomS S H → DvA W S H vs ds → f ds = some c → PRes W S H c Q → r vs H Q
def runN (rs : Runs) (f : List D → Option (Bool × D)) : Run := fun en => (rs en).bind fun a => ret1 ((frcs a.2 a.1).bind f) a.2
theorem tvN {r : List V → Hp → VK → Prop} {f : List D → Option (Bool × D)} {rs : Runs} {Q : VK} (hr : PureN W r f) (h : TV W (runN rs f) σ H Q) : TVs W rs σ H fun vs H1 => r vs H1 Q := by
  obtain ⟨S, P, en, R, w⟩ := h
  refine TVs.use R w fun c vs H1 S1 P1 e1 R1 p1 q => ?_
  obtain ⟨z, ez, qz⟩ := wp_ret1 q
  obtain ⟨x, ex, fx⟩ := Option.bind_eq_some_iff.mp ez
  exact hr S1 H1 vs x z Q R1.dom (p1.now R1 ex) fx (R1.res fun v' H' S' P' e' R' ok => qz v' H' S' P' (e1.trans e') R' ok)
/-- displays: a list, a tuple of frozen data -/
def rDisp (c : List D → Option (Bool × D)) (rs : Runs) : Run := fun en => (rs en).bind fun a => ret1 ((onlyV a.1).bind c) a.2
def small (ds : List D) (c : Bool × D) : Option (Bool × D) := if ds.length ≤ 4096 then some c else none
theorem DvL.len {vs : List V} {ds : List D} (h : DvL W S H vs ds) : vs.length = ds.length := by
  induction ds generalizing vs with
  | nil => cases h; rfl
  | cons d ds ih => cases h with | cons _ _ r => simp [ih r]
theorem line4096 {n : Nat} (h : n ≤ 4096) : n ≤ sizeLine := Nat.le_trans h (by rw [sizeLine_eq]; decide)
theorem DvL.upd {S : Addr → Prop} {H : Hp} {p : Addr} {u : HO} {vs : List V} {ds : List D} (hd : DomS S H) (hp : H p = none) (h : DvL W S H vs ds) : DvL W S (upd H p u) vs ds :=
  h.mono (fun _ q => q) fun a s => upd_ne (by rintro rfl; obtain ⟨o, q⟩ := hd a s; rw [hp] at q; cases q)
theorem upd_keeps {H : Hp} {p : Addr} {u : HO} (hp : H p = none) : ∀ a o, H a = some o → upd H p u a = some o := fun a o e => by
  rw [upd_ne (ne_of_none e hp)]; exact e
/-- a new list, a new tuple -/
theorem PRes.lst {xs : List V} {ds : List D} {Q : VK} (hd : DomS S H) (h : DvL W S H xs ds) (r : PRes W S H (true, .lst ds) Q) : ∀ p, H p = none → Q (.ref p) (L2.upd H p (.lst xs)) := fun p hp =>
  r (.ref p) _ S (upd_keeps hp) (fun _ h => h) (fun _ h => .inl h) (fun a h => by obtain ⟨o, q⟩ := hd a h; exact ⟨o, upd_keeps hp a o q⟩) (.lst upd_same (h.upd hd hp)) (fun z => by cases z)
    fun _ => ⟨p, _, rfl, hp, (fun s => by obtain ⟨o, q⟩ := hd p s; rw [hp] at q; cases q), upd_same⟩
theorem PRes.tup {xs : List V} {ds : List D} {Q : VK} (hd : DomS S H) (h : DvL W S H xs ds) (r : PRes W S H (false, .tup ds) Q) : ∀ p, H p = none → Q (.ref p) (L2.upd H p (.tup xs)) := fun p hp =>
  r (.ref p) _ (add S p) (upd_keeps hp) (fun _ h => .inl h) (fun _ h => h.imp id fun e => by rw [e]; exact hp)
    (fun a h => h.elim (fun h => by obtain ⟨o, q⟩ := hd a h; exact ⟨o, upd_keeps hp a o q⟩) fun e => by subst e; exact ⟨_, upd_same⟩) (.tup (.inl ⟨.inr rfl, upd_same⟩) ((h.upd hd hp).mono (fun _ h => .inl h) fun _ _ => rfl)) (fun _ => trivial) fun z => by cases z
theorem x_lst {es : List Expr} {rs : Runs} {pos : Pos} (h : PA X es (TVs W rs)) : PE X (.List es pos) (TV W (rDisp (fun ds => small ds (true, .lst ds)) rs)) := by
  refine pe_weak (pe_lst h) fun σ H Q h => ?_
  obtain ⟨S, P, en, R, w⟩ := h
  refine TVs.use R w fun c vs H1 S1 P1 e1 R1 p1 q => ?_
  obtain ⟨z, ez, qz⟩ := wp_ret1 q
  obtain ⟨x, ex, fx⟩ := Option.bind_eq_some_iff.mp ez
  have dl := p1.only ex
  unfold small at fx
  split at fx
  · rename_i hl
    cases fx
    exact ⟨line4096 (by rw [dl.len]; exact hl), PRes.lst R1.dom dl (R1.res fun v' H' S' P' e' R' ok => qz v' H' S' P' (e1.trans e') R' ok)⟩
  · cases fx
theorem x_tup {es : List Expr} {rs : Runs} {pos : Pos} {k : Nat} (h : PA X es (TVs W rs)) : PE X (.Tuple es k pos) (TV W (rDisp (fun ds => small ds (false, .tup ds)) rs)) := by
  refine pe_weak (pe_tup h) fun σ H Q h => ?_
  obtain ⟨S, P, en, R, w⟩ := h
  refine TVs.use R w fun c vs H1 S1 P1 e1 R1 p1 q => ?_
  obtain ⟨z, ez, qz⟩ := wp_ret1 q
  obtain ⟨x, ex, fx⟩ := Option.bind_eq_some_iff.mp ez
  have dl := p1.only ex
  unfold small at fx
  split at fx
  · rename_i hl
    cases fx
    exact ⟨line4096 (by rw [dl.len]; exact hl), PRes.tup R1.dom dl (R1.res fun v' H' S' P' e' R' ok => qz v' H' S' P' (e1.trans e') R' ok)⟩
  · cases fx
end
end Sx
set_option Elab.async false
set_option linter.all false
set_option maxRecDepth 100000
set_option maxHeartbeats 4000000
set_option autoImplicit false
namespace Sx
open PySem L2

/-! ### tests -/
abbrev RunT := En → T (Bool × En)
def TVT (W : Wd) (run : RunT) : TT := fun σ H Q => ∃ S P en, Rel W S P en σ H ∧ (run en).wp fun r => ∀ H' S' P', Ext S P H S' P' H' → Rel W S' P' r.2 σ H' → Q r.1 H'
def boolOf : Option D → Option Bool
  | some (.bl b) => some b
  | _ => none
def toT (run : Run) : RunT := fun en => (run en).bind fun a => match boolOf (frc a.2 a.1.fz) with
  | some b => .ret (b, a.2)
  | none => .fail
def rAnd (ra rb : Run) : Run := fun en => (toT ra en).bind fun a => if a.1 then rb a.2 else .ret (.v (.bl false), a.2)
def rOr (ra rb : Run) : Run := fun en => (toT ra en).bind fun a => if a.1 then .ret (.v (.bl true), a.2) else rb a.2
def rNot (ra : Run) : Run := fun en => (toT ra en).bind fun a => .ret (.v (.bl (!a.1)), a.2)
def rIf (rc ra rb : Run) : Run := fun en => (toT rc en).bind fun a => if a.1 then ra a.2 else rb a.2
section
variable {W : Wd} {S P S' P' : Addr → Prop} {en : En} {σ : St} {H H' : Hp} {X : Cx} {ra rb rc : Run} {a b c : Expr} {rest : List Expr} {pos : Pos} {Q : VK}
theorem boolOf_some {o : Option D} {b : Bool} (h : boolOf o = some b) : o = some (.bl b) := by
  cases o with
  | none => cases h
  | some d => cases d <;> first | (cases h; rfl) | cases h
theorem dv_bl {v : V} {b : Bool} (h : Dv W S H v (.bl b)) : v = .bl b := by cases h; rfl
/-- a value as a test, then what follows -/
theorem toT_use {α : Type} {f : Bool × En → T α} {R : α → Prop} {Q' : V → Hp → Prop} (hR : Rel W S P en σ H) (h : ((toT ra en).bind f).wp R)
    (k : ∀ (c : Bool) en1 H' S' P', Ext S P H S' P' H' → Rel W S' P' en1 σ H' → (f (c, en1)).wp R → Q' (.bl c) H') : TV W ra σ H Q' := by
  have h := (T.wp_bind _ _ _).mp ((T.wp_bind _ _ _).mp h)
  refine ⟨S, P, en, hR, T.wp_mono h fun r q v H' S' P' e R' ok => ?_⟩
  obtain ⟨S2, P2, e2, R2, pe⟩ := ok.settle R'
  cases hb : boolOf (frc r.2 r.1.fz) with
  | none => rw [hb] at q; exact q.elim
  | some b =>
    rw [hb] at q
    have := pe.now R2 (boolOf_some hb)
    rw [dv_bl this]
    exact k b r.2 H' S2 P2 (e.trans e2) R2 q
theorem tvt_tB {Q : Bool → Hp → Prop} (h : TVT W (toT ra) σ H Q) : tB (TV W ra) σ H Q := by
  obtain ⟨S, P, en, R, w⟩ := h
  rw [← T.bind_ret (toT ra en)] at w
  exact toT_use R w fun c en1 H' S' P' e R' q => ⟨c, rfl, q H' S' P' e R'⟩
theorem tv_and (h : TV W (rAnd ra rb) σ H Q) : tAndV (TV W ra) (TV W rb) σ H Q := by
  obtain ⟨S, P, en, R, w⟩ := h
  refine toT_use R w fun c en1 H' S' P' e R' q => ⟨c, rfl, ?_⟩
  cases c with
  | false => exact q _ H' S' P' e R' ⟨trivial, .bl _⟩
  | true => exact ⟨S', P', en1, R', T.wp_mono q fun r q v H2 S2 P2 e2 R2 ok => q v H2 S2 P2 (e.trans e2) R2 ok⟩
theorem tv_or (h : TV W (rOr ra rb) σ H Q) : tOrV (TV W ra) (TV W rb) σ H Q := by
  obtain ⟨S, P, en, R, w⟩ := h
  refine toT_use R w fun c en1 H' S' P' e R' q => ⟨c, rfl, ?_⟩
  cases c with
  | true => exact q _ H' S' P' e R' ⟨trivial, .bl _⟩
  | false => exact ⟨S', P', en1, R', T.wp_mono q fun r q v H2 S2 P2 e2 R2 ok => q v H2 S2 P2 (e.trans e2) R2 ok⟩
theorem tv_not (h : TV W (rNot ra) σ H Q) : tNotV (TV W ra) σ H Q := by
  obtain ⟨S, P, en, R, w⟩ := h
  exact toT_use R w fun c en1 H' S' P' e R' q => ⟨c, rfl, q _ H' S' P' e R' ⟨trivial, .bl _⟩⟩
theorem toT_ret (b : Bool) (en : En) (f : Bool × En → T (Bool × En)) : ((T.ret (Op.v (.bl b), en) : T (Op × En)).bind fun a => match boolOf (frc a.2 a.1.fz) with | some b => T.ret (b, a.2) | none => .fail) = .ret (b, en) := rfl
/-- tests that are and, or, not -/
theorem tvt_and {Q : Bool → Hp → Prop} {ta tb : TT} (ha : ∀ Q, TVT W (toT ra) σ H Q → ta σ H Q) (hb : ∀ H Q, TVT W (toT rb) σ H Q → tb σ H Q) (h : TVT W (toT (rAnd ra rb)) σ H Q) : tAnd ta tb σ H Q := by
  obtain ⟨S, P, en, R, w⟩ := h
  have w := (T.wp_bind _ _ _).mp ((T.wp_bind _ _ _).mp w)
  refine ha _ ⟨S, P, en, R, T.wp_mono w fun r q H' S' P' e R' => ?_⟩
  obtain ⟨c, en1⟩ := r
  cases c with
  | false => exact q H' S' P' e R'
  | true =>
    refine hb _ _ ⟨S', P', en1, R', ?_⟩
    refine (T.wp_bind _ _ _).mpr (T.wp_mono q fun r q => ?_)
    exact T.wp_mono q fun r q H2 S2 P2 e2 R2 => q H2 S2 P2 (e.trans e2) R2
theorem tvt_or {Q : Bool → Hp → Prop} {ta tb : TT} (ha : ∀ Q, TVT W (toT ra) σ H Q → ta σ H Q) (hb : ∀ H Q, TVT W (toT rb) σ H Q → tb σ H Q) (h : TVT W (toT (rOr ra rb)) σ H Q) : tOr ta tb σ H Q := by
  obtain ⟨S, P, en, R, w⟩ := h
  have w := (T.wp_bind _ _ _).mp ((T.wp_bind _ _ _).mp w)
  refine ha _ ⟨S, P, en, R, T.wp_mono w fun r q H' S' P' e R' => ?_⟩
  obtain ⟨c, en1⟩ := r
  cases c with
  | true => exact q H' S' P' e R'
  | false =>
    refine hb _ _ ⟨S', P', en1, R', ?_⟩
    refine (T.wp_bind _ _ _).mpr (T.wp_mono q fun r q => ?_)
    exact T.wp_mono q fun r q H2 S2 P2 e2 R2 => q H2 S2 P2 (e.trans e2) R2
theorem tvt_not {Q : Bool → Hp → Prop} {ta : TT} (ha : ∀ Q, TVT W (toT ra) σ H Q → ta σ H Q) (h : TVT W (toT (rNot ra)) σ H Q) : tNot ta σ H Q := by
  obtain ⟨S, P, en, R, w⟩ := h
  have w := (T.wp_bind _ _ _).mp ((T.wp_bind _ _ _).mp w)
  exact ha _ ⟨S, P, en, R, T.wp_mono w fun r q H' S' P' e R' => q H' S' P' e R'⟩
theorem tv_if (h : TV W (rIf rc ra rb) σ H Q) : tIf (TVT W (toT rc)) (TV W ra) (TV W rb) σ H Q := by
  obtain ⟨S, P, en, R, w⟩ := h
  have w := (T.wp_bind _ _ _).mp w
  refine ⟨S, P, en, R, T.wp_mono w fun r q H' S' P' e R' => ?_⟩
  obtain ⟨c, en1⟩ := r
  cases c with
  | true => exact ⟨S', P', en1, R', T.wp_mono q fun r q v H2 S2 P2 e2 R2 ok => q v H2 S2 P2 (e.trans e2) R2 ok⟩
  | false => exact ⟨S', P', en1, R', T.wp_mono q fun r q v H2 S2 P2 e2 R2 ok => q v H2 S2 P2 (e.trans e2) R2 ok⟩
theorem x_if (hc : PT X c (TVT W (toT rc))) (ha : PE X a (TV W ra)) (hb : PE X b (TV W rb)) : PE X (.IfExp c a b pos) (TV W (rIf rc ra rb)) := pe_weak (pe_ifExp hc ha hb) fun _ _ _ h => tv_if h
theorem x_not (ha : PE X a (TV W ra)) : PE X (.UnaryOp .Not a pos) (TV W (rNot ra)) := pe_weak (pe_not ha) fun _ _ _ h => tv_not h
theorem x_and (ha : PE X a (TV W ra)) (hb : PE X (.BoolOp .And (b :: rest) pos) (TV W rb)) : PE X (.BoolOp .And (a :: b :: rest) pos) (TV W (rAnd ra rb)) := pe_weak (pe_and ha hb) fun _ _ _ h => tv_and h
theorem x_or (ha : PE X a (TV W ra)) (hb : PE X (.BoolOp .Or (b :: rest) pos) (TV W rb)) : PE X (.BoolOp .Or (a :: b :: rest) pos) (TV W (rOr ra rb)) := pe_weak (pe_or ha hb) fun _ _ _ h => tv_or h
theorem y_val {e : Expr} (h : PE X e (TV W ra)) (he : ∀ whole, isTrue e X.env whole = (do let v ← whole; standAt e.pos; holding [v] (truthy v))) : PT X e (TVT W (toT ra)) := pt_weak (pt_val h he) fun _ _ _ h => tvt_tB h
theorem y_not (ha : PT X a (TVT W (toT ra))) : PT X (.UnaryOp .Not a pos) (TVT W (toT (rNot ra))) := pt_weak (pt_not ha) fun _ _ _ h => tvt_not (fun _ q => q) h
theorem pw_weak {e : Expr} {t t' : TT} (h : PW X e t) (w : ∀ σ H Q, t' σ H Q → t σ H Q) : PW X e t' := ⟨fun whole pins s σ H Q I q => h.run whole pins s σ H Q I (w σ H Q q)⟩
theorem y_and (ha : PT X a (TVT W (toT ra))) (hb : PW X (.BoolOp .And (b :: rest) pos) (TVT W (toT rb))) : PW X (.BoolOp .And (a :: b :: rest) pos) (TVT W (toT (rAnd ra rb))) := pw_weak (pw_and ha hb) fun _ _ _ h => tvt_and (fun _ q => q) (fun _ _ q => q) h
theorem y_or (ha : PT X a (TVT W (toT ra))) (hb : PW X (.BoolOp .Or (b :: rest) pos) (TVT W (toT rb))) : PW X (.BoolOp .Or (a :: b :: rest) pos) (TVT W (toT (rOr ra rb))) := pw_weak (pw_or ha hb) fun _ _ _ h => tvt_or (fun _ q => q) (fun _ _ q => q) h
end

/-! ### statements -/
inductive Fl where
  | nx | rt (c : Bool × D) | bk | ct
abbrev RunS := En → T (Fl × En)
def ROk (W : Wd) (S P : Addr → Prop) (H : Hp) (v : V) (c : Bool × D) : Prop := Dv W S H v c.2 ∧ (c.1 = false → Tin S v c.2) ∧ (c.1 = true → ∃ p o, v = .ref p ∧ ¬ P p ∧ p ≠ W.da ∧ NB W p ∧ H p = some o)
structure RetOk (W : Wd) (S P : Addr → Prop) (H : Hp) : Prop where
  sp : ∀ a, S a → P a
  ds : DomS S H
  dr : DrawOk W H
  dp : ¬ P W.da ∧ NPb W P
  tb : LamX.Tabs W.tb H
def Post (W : Wd) (D : Ends) (S P : Addr → Prop) (H : Hp) (r : Fl × En) : Prop := match r.1 with
  | .nx => ∀ σ' H' S' P', Ext S P H S' P' H' → Rel W S' P' r.2 σ' H' → D.nx σ' H'
  | .bk => ∀ σ' H' S' P', Ext S P H S' P' H' → Rel W S' P' r.2 σ' H' → D.bk σ' H'
  | .ct => ∀ σ' H' S' P', Ext S P H S' P' H' → Rel W S' P' r.2 σ' H' → D.ct σ' H'
  | .rt c => ∀ v H' S' P', Ext S P H S' P' H' → RetOk W S' P' H' → ROk W S' P' H' v c → D.rt v H'
def TVS (W : Wd) (run : RunS) : TS := fun D σ H => ∃ S P en, Rel W S P en σ H ∧ (run en).wp (Post W D S P H)
def sNx : RunS := fun en => .ret (.nx, en)
def sBk : RunS := fun en => .ret (.bk, en)
def sCt : RunS := fun en => .ret (.ct, en)
def sSeq (ra rb : RunS) : RunS := fun en => (ra en).bind fun a => match a.1 with
  | .nx => rb a.2
  | f => .ret (f, a.2)
def putO (i : Nat) (a : Op × En) : Option En := if i < a.2.length then (match a.1 with
  | .v d => some (a.2.set i (some (.fz, d)))
  | .fr d => some (a.2.set i (some (.ow, d)))
  | .b _ => none) else none
def sSet (i : Nat) (ra : Run) : RunS := fun en => (ra en).bind fun a => (T.ofOpt (putO i a)).bind fun e => .ret (.nx, e)
def sDrop (ra : Run) : RunS := fun en => (ra en).bind fun a => .ret (.nx, a.2)
def retO : Op → Option (Bool × D)
  | .v d => some (false, d)
  | .fr d => some (true, d)
  | .b _ => none
def sRet (ra : Run) : RunS := fun en => (ra en).bind fun a => (T.ofOpt (retO a.1)).bind fun c => .ret (.rt c, a.2)
def sRetN : RunS := fun en => .ret (.rt (false, .non), en)
def sIf (rc : RunT) (ra rb : RunS) : RunS := fun en => (rc en).bind fun a => if a.1 then ra a.2 else rb a.2
def sWhile (rc : RunT) (rb : RunS) : Nat → RunS
  | 0 => fun _ => .fail
  | n + 1 => fun en => (rc en).bind fun a => if a.1 then (rb a.2).bind fun r => (match r.1 with
      | .nx => sWhile rc rb n r.2
      | .ct => sWhile rc rb n r.2
      | .bk => .ret (.nx, r.2)
      | .rt c => .ret (.rt c, r.2)) else .ret (.nx, a.2)
section
variable {W : Wd} {S P S' P' : Addr → Prop} {en : En} {σ : St} {H H' : Hp} {X : Cx} {D : Ends} {st : Stmt} {sts : List Stmt} {pos : Pos} {ra : Run} {rs rt : RunS} {e : Expr}
theorem Post.ext {r : Fl × En} (h : Post W D S P H r) (x : Ext S P H S' P' H') : Post W D S' P' H' r := by
  obtain ⟨f, en'⟩ := r
  cases f with
  | nx => exact fun σ' H2 S2 P2 e2 R2 => h σ' H2 S2 P2 (x.trans e2) R2
  | bk => exact fun σ' H2 S2 P2 e2 R2 => h σ' H2 S2 P2 (x.trans e2) R2
  | ct => exact fun σ' H2 S2 P2 e2 R2 => h σ' H2 S2 P2 (x.trans e2) R2
  | rt c => exact fun v H2 S2 P2 e2 o R2 => h v H2 S2 P2 (x.trans e2) o R2
theorem ps_weak {t t' : TS} (h : PS X st t) (w : ∀ D σ H, t' D σ H → t D σ H) : PS X st t' := ⟨fun pins s σ H D I q => h.run pins s σ H D I (w D σ H q)⟩
theorem pss_weak {t t' : TS} (h : PSs X sts t) (w : ∀ D σ H, t' D σ H → t D σ H) : PSs X sts t' := ⟨fun pins s σ H D I q => h.run pins s σ H D I (w D σ H q)⟩
theorem z_nil : PSs X [] (TVS W sNx) := pss_weak pss_nil fun D σ H h => by
  obtain ⟨S, P, en, R, w⟩ := h
  exact w σ H S P .refl R
theorem z_cons (h1 : PS X st (TVS W rs)) (h2 : PSs X sts (TVS W rt)) : PSs X (st :: sts) (TVS W (sSeq rs rt)) := pss_weak (pss_cons h1 h2) fun D σ H h => by
  obtain ⟨S, P, en, R, w⟩ := h
  have w := (T.wp_bind _ _ _).mp w
  refine ⟨S, P, en, R, T.wp_mono w fun r q => ?_⟩
  obtain ⟨f, en1⟩ := r
  cases f with
  | nx => exact fun σ' H' S' P' e R' => ⟨S', P', en1, R', T.wp_mono q fun r q => q.ext e⟩
  | bk => exact q
  | ct => exact q
  | rt c => exact q
theorem z_pass : PS X (.Pass pos) (TVS W sNx) := ps_weak ps_pass fun D σ H h => by
  obtain ⟨S, P, en, R, w⟩ := h
  exact w σ H S P .refl R
theorem z_bk : PS X (.Break pos) (TVS W sBk) := ps_weak ps_break fun D σ H h => by
  obtain ⟨S, P, en, R, w⟩ := h
  exact w σ H S P .refl R
theorem z_ct : PS X (.Continue pos) (TVS W sCt) := ps_weak ps_continue fun D σ H h => by
  obtain ⟨S, P, en, R, w⟩ := h
  exact w σ H S P .refl R
theorem OpOk.put {i : Nat} {v : V} {a : Op × En} {e : En} (R : Rel W S P a.2 σ H) (ok : OpOk W S P a.2 σ H v a.1) (h : putO i a = some e) : Rel W S P e (σ.set i (some v)) H := by
  obtain ⟨o, en⟩ := a
  unfold putO at h
  split at h
  · rename_i hl
    cases o with
    | v d => cases h; exact R.put hl ok
    | fr d =>
      cases h
      obtain ⟨dv, p, u, rfl, hf, hu⟩ := ok
      exact R.take hl dv hf hu
    | b i => cases h
  · cases h
theorem tvs_set {i : Nat} (h : TVS W (sSet i ra) D σ H) : tAsg (TV W ra) (gName i) D σ H := by
  obtain ⟨S, P, en, R, w⟩ := h
  have w := (T.wp_bind _ _ _).mp w
  refine ⟨S, P, en, R, T.wp_mono w fun r q v H' S' P' e R' ok => ?_⟩
  obtain ⟨e', he, q⟩ := T.wp_ofOpt ((T.wp_bind _ _ _).mp q)
  exact q _ H' S' P' e (ok.put R' he)
theorem tvs_drop (h : TVS W (sDrop ra) D σ H) : tDrop (TV W ra) D σ H := by
  obtain ⟨S, P, en, R, w⟩ := h
  have w := (T.wp_bind _ _ _).mp w
  exact ⟨S, P, en, R, T.wp_mono w fun r q v H' S' P' e R' ok => q _ H' S' P' e R'⟩
theorem tvs_ret (h : TVS W (sRet ra) D σ H) : tRet (TV W ra) D σ H := by
  obtain ⟨S, P, en, R, w⟩ := h
  have w := (T.wp_bind _ _ _).mp w
  refine ⟨S, P, en, R, T.wp_mono w fun r q v H' S' P' e R' ok => ?_⟩
  obtain ⟨c, he, q⟩ := T.wp_ofOpt ((T.wp_bind _ _ _).mp q)
  refine q v H' S' P' e ⟨R'.sp, R'.dom, R'.dr, R'.drP, R'.tb⟩ ?_
  obtain ⟨o, en'⟩ := r
  cases o with
  | v d => cases he; exact ⟨ok.2, fun _ => ok.1, fun z => by cases z⟩
  | fr d =>
    cases he
    obtain ⟨dv, p, u, rfl, hf, hu⟩ := ok
    exact ⟨dv, (fun z => by cases z), fun _ => ⟨p, u, rfl, hf.1, hf.2.1, hf.2.2.1, hu⟩⟩
  | b i => cases he
theorem z_ret (h : PE X e (TV W ra)) : PS X (.Return (some e) pos) (TVS W (sRet ra)) := ps_weak (ps_ret h) fun _ _ _ h => tvs_ret h
theorem z_retN : PS X (.Return none pos) (TVS W sRetN) := ps_weak ps_retN fun D σ H h => by
  obtain ⟨S, P, en, R, w⟩ := h
  exact w .non H S P .refl ⟨R.sp, R.dom, R.dr, R.drP, R.tb⟩ ⟨.non, fun _ => trivial, fun z => by cases z⟩
theorem z_if {c : Expr} {a b : List Stmt} {rc : RunT} (hc : PT X c (TVT W rc)) (ha : PSs X a (TVS W rs)) (hb : PSs X b (TVS W rt)) : PS X (.If c a b pos) (TVS W (sIf rc rs rt)) := ps_weak (ps_if hc ha hb) fun D σ H h => by
  obtain ⟨S, P, en, R, w⟩ := h
  have w := (T.wp_bind _ _ _).mp w
  refine ⟨S, P, en, R, T.wp_mono w fun r q H' S' P' e R' => ?_⟩
  obtain ⟨c, en1⟩ := r
  cases c with
  | true => exact ⟨S', P', en1, R', T.wp_mono q fun r q => q.ext e⟩
  | false => exact ⟨S', P', en1, R', T.wp_mono q fun r q => q.ext e⟩
theorem z_while {c : Expr} {a : List Stmt} {rc : RunT} {n : Nat} (hp : PassesOwn (model X.prog X.w) X.A X.env X.xe) (hc : PT X c (TVT W rc)) (ha : PSs X a (TVS W rs)) : PS X (.While c a [] pos) (TVS W (sWhile rc rs n)) := ps_weak (ps_while hp hc ha) fun D σ H h => by
  refine ⟨fun m σ H => ∃ S P en, Rel W S P en σ H ∧ (sWhile rc rs m en).wp (Post W D S P H), ⟨n, h⟩, ?_⟩
  rintro m σ H ⟨S, P, en, R, w⟩
  cases m with
  | zero => exact w.elim
  | succ m =>
    have w := (T.wp_bind _ _ _).mp w
    refine ⟨S, P, en, R, T.wp_mono w fun r q H' S' P' e R' => ?_⟩
    obtain ⟨c, en1⟩ := r
    cases c with
    | false => exact q σ H' S' P' e R'
    | true =>
      have q := (T.wp_bind _ _ _).mp q
      refine ⟨fun σ' H' => ∃ S P en, Rel W S P en σ' H' ∧ (sWhile rc rs m en).wp (Post W D S P H'), fun σ' H' h => ⟨m, Nat.lt_succ_self m, h⟩, S', P', en1, R', T.wp_mono q fun r q => ?_⟩
      obtain ⟨f, en2⟩ := r
      cases f with
      | nx => exact fun σ2 H2 S2 P2 e2 R2 => ⟨S2, P2, en2, R2, T.wp_mono q fun r q => q.ext (e.trans e2)⟩
      | ct => exact fun σ2 H2 S2 P2 e2 R2 => ⟨S2, P2, en2, R2, T.wp_mono q fun r q => q.ext (e.trans e2)⟩
      | bk => exact fun σ2 H2 S2 P2 e2 R2 => q σ2 H2 S2 P2 (e.trans e2) R2
      | rt c => exact fun v H2 S2 P2 e2 o R2 => q v H2 S2 P2 (e.trans e2) o R2
end
end Sx
set_option Elab.async false
set_option linter.all false
set_option maxRecDepth 100000
set_option maxHeartbeats 4000000
set_option autoImplicit false
namespace Sx
open PySem L2

/-! ### targets: a name, or a tuple of names -/
abbrev Tg := D → En → Option En
def GOk (W : Wd) (g : TG) (t : Tg) (is : List Nat) : Prop := ∀ (S P : Addr → Prop) (en en' : En) (v : V) (d : D) (σ : St) (H : Hp) (Q : St → Hp → Prop), Rel W S P en σ H → Dz W S H v d → t d en = some en' →
  (∀ σ', (∀ j, j ∉ is → σ'[j]? = σ[j]?) → σ'.length = σ.length → Rel W S P en' σ' H → Q σ' H) → g v σ H Q
def tgN (i : Nat) : Tg := fun d en => if i < en.length then some (en.set i (some (.fz, d))) else none
abbrev Tgs := List D → En → Option En
def GsOk (W : Wd) (g : TGs) (t : Tgs) (is : List Nat) : Prop := ∀ (S P : Addr → Prop) (en en' : En) (vs : List V) (ds : List D) (σ : St) (H : Hp) (Q : St → Hp → Prop), Rel W S P en σ H → DvL W S H vs ds → t ds en = some en' →
  (∀ σ', (∀ j, j ∉ is → σ'[j]? = σ[j]?) → σ'.length = σ.length → Rel W S P en' σ' H → Q σ' H) → g vs σ H Q
def tgNil : Tgs := fun ds en => match ds with
  | [] => some en
  | _ => none
def tgCons (t : Tg) (u : Tgs) : Tgs := fun ds en => match ds with
  | d :: r => (t d en).bind (u r)
  | [] => none
def tgTup (n : Nat) (u : Tgs) : Tg := fun d en => match d with
  | .tup ds => if ds.length = n then u ds en else none
  | _ => none
section
variable {W : Wd} {S P S' P' : Addr → Prop} {en : En} {σ : St} {H H' : Hp}
theorem g_name {i : Nat} : GOk W (gName i) (tgN i) [i] := by
  intro S P en en' v d σ H Q R dz ht k
  unfold tgN at ht
  split at ht
  · rename_i hl
    cases ht
    exact k _ (fun j hj => List.getElem?_set_ne (by rintro rfl; exact hj (by simp))) (by rw [List.length_set]) (R.put hl dz)
  · cases ht
theorem g_nil : GsOk W gNil tgNil [] := by
  intro S P en en' vs ds σ H Q R dl ht k
  cases ds with
  | nil => cases dl; cases ht; exact ⟨rfl, k σ (fun _ _ => rfl) rfl R⟩
  | cons d ds => cases ht
theorem g_cons {g : TG} {u : TGs} {t : Tg} {r : Tgs} {is js : List Nat} (h : GOk W g t is) (h2 : GsOk W u r js) : GsOk W (gCons g u) (tgCons t r) (is ++ js) := by
  intro S P en en' vs ds σ H Q R dl ht k
  cases ds with
  | nil => cases ht
  | cons d ds =>
    cases dl with
    | cons t1 d1 rl =>
      obtain ⟨e1, h1, ht⟩ := Option.bind_eq_some_iff.mp ht
      refine ⟨_, _, rfl, h S P en e1 _ d σ H _ R ⟨t1, d1⟩ h1 fun σ1 a1 l1 R1 => ?_⟩
      exact h2 S P e1 en' _ ds σ1 H Q R1 rl ht fun σ2 a2 l2 R2 => k σ2 (fun j hj => (a2 j fun z => hj (List.mem_append_right _ z)).trans (a1 j fun z => hj (List.mem_append_left _ z))) (l2.trans l1) R2
theorem g_tup {u : TGs} {r : Tgs} {n : Nat} {is : List Nat} (h : GsOk W u r is) : GOk W (gTup W.K n u) (tgTup n r) is := by
  intro S P en en' v d σ H Q R dz ht k
  cases d with
  | tup ds =>
    unfold tgTup at ht
    simp only at ht
    split at ht
    · rename_i hn
      obtain ⟨_, dv⟩ := dz
      cases dv with
      | tup hs dl =>
        refine ⟨_, _, rfl, ?_, dl.len.trans hn, h S P en en' _ ds σ H Q R dl ht k⟩
        rcases hs with ⟨_, hs⟩ | hs
        · exact SqT.of hs
        · rcases hs with (hs | ⟨_, hs⟩) | hs
          · cases hs
          · cases hs
          · exact .inr hs
    · cases ht
  | _ => cases ht
/-- what may be walked: in every heap that keeps P the i-th turn brings the i-th item -/
structure Walks (W : Wd) (S P : Addr → Prop) (H1 : Hp) (J : It) (ds : List D) : Prop where
  stop : ∀ i H, (∀ a, P a → H a = H1 a) → ds.length ≤ i → J.stop i H
  go : ∀ i H, (∀ a, P a → H a = H1 a) → i < ds.length → J.go i H
  yld : ∀ i H x H', (∀ a, P a → H a = H1 a) → i < ds.length → J.yld i H x H' → ∃ d, ds[i]? = some d ∧ ((H' = H ∧ Dz W S H x d) ∨ ∃ q xs es, x = .ref q ∧ H q = none ∧ H' = upd H q (.tup xs) ∧ d = .tup es ∧ DvL W S H xs es)
theorem Walks.turn {S2 P2 : Addr → Prop} {J : It} {H1 : Hp} {ds : List D} (w : Walks W S P H1 J ds) (R : Rel W S2 P2 en σ H) (hS : ∀ a, S a → S2 a) (hP : ∀ a, P a → P2 a ∧ H a = H1 a) {i : Nat} {x : V} (hi : i < ds.length) (y : J.yld i H x H') :
    ∃ d S3 P3, ds[i]? = some d ∧ Ext S2 P2 H S3 P3 H' ∧ Rel W S3 P3 en σ H' ∧ Dz W S3 H' x d := by
  obtain ⟨d, hd, h⟩ := w.yld i H x H' (fun a h => (hP a h).2) hi y
  rcases h with ⟨rfl, dz⟩ | ⟨q, xs, es, rfl, hq, rfl, rfl, dl⟩
  · exact ⟨d, S2, P2, hd, .refl, R, dz.mono hS fun _ _ => rfl⟩
  · have hd2 := R.dom
    have dl2 : DvL W S2 H xs es := dl.mono hS fun _ _ => rfl
    obtain ⟨e, R'⟩ := R.same (H' := upd H q (.tup xs)) (upd_keeps hq) (S' := add S2 q) (fun a h => .inl h) (fun a h => h.imp id fun e => by rw [e]; exact hq) (fun a h => h.elim (fun h => by obtain ⟨o, z⟩ := hd2 a h; exact ⟨o, upd_keeps hq a o z⟩) fun e => by subst e; exact ⟨_, upd_same⟩)
    exact ⟨_, _, _, hd, e, R', trivial, .tup (.inl ⟨.inr rfl, upd_same⟩) ((dl2.upd hd2 hq).mono (fun _ h => .inl h) fun _ _ => rfl)⟩
end

/-! ### for -/
abbrev RunI := En → T (List D × En)
/-- the walk's end: the name that was locked is its own again -/
def unl (l : Option Nat) (en : En) : En := match l with
  | none => en
  | some i => match en[i]? with
    | some (some (.lk, d)) => en.set i (some (.ow, d))
    | _ => en
def TVI (W : Wd) (run : RunI) (l : Option Nat) : TI := fun σ H R => ∃ S P en, Rel W S P en σ H ∧ (run en).wp fun r => ∀ J H' S' P' Pw, Ext S P H S' P' H' → Rel W S' Pw r.2 σ H' → (∀ a, P' a → Pw a) →
  (∀ S2 P2 en2 σ2 H2, (l = none ∨ σ2 = σ) → Ext S' Pw H' S2 P2 H2 → Rel W S2 P2 en2 σ2 H2 → ∃ P3, (∀ a, P3 a → P2 a) ∧ Ext S' P' H' S2 P3 H2 ∧ Rel W S2 P3 (unl l en2) σ2 H2) → (l = none → Pw = P') → Walks W S' Pw H' J r.1 → R J H'
def sForL (l : Option Nat) (t : Tg) (rb : RunS) : List D → RunS
  | [] => fun en => .ret (.nx, unl l en)
  | d :: ds => fun en => (T.ofOpt (t d en)).bind fun en => (rb en).bind fun r => (match r.1 with
      | .nx => sForL l t rb ds r.2
      | .ct => sForL l t rb ds r.2
      | .bk => .ret (.nx, unl l r.2)
      | .rt c => .ret (.rt c, r.2))
def sFor (ri : RunI) (l : Option Nat) (t : Tg) (rb : RunS) : RunS := fun en => (ri en).bind fun a => sForL l t rb a.1 a.2
section
variable {W : Wd} {X : Cx} {pos : Pos} {rs : RunS} {ri : RunI} {l : Option Nat} {g : TG} {t : Tg} {is : List Nat}
theorem ROk.less {S P P3 : Addr → Prop} {H : Hp} {v : V} {c : Bool × D} (h : ROk W S P H v c) (hp : ∀ a, P3 a → P a) : ROk W S P3 H v c :=
  ⟨h.1, h.2.1, fun z => by obtain ⟨p, o, e, n, r⟩ := h.2.2 z; exact ⟨p, o, e, fun w => n (hp p w), r⟩⟩
theorem z_for {tg iter : Expr} {a : List Stmt} (hp : PassesOwn (model X.prog X.w) X.A X.env X.xe) (hc : X.calm = true) (hi : PI X tg iter (TVI W ri none)) (hg : PG X tg g) (gk : GOk W g t is) (hb : PSs X a (TVS W rs)) (hs : ∀ x, foldedSetIterable iter X.env x = pure x) :
    PS X (.For tg iter a [] pos) (TVS W (sFor ri none t rs)) := ps_weak (ps_for hp hc hi hg hb (hs := hs)) fun D σ H h => by
  obtain ⟨S, P, en, R, w⟩ := h
  have w := (T.wp_bind _ _ _).mp w
  refine ⟨S, P, en, R, T.wp_mono w fun r q J H1 S1 P1 Pw e1 R1 hPw hun hrt wk => ?_⟩
  obtain rfl := hrt rfl
  have q := q
  refine ⟨fun i m σ2 H2 => i ≤ r.1.length ∧ m = r.1.length - i ∧ ∃ S2 P2 en2, Ext S1 Pw H1 S2 P2 H2 ∧ Rel W S2 P2 en2 σ2 H2 ∧ (sForL none t rs (r.1.drop i) en2).wp (Post W D S P H), ⟨_, Nat.zero_le _, rfl, S1, Pw, r.2, .refl, R1, q⟩, ?_⟩
  rintro i m σ2 H2 ⟨hi, rfl, S2, P2, en2, e2, R2, w2⟩
  by_cases hlt : i < r.1.length
  · refine .inr ⟨wk.go i H2 (fun a h => e2.h a h) hlt, fun σ3 H3 => ∃ S3 P3 en3, Ext S1 Pw H1 S3 P3 H3 ∧ Rel W S3 P3 en3 σ3 H3 ∧ (sForL none t rs (r.1.drop (i + 1)) en3).wp (Post W D S P H), fun σ3 H3 z => ⟨r.1.length - (i + 1), by omega, hlt, rfl, z⟩, fun x H3 y => ?_⟩
    obtain ⟨d, S3, P3, hd, e3, R3, dz⟩ := wk.turn R2 e2.s (fun a h => ⟨e2.p a h, e2.h a h⟩) hlt y
    have hdrop : r.1.drop i = d :: r.1.drop (i + 1) := by
      rw [List.drop_eq_getElem_cons hlt]
      congr 1
      have := List.getElem?_eq_getElem hlt
      rw [hd] at this
      exact (Option.some.inj this).symm
    rw [hdrop] at w2
    obtain ⟨en3, ht, w3⟩ := T.wp_ofOpt ((T.wp_bind _ _ _).mp w2)
    refine gk S3 P3 en2 en3 x d σ2 H3 _ R3 dz ht fun σ3 _ _ R4 => ?_
    have w3 := (T.wp_bind _ _ _).mp w3
    have e13 := e2.trans e3
    refine ⟨S3, P3, en3, R4, T.wp_mono w3 fun r4 q4 => ?_⟩
    obtain ⟨f, en4⟩ := r4
    cases f with
    | nx => exact fun σ5 H5 S5 P5 e5 R5 => ⟨S5, P5, en4, e13.trans e5, R5, q4⟩
    | ct => exact fun σ5 H5 S5 P5 e5 R5 => ⟨S5, P5, en4, e13.trans e5, R5, q4⟩
    | bk =>
      intro σ5 H5 S5 P5 e5 R5
      obtain ⟨P6, _, e6, R6⟩ := hun S5 P5 en4 σ5 H5 (.inl rfl) (e13.trans e5) R5
      exact q4 σ5 H5 S5 P6 (e1.trans e6) R6
    | rt c =>
      intro v H5 S5 P5 e5 o5 ok
      exact q4 v H5 S5 P5 (e1.trans (e13.trans e5)) o5 ok
  · have ei : i = r.1.length := by omega
    subst ei
    rw [List.drop_length] at w2
    obtain ⟨P3, _, e3, R3⟩ := hun S2 P2 en2 σ2 H2 (.inl rfl) e2 R2
    exact .inl ⟨wk.stop _ H2 (fun a h => e2.h a h) (Nat.le_refl _), w2 σ2 H2 S2 P3 (e1.trans e3) R3⟩

end
/-! ### what is locked stays so: no run locks a name -/
namespace T
variable {α β : Type}
def all : T α → (α → Prop) → Prop
  | .ret a, Q => Q a
  | .fail, _ => True
  | .ch n k, Q => ∀ i, i < n → (k i).all Q
theorem all_bind {t : T α} {f : α → T β} {Q : β → Prop} (h : t.all fun a => (f a).all Q) : (t.bind f).all Q := by
  induction t with
  | ret a => exact h
  | fail => trivial
  | ch n k ih => exact fun i hi => ih i (h i hi)
theorem all_mono {t : T α} {Q R : α → Prop} (h : t.all Q) (m : ∀ a, Q a → R a) : t.all R := by
  induction t with
  | ret a => exact m a h
  | fail => trivial
  | ch n k ih => exact fun i hi => ih i (h i hi)
theorem all_triv {t : T α} {Q : α → Prop} (m : ∀ a, Q a) : t.all Q := by
  induction t with
  | ret a => exact m a
  | fail => trivial
  | ch n k ih => exact fun i hi => ih i
theorem wp_all {t : T α} {Q R : α → Prop} (h : t.wp Q) (g : t.all R) : t.wp fun a => Q a ∧ R a := by
  induction t with
  | ret a => exact ⟨h, g⟩
  | fail => exact h
  | ch n k ih => exact fun i hi => ih i (h i hi) (g i hi)
theorem all_ofOpt {o : Option α} {Q : α → Prop} (h : ∀ a, o = some a → Q a) : (ofOpt o).all Q := by
  cases o with
  | none => trivial
  | some a => exact h a rfl
end T
def LkSub (en' en : En) : Prop := ∀ (i : Nat) (d : D), en'[i]? = some (some (.lk, d)) → ∃ d', en[i]? = some (some (.lk, d'))
theorem LkSub.refl (en : En) : LkSub en en := fun _ d h => ⟨d, h⟩
theorem LkSub.trans {a b c : En} (h : LkSub a b) (g : LkSub b c) : LkSub a c := fun i d e => by obtain ⟨d', e'⟩ := h i d e; exact g i d' e'
theorem LkSub.set {en : En} {i : Nat} {s : Slot} (h : ∀ d, s ≠ some (.lk, d)) : LkSub (en.set i s) en := fun j d e => by
  rcases set_get e with ⟨_, q⟩ | ⟨_, q⟩
  · exact absurd q (h d)
  · exact ⟨d, q⟩
def ShR (r : Run) : Prop := ∀ en, (r en).all fun a => LkSub a.2 en
def ShT (r : RunT) : Prop := ∀ en, (r en).all fun a => LkSub a.2 en

/-! ### list comprehensions -/
def wip (en : En) : List Nat → En
  | [] => en
  | v :: vs => (wip en vs).set v none
def back (en en0 : En) : List Nat → En
  | [] => en
  | v :: vs => (back en en0 vs).set v (match en0[v]? with
    | some (some (.fz, d)) => some (.fz, d)
    | _ => none)
def valO : Op → Option D
  | .v d => some d
  | .fr d => some d
  | .b _ => none
def rLcL (t : Tg) (rt : RunT) (re : Run) (vs : List Nat) : List D → En → List D → T (List D × En)
  | [], en, acc => .ret (acc, en)
  | d :: ds, en, acc => (T.ofOpt (t d en)).bind fun en1 => (rt en1).bind fun b => if b.1 then (re b.2).bind fun o => (T.ofOpt (valO o.1)).bind fun y => rLcL t rt re vs ds (wip o.2 vs) (acc ++ [y]) else rLcL t rt re vs ds (wip b.2 vs) acc
def rLc (ri : RunI) (l : Option Nat) (t : Tg) (rt : RunT) (re : Run) (vs : List Nat) : Run := fun en => (ri en).bind fun a => if a.1.length ≤ 4096 then (rLcL t rt re vs a.1 (wip a.2 vs) []).bind fun r => .ret (.fr (.lst r.1), unl l (back r.2 a.2 vs)) else .fail
section
variable {W : Wd} {S P S' P' : Addr → Prop} {en en0 : En} {σ σ2 : St} {H H' : Hp}
theorem wipe_at {σ : St} {j : Nat} : ∀ {vs : List Nat}, j ∉ vs → (wipe σ vs)[j]? = σ[j]?
  | [], _ => rfl
  | v :: vs, h => by
    show ((wipe σ vs).set v none)[j]? = _
    rw [List.getElem?_set_ne (by rintro rfl; exact h List.mem_cons_self)]
    exact wipe_at fun z => h (List.mem_cons_of_mem _ z)
theorem wip_len {en : En} : ∀ (vs : List Nat), (wip en vs).length = en.length
  | [] => rfl
  | v :: vs => by show ((wip en vs).set v none).length = _; rw [List.length_set, wip_len vs]
theorem wip_get {en : En} {i : Nat} {f : Fg} {d : D} : ∀ {vs : List Nat}, (wip en vs)[i]? = some (some (f, d)) → i ∉ vs ∧ en[i]? = some (some (f, d))
  | [], h => ⟨by simp, h⟩
  | v :: vs, h => by
    have h : ((wip en vs).set v none)[i]? = some (some (f, d)) := h
    rcases set_get h with ⟨_, q⟩ | ⟨ne, q⟩
    · cases q
    · obtain ⟨a, b⟩ := wip_get q
      exact ⟨by simp only [List.mem_cons, not_or]; exact ⟨fun e => ne e.symm, a⟩, b⟩
theorem back_len {en en0 : En} : ∀ (vs : List Nat), (back en en0 vs).length = en.length
  | [] => rfl
  | v :: vs => by show ((back en en0 vs).set v _).length = _; rw [List.length_set, back_len vs]
theorem back_get {en en0 : En} {i : Nat} {f : Fg} {d : D} : ∀ {vs : List Nat}, (back en en0 vs)[i]? = some (some (f, d)) → (i ∈ vs ∧ f = .fz ∧ en0[i]? = some (some (f, d))) ∨ (i ∉ vs ∧ en[i]? = some (some (f, d)))
  | [], h => .inr ⟨by simp, h⟩
  | v :: vs, h => by
    have h : ((back en en0 vs).set v (match en0[v]? with
      | some (some (.fz, d)) => some (.fz, d)
      | _ => none))[i]? = some (some (f, d)) := h
    rcases set_get h with ⟨rfl, q⟩ | ⟨ne, q⟩
    · split at q
      · rename_i d' e
        cases q
        exact .inl ⟨List.mem_cons_self, rfl, e⟩
      · cases q
    · rcases back_get q with ⟨a, b⟩ | ⟨a, b⟩
      · exact .inl ⟨List.mem_cons_of_mem _ a, b⟩
      · exact .inr ⟨by simp only [List.mem_cons, not_or]; exact ⟨fun e => ne e.symm, a⟩, b⟩
theorem wipe_eq {σ σ2 : St} {vs is : List Nat} (his : ∀ i ∈ is, i ∈ vs) (h : ∀ j, j ∉ is → σ2[j]? = (wipe σ vs)[j]?) (hl : σ2.length = (wipe σ vs).length) : wipe σ2 vs = wipe σ vs := by
  have wn : ∀ (τ : St) (j : Nat) (us : List Nat), j ∈ us → j < τ.length → (wipe τ us)[j]? = some none := by
    intro τ j us
    induction us with
    | nil => intro h; simp at h
    | cons u us ih =>
      intro h hlt
      show ((wipe τ us).set u none)[j]? = some none
      by_cases e : u = j
      · subst e; rw [List.getElem?_set_self (by rw [wipe_length]; exact hlt)]
      · rw [List.getElem?_set_ne e]
        exact ih ((List.mem_cons.mp h).resolve_left fun z => e z.symm) hlt
  apply List.ext_getElem?
  intro j
  by_cases hj : j ∈ vs
  · by_cases hlt : j < σ.length
    · rw [wn σ2 j vs hj (by rw [hl, wipe_length]; exact hlt), wn σ j vs hj hlt]
    · rw [List.getElem?_eq_none (by rw [wipe_length, hl, wipe_length]; omega), List.getElem?_eq_none (by rw [wipe_length]; omega)]
  · rw [wipe_at hj]
    exact h j fun z => hj (his j z)
/-- the comprehension's names are forgotten -/
theorem Rel.wipe (R : Rel W S P en σ2 H) {vs is : List Nat} (his : ∀ i ∈ is, i ∈ vs) (h : ∀ j, j ∉ is → σ2[j]? = (L2.wipe σ vs)[j]?) (hl : σ2.length = σ.length) : Rel W S P (wip en vs) (L2.wipe σ vs) H := by
  refine ⟨R.sp, R.pd, fun i f d e => ?_, fun i j f g d e v h1 h2 h3 h4 h5 h6 => ?_, by rw [wip_len, wipe_length, ← hl]; exact R.len, R.dr, R.drP, R.tb⟩
  · obtain ⟨hi, e⟩ := wip_get e
    rw [← h i fun z => hi (his i z)]
    exact R.slot i f d e
  · obtain ⟨hi, e1⟩ := wip_get h1
    obtain ⟨hj, e2⟩ := wip_get h2
    rw [← h i fun z => hi (his i z)] at h5
    rw [← h j fun z => hj (his j z)] at h6
    exact R.inj i j f g d e v e1 e2 h3 h4 h5 h6
theorem Rel.wipe0 (R : Rel W S P en σ H) (vs : List Nat) : Rel W S P (wip en vs) (L2.wipe σ vs) H := by
  refine ⟨R.sp, R.pd, fun i f d e => ?_, fun i j f g d e v h1 h2 h3 h4 h5 h6 => ?_, by rw [wip_len, wipe_length]; exact R.len, R.dr, R.drP, R.tb⟩
  · obtain ⟨hi, e⟩ := wip_get e
    rw [wipe_at hi]
    exact R.slot i f d e
  · obtain ⟨hi, e1⟩ := wip_get h1
    obtain ⟨hj, e2⟩ := wip_get h2
    rw [wipe_at hi] at h5
    rw [wipe_at hj] at h6
    exact R.inj i j f g d e v e1 e2 h3 h4 h5 h6
/-- an object that no name holds is guarded -/
theorem Rel.guard {p : Addr} {u : HO} (R : Rel W S P en σ H) (hp : Free W P en σ p) (ho : H p = some u) : Rel W S (add P p) en σ H := by
  refine ⟨fun a h => .inl (R.sp a h), fun a h => h.elim (R.pd a) fun e => ⟨u, by rw [e]; exact ho⟩, fun i f d e => ?_, R.inj, R.len, R.dr, ⟨fun w => w.elim R.drP.1 fun e => hp.2.1 e.symm, R.drP.2.add hp.2.2.1⟩, R.tb⟩
  obtain ⟨v, hv, dv, t, ow⟩ := R.slot i f d e
  refine ⟨v, hv, dv, t, fun z => ?_⟩
  obtain ⟨q, o, ev, hs, hq, hl, h1, h2, h3⟩ := ow z
  have ne : q ≠ p := fun eq => by
    subst eq
    exact hp.2.2.2 i f d e z (by rw [hv, ev])
  exact ⟨q, o, ev, hs, fun y w => w.elim (hq y) ne, fun y => .inl (hl y), h1, h2, h3⟩
/-- a guarded object is changed, and let go -/
theorem Rel.turn {p : Addr} {u : HO} (R : Rel W S P en σ H) (hp : P p) (hs : ¬ S p) (hlk : ∀ (i : Nat) (d : D), en[i]? = some (some (.lk, d)) → σ[i]? ≠ some (some (.ref p))) (tb : LamX.Tabs W.tb (upd H p u)) :
    Rel W S (fun a => P a ∧ a ≠ p) en σ (upd H p u) ∧ Free W (fun a => P a ∧ a ≠ p) en σ p := by
  have neS : ∀ a, S a → a ≠ p := fun a h e => hs (e ▸ h)
  have pda : p ≠ W.da ∧ NB W p := ⟨fun e => R.drP.1 (e ▸ hp), R.drP.2.nb hp⟩
  have nep : ∀ (i : Nat) (f : Fg) (d : D), en[i]? = some (some (f, d)) → f ≠ .fz → σ[i]? ≠ some (some (.ref p)) := by
    intro i f d e nf hv
    cases f with
    | fz => exact nf rfl
    | lk => exact hlk i d e hv
    | ow =>
      obtain ⟨v, hv', _, _, ow⟩ := R.slot i .ow d e
      obtain ⟨q, o, ev, _, hq, _⟩ := ow nf
      rw [hv] at hv'
      cases hv'
      cases ev
      exact hq rfl hp
  refine ⟨⟨fun a h => ⟨R.sp a h, neS a h⟩, fun a h => by rw [upd_ne h.2]; exact R.pd a h.1, fun i f d e => ?_, R.inj, R.len, ?_, ⟨fun w => R.drP.1 w.1, R.drP.2.sub fun _ w => w.1⟩, tb⟩, ⟨fun w => w.2 rfl, pda.1, pda.2, nep⟩⟩
  · obtain ⟨v, hv, dv, t, ow⟩ := R.slot i f d e
    refine ⟨v, hv, dv.mono (fun _ h => h) (fun a h => upd_ne (neS a h)) ?_, t, fun z => ?_⟩
    · by_cases hf : f = .fz
      · exact (t hf).mono fun a h => upd_ne (neS a h)
      · obtain ⟨q, o, ev, _⟩ := ow hf
        subst ev
        have ne : q ≠ p := fun eq => nep i f d e hf (by rw [hv, eq])
        have : upd H p u q = H q := upd_ne ne
        cases d <;> first | exact trivial | exact this
    · obtain ⟨q, o, ev, hs', hq, hl, h1, h2, h3⟩ := ow z
      have ne : q ≠ p := fun eq => nep i f d e z (by rw [hv, ev, eq])
      exact ⟨q, o, ev, hs', fun y w => hq y w.1, fun y => ⟨hl y, ne⟩, h1, h2, by rw [upd_ne ne]; exact h3⟩
  · obtain ⟨ne, ns, i, j, k, h1, h2, h3⟩ := R.dr
    exact ⟨ne, ns, i, j, k, by rw [upd_ne pda.1.symm]; exact h1, by rw [upd_ne pda.2.1.symm]; exact h2, h3⟩
end
end Sx
set_option Elab.async false
set_option linter.all false
set_option maxRecDepth 100000
set_option maxHeartbeats 4000000
set_option autoImplicit false
namespace Sx
open PySem L2
section
variable {W : Wd} {X : Cx} {pos : Pos} {ri : RunI} {l : Option Nat} {g : TG} {t : Tg} {is : List Nat} {rt : RunT} {re : Run}
theorem DvL.snoc {S : Addr → Prop} {H : Hp} {vs : List V} {ds : List D} {v : V} {d : D} (h : DvL W S H vs ds) (z : Dz W S H v d) : DvL W S H (vs ++ [v]) (ds ++ [d]) := by
  induction ds generalizing vs with
  | nil => cases h; exact .cons z.1 z.2 .nil
  | cons e es ih => cases h with | cons t1 d1 r => exact .cons t1 d1 (ih r)
theorem OpOk.valz {S P : Addr → Prop} {en : En} {σ : St} {H : Hp} {v : V} {o : Op} {y : D} (R : Rel W S P en σ H) (h : OpOk W S P en σ H v o) (e : valO o = some y) : ∃ S' P', Ext S P H S' P' H ∧ Rel W S' P' en σ H ∧ Dz W S' H v y := by
  cases o with
  | v d => cases e; exact ⟨S, P, .refl, R, h⟩
  | b i => cases e
  | fr d' =>
    cases e
    exact OpOk.settle (o := .fr _) R h
theorem drop_at {α : Type} {l : List α} {i : Nat} {d : α} (h : l[i]? = some d) : l.drop i = d :: l.drop (i + 1) := by
  have hlt := lt_of_get h
  rw [List.drop_eq_getElem_cons hlt]
  congr 1
  have := List.getElem?_eq_getElem hlt
  rw [h] at this
  exact (Option.some.inj this).symm
theorem unl_nf {l : Option Nat} {en : En} {i : Nat} {f : Fg} {d : D} (h : (unl l en)[i]? = some (some (f, d))) (nf : f ≠ .fz) : ∃ g e, en[i]? = some (some (g, e)) ∧ g ≠ .fz := by
  cases l with
  | none => exact ⟨f, d, h, nf⟩
  | some j =>
    unfold unl at h
    simp only at h
    split at h
    · rename_i d' e
      rcases set_get h with ⟨rfl, q⟩ | ⟨_, q⟩
      · exact ⟨.lk, d', e, by decide⟩
      · exact ⟨f, d, q, nf⟩
    · exact ⟨f, d, h, nf⟩
/-- behind the walk the outer names stand again -/
theorem Rel.back {S1 P1 S P : Addr → Prop} {en1 en : En} {σ : St} {H1 H : Hp} {vs : List Nat} (R1 : Rel W S1 P1 en1 σ H1) (e : Ext S1 P1 H1 S P H) (R : Rel W S P en (L2.wipe σ vs) H) : Rel W S P (Sx.back en en1 vs) σ H := by
  refine ⟨R.sp, R.pd, fun i f d q => ?_, fun i j f g d e' v h1 h2 h3 h4 h5 h6 => ?_, by rw [back_len, R.len, wipe_length], R.dr, R.drP, R.tb⟩
  · rcases back_get q with ⟨hi, rfl, q⟩ | ⟨hi, q⟩
    · obtain ⟨v, hv, dv, tn, _⟩ := R1.slot i .fz d q
      have dz : Dz W S H v d := R1.top e ⟨tn rfl, dv⟩
      exact ⟨v, hv, dz.2, fun _ => dz.1, fun z => absurd rfl z⟩
    · rw [← wipe_at hi]; exact R.slot i f d q
  · rcases back_get h1 with ⟨_, rfl, _⟩ | ⟨hi, q1⟩
    · exact absurd rfl h3
    · rcases back_get h2 with ⟨_, rfl, _⟩ | ⟨hj, q2⟩
      · exact absurd rfl h4
      · rw [← wipe_at hi] at h5
        rw [← wipe_at hj] at h6
        exact R.inj i j f g d e' v q1 q2 h3 h4 h5 h6
/-- a target locks nothing -/
def ShG (t : Tg) (is : List Nat) : Prop := ∀ d en en', t d en = some en' → LkSub en' en ∧ ∀ j ∈ is, ∀ d', en'[j]? ≠ some (some (.lk, d'))
theorem tv_lc {vs : List Nat} (gk : GOk W g t is) (sg : ShG t is) (his : ∀ i ∈ is, i ∈ vs) (ht : ShT rt) (he : ShR re) (hsz : (4096 : Nat) < sizeLine) {σ : St} {H : Hp} {Q : VK} (h : TV W (rLc ri l t rt re vs) σ H Q) :
    tLc (TVI W ri l) g (TVT W rt) (TV W re) vs σ H Q := by
  obtain ⟨S, P, en, R, w⟩ := h
  have w := (T.wp_bind _ _ _).mp w
  refine ⟨S, P, en, R, T.wp_mono w fun r q J H1 S1 P1 Pw e1 R1 hPw hun _ wk => ?_⟩
  intro Da hD
  have q : (if r.1.length ≤ 4096 then (rLcL t rt re vs r.1 (wip r.2 vs) []).bind fun r' => T.ret (Op.fr (.lst r'.1), unl l (back r'.2 r.2 vs)) else T.fail).wp _ := q
  split at q
  case isFalse => exact q.elim
  rename_i hlen
  have q := (T.wp_bind _ _ _).mp q
  have pwd : ∀ a, Pw a → a ≠ Da := fun a h z => by obtain ⟨o, e⟩ := R1.pd a h; rw [z, hD] at e; cases e
  have dd1 : Da ≠ W.da ∧ NB W Da := by
    obtain ⟨ne, ns, i, j, k, h1, h2, h3⟩ := R1.dr
    exact ⟨fun z => (by rw [← z, hD] at h1; cases h1), NB.of_none ⟨_, h2⟩ R1.tb hD⟩
  -- the start
  have e0 : Ext S1 Pw H1 S1 Pw (upd H1 Da (.lst [])) := ⟨fun _ h => h, fun _ h => h, fun a h => upd_ne (pwd a h), fun _ h => .inl h⟩
  have R0 : Rel W S1 Pw (wip r.2 vs) (wipe σ vs) (upd H1 Da (.lst [])) ∧ Free W Pw (wip r.2 vs) (wipe σ vs) Da := by
    obtain ⟨_, R0⟩ := (R1.wipe0 vs).same (upd_keeps (u := .lst []) hD) (fun _ h => h) (fun _ h => .inl h) (fun a h => by obtain ⟨o, e⟩ := R1.dom a h; exact ⟨o, upd_keeps hD a o e⟩)
    have R0' : Rel W S1 Pw (wip r.2 vs) (wipe σ vs) (upd H1 Da (.lst [])) := by
      have eq : (fun a => Pw a ∨ S1 a) = Pw := by funext a; exact propext ⟨fun h => h.elim id (R1.sp a), .inl⟩
      rw [eq] at R0; exact R0
    refine ⟨R0', fun h => pwd Da h rfl, dd1.1, dd1.2, fun i f d e nf hv => ?_⟩
    obtain ⟨v, hv', _, _, ow⟩ := (R1.wipe0 vs).slot i f d e
    obtain ⟨q, o, ev, _, _, _, _, _, h3⟩ := ow nf
    rw [hv'] at hv
    cases hv
    cases ev
    rw [hD] at h3; cases h3
  refine ⟨fun i m H2 => i ≤ r.1.length ∧ m = r.1.length - i ∧ ∃ S2 P2 en2 acc accD, Ext S1 Pw H1 S2 P2 H2 ∧ Rel W S2 P2 en2 (wipe σ vs) H2 ∧ ¬ S2 Da ∧ Free W P2 en2 (wipe σ vs) Da ∧ H2 Da = some (.lst acc) ∧ DvL W S2 H2 acc accD ∧ acc.length ≤ i ∧
    (rLcL t rt re vs (r.1.drop i) en2 accD).wp fun r' => ∀ v H' S' P', Ext S P H S' P' H' → Rel W S' P' (unl l (Sx.back r'.2 r.2 vs)) σ H' → OpOk W S' P' (unl l (Sx.back r'.2 r.2 vs)) σ H' v (.fr (.lst r'.1)) → Q v H',
    ⟨_, Nat.zero_le _, rfl, S1, Pw, wip r.2 vs, [], [], e0, R0.1, fun h => pwd Da (R1.sp Da h) rfl, R0.2, upd_same, .nil, Nat.zero_le _, q⟩, ?_⟩
  rintro i m H2 ⟨hi, rfl, S2, P2, en2, acc, accD, e2, R2, nS, fD, hD2, dl, hacc, w2⟩
  by_cases hlt : i < r.1.length
  case neg =>
    have ei : i = r.1.length := by omega
    subst ei
    rw [List.drop_length] at w2
    refine .inl ⟨wk.stop _ H2 (fun a h => e2.h a h) (Nat.le_refl _), ?_⟩
    obtain ⟨P3, hP3, e3, R3⟩ := hun S2 P2 (Sx.back en2 r.2 vs) σ H2 (.inr rfl) e2 (R1.back e2 R2)
    refine w2 (.ref Da) H2 S2 P3 (e1.trans e3) R3 ⟨.lst hD2 dl, Da, _, rfl, ⟨fun h => fD.1 (hP3 Da h), dd1.1, dd1.2, fun j f d e nf hv => ?_⟩, hD2⟩
    obtain ⟨g', d', e', nf'⟩ := unl_nf e nf
    rcases back_get e' with ⟨_, rfl, _⟩ | ⟨hj, q1⟩
    · exact absurd rfl nf'
    · rw [← wipe_at hj] at hv
      exact fD.2.2.2 j g' d' q1 nf' hv
  refine .inr ⟨wk.go i H2 (fun a h => e2.h a h) hlt, fun H3 => ∃ S2 P2 en2 acc accD, Ext S1 Pw H1 S2 P2 H3 ∧ Rel W S2 P2 en2 (wipe σ vs) H3 ∧ ¬ S2 Da ∧ Free W P2 en2 (wipe σ vs) Da ∧ H3 Da = some (.lst acc) ∧ DvL W S2 H3 acc accD ∧ acc.length ≤ i + 1 ∧
    (rLcL t rt re vs (r.1.drop (i + 1)) en2 accD).wp fun r' => ∀ v H' S' P', Ext S P H S' P' H' → Rel W S' P' (unl l (Sx.back r'.2 r.2 vs)) σ H' → OpOk W S' P' (unl l (Sx.back r'.2 r.2 vs)) σ H' v (.fr (.lst r'.1)) → Q v H',
    fun H3 z => ⟨r.1.length - (i + 1), by omega, hlt, rfl, z⟩, fun x H3 y => ?_⟩
  -- Da guarded through the turn
  have Rg := R2.guard fD hD2
  have eg : Ext S2 P2 H2 S2 (add P2 Da) H2 := ⟨fun _ h => h, fun a h => .inl h, fun _ _ => rfl, fun _ h => .inl h⟩
  obtain ⟨d, S3, P3, hd, e3, R3, dz⟩ := wk.turn Rg (fun a h => e2.s a h) (fun a h => ⟨.inl (e2.p a h), e2.h a h⟩) hlt y
  have nS3 : ¬ S3 Da := fun h => (e3.n Da h).elim nS fun z => z (.inr rfl)
  have hD3 : H3 Da = some (.lst acc) := (e3.h Da (.inr rfl)).trans hD2
  rw [drop_at hd] at w2
  obtain ⟨en3, htg, w3⟩ := T.wp_ofOpt ((T.wp_bind _ _ _).mp w2)
  refine gk S3 P3 en2 en3 x d (wipe σ vs) H3 _ R3 dz htg fun σ3 ha hl R4 => ⟨wipe_eq his ha hl, ?_⟩
  -- no locked name holds Da
  obtain ⟨sg1, sg2⟩ := sg d en2 en3 htg
  have lk3 : ∀ (j : Nat) (d' : D), en3[j]? = some (some (.lk, d')) → σ3[j]? ≠ some (some (.ref Da)) := by
    intro j d' e hv
    by_cases hj : j ∈ is
    · exact sg2 j hj d' e
    · rw [ha j hj] at hv
      obtain ⟨d2, e2'⟩ := sg1 j d' e
      exact fD.2.2.2 j .lk d2 e2' (by decide) hv
  have w3 := (T.wp_bind _ _ _).mp w3
  have w3 := T.wp_all w3 (ht en3)
  have e13 : Ext S1 Pw H1 S3 P3 H3 := (e2.trans eg).trans e3
  refine ⟨S3, P3, en3, R4, T.wp_mono w3 fun b ⟨q4, sb⟩ H4 S4 P4 e4 R5 => ?_⟩
  have nS4 : ¬ S4 Da := fun h => (e4.n Da h).elim nS3 fun z => z (e3.p Da (.inr rfl))
  have pD4 : P4 Da := e4.p Da (e3.p Da (.inr rfl))
  have hD4 : H4 Da = some (.lst acc) := (e4.h Da (e3.p Da (.inr rfl))).trans hD3
  have lk4 : ∀ (j : Nat) (d' : D), b.2[j]? = some (some (.lk, d')) → σ3[j]? ≠ some (some (.ref Da)) := fun j d' e => by
    obtain ⟨d2, e'⟩ := sb j d' e
    exact lk3 j d2 e'
  have dl4 : DvL W S4 H4 acc accD := (dl.mono (fun a h => e3.s a h) fun a h => e3.h a (.inl (R2.sp a h))).mono (fun a h => e4.s a h) fun a h => e4.h a (R3.sp a h)
  have drop0 : ∀ (S5 P5 : Addr → Prop) (H5 : Hp), Ext S1 Pw H1 S5 P5 H5 → ¬ S5 Da → ∀ u, Ext S1 Pw H1 S5 (fun a => P5 a ∧ a ≠ Da) (upd H5 Da u) := fun S5 P5 H5 e nS5 u =>
    ⟨e.s, fun a h => ⟨e.p a h, pwd a h⟩, fun a h => (upd_ne (pwd a h)).trans (e.h a h), e.n⟩
  have same : ∀ (H5 : Hp) (u : HO), H5 Da = some u → upd H5 Da u = H5 := fun H5 u e => by
    funext a
    by_cases h : a = Da
    · subst h; rw [upd_same, e]
    · exact upd_ne h
  obtain ⟨bb, enb⟩ := b
  cases bb with
  | false =>
    obtain ⟨R6, f6⟩ := R5.turn (u := .lst acc) pD4 nS4 lk4 (Tabs.upd R5.tb hD4 (nx_lst _))
    rw [same H4 _ hD4] at R6
    have d0 := drop0 S4 P4 H4 (e13.trans e4) nS4 (.lst acc)
    rw [same H4 _ hD4] at d0
    refine ⟨S4, _, wip enb vs, acc, accD, d0, R6.wipe his ha (by rw [hl, wipe_length]), nS4, ⟨f6.1, dd1.1, dd1.2, fun j f d' e nf hv => ?_⟩, hD4, dl4, Nat.le_succ_of_le hacc, q4⟩
    obtain ⟨hj, e'⟩ := wip_get e
    rw [wipe_at hj] at hv
    rw [← wipe_at hj, ← ha j fun z => hj (his j z)] at hv
    exact f6.2.2.2 j f d' e' nf hv
  | true =>
    have q4 := (T.wp_bind _ _ _).mp q4
    have q4 := T.wp_all q4 (he enb)
    refine ⟨S4, P4, enb, R5, T.wp_mono q4 fun o ⟨q5, so⟩ yv H5 S5 P5 e5 R6 ok => ?_⟩
    obtain ⟨yd, hy, q5⟩ := T.wp_ofOpt ((T.wp_bind _ _ _).mp q5)
    have nS5 : ¬ S5 Da := fun h => (e5.n Da h).elim nS4 fun z => z pD4
    obtain ⟨S6, P6, e6, R7, dz6⟩ := ok.valz R6 hy
    have nS6 : ¬ S6 Da := fun h => (e6.n Da h).elim nS5 fun z => z (e5.p Da pD4)
    have pD6 : P6 Da := e6.p Da (e5.p Da pD4)
    have hD6 : H5 Da = some (.lst acc) := (e5.h Da pD4).trans hD4
    have lk6 : ∀ (j : Nat) (d' : D), o.2[j]? = some (some (.lk, d')) → σ3[j]? ≠ some (some (.ref Da)) := fun j d' e => by
      obtain ⟨d2, e'⟩ := so j d' e
      exact lk4 j d2 e'
    have dl6 : DvL W S6 H5 acc accD := (dl4.mono (fun a h => e5.s a h) fun a h => e5.h a (R5.sp a h)).mono (fun a h => e6.s a h) fun a _ => rfl
    obtain ⟨R8, f8⟩ := R7.turn (u := .lst (acc ++ [yv])) pD6 nS6 lk6 (Tabs.upd R7.tb hD6 (nx_lst _))
    have hup : ∀ a, S6 a → upd H5 Da (.lst (acc ++ [yv])) a = H5 a := fun a h => upd_ne fun z => nS6 (z ▸ h)
    refine ⟨acc, hD6, Nat.lt_of_le_of_lt (Nat.le_trans hacc (Nat.le_trans hi hlen)) hsz, S6, _, wip o.2 vs, acc ++ [yv], accD ++ [yd], drop0 S6 P6 H5 ((e13.trans e4).trans (e5.trans e6)) nS6 _, R8.wipe his ha (by rw [hl, wipe_length]), nS6, ⟨f8.1, dd1.1, dd1.2, fun j f d' e nf hv => ?_⟩, upd_same,
      (dl6.snoc dz6).mono (fun _ h => h) hup, by rw [List.length_append]; simpa using hacc, q5⟩
    obtain ⟨hj, e'⟩ := wip_get e
    rw [← ha j fun z => hj (his j z)] at hv
    exact f8.2.2.2 j f d' e' nf hv
end
end Sx
set_option Elab.async false
set_option linter.all false
set_option maxRecDepth 100000
set_option maxHeartbeats 4000000
set_option autoImplicit false
namespace Sx
open PySem L2

/-! ### what is walked: lists, tuples, texts -/
section
variable {X : Cx} {tg : Expr}
def iAny (K : PySem.W.Frag) (tl : TE) : TI := fun σ H R => tl σ H fun x H1 => (∃ a, x = .ref a ∧ (∃ xs, SqL K H1 a xs) ∧ R (Itl K a) H1) ∨ (∃ a, x = .ref a ∧ (∃ xs, SqT K H1 a xs) ∧ R (Itt K a) H1) ∨ ∃ z, x = .str z ∧ R (Its z) H1
theorem pi_any {l : Expr} {tl : TE} (hl : PE X l tl) : PI X tg l (iAny X.K tl) := by
  refine ⟨fun pins s σ H R I h => thn (hl.run pins s σ H _ I h) fun v s1 ⟨x, H1, I1, r1, q1⟩ => ?_⟩
  rcases q1 with ⟨a, rfl, ⟨xs, hq⟩, q⟩ | ⟨a, rfl, ⟨xs, hq⟩, q⟩ | ⟨z, rfl, q⟩
  · cases r1
    obtain ⟨its, _, p, _⟩ := I1.list hq
    exact wpAny_pyIter_list p.isList (pi_one (tk := s1.toks) I1 _ (turn_list a _) ⟨_, Heap.get?_push_size _ rfl, rfl, rfl⟩ q)
  · cases r1
    obtain ⟨its, _, p, _⟩ := I1.tuple hq
    exact wpAny_pyIter_tuple (show s1.heap.IsTuple a its.toArray from p) (pi_one (tk := s1.toks) I1 _ (turn_tuple a _) ⟨_, Heap.get?_push_size _ rfl, rfl, rfl⟩ q)
  · obtain ⟨t, rfl⟩ := r1
    by_cases ha : z.cps.all (· < 128) = true
    · exact wpAny_pyIter_ascii ha (pi_one (tk := s1.toks) I1 _ (turn_str _ z t _ (.inl rfl)) ⟨_, Heap.get?_push_size _ rfl, rfl, rfl⟩ q)
    · exact wpAny_pyIter_wide (by simpa using ha) (pi_one (tk := s1.toks) I1 _ (turn_str _ z t _ (.inr rfl)) ⟨_, Heap.get?_push_size _ rfl, rfl, rfl⟩ q)
end
def signs (x : Str) : List D := x.cps.toList.map fun c => .str ⟨#[c]⟩
def itemsOf : Option D → Option (List D)
  | some (.lst ds) => some ds
  | some (.tup ds) => some ds
  | some (.str x) => some (signs x)
  | _ => none
def iSeq (ra : Run) : RunI := fun en => (ra en).bind fun a => (T.ofOpt (itemsOf (valO a.1))).bind fun ds => .ret (ds, a.2)
/-- a name's own list, locked while it is walked -/
def iLock (i : Nat) : RunI := fun en => match en[i]? with
  | some (some (.ow, .lst ds)) => .ret (ds, en.set i (some (.lk, .lst ds)))
  | some (some (.fz, .lst ds)) => .ret (ds, en)
  | _ => .fail
section
variable {W : Wd} {S P S' P' : Addr → Prop} {en : En} {σ : St} {H H' H1 : Hp} {X : Cx} {tg e : Expr} {ra : Run}
theorem DvL.at {vs : List V} {ds : List D} {i : Nat} (h : DvL W S H vs ds) : (∀ x, vs[i]? = some x → ∃ d, ds[i]? = some d ∧ Dz W S H x d) ∧ (∀ d, ds[i]? = some d → ∃ x, vs[i]? = some x ∧ Dz W S H x d) := by
  induction ds generalizing vs i with
  | nil => cases h; exact ⟨fun x e => by simp at e, fun x e => by simp at e⟩
  | cons d ds ih =>
    cases h with
    | cons t dv r =>
      cases i with
      | zero => exact ⟨fun x e => by simp at e; subst e; exact ⟨d, by simp, t, dv⟩, fun x e => by simp at e; subst e; exact ⟨_, by simp, t, dv⟩⟩
      | succ i =>
        obtain ⟨a, b⟩ := ih (i := i) r
        exact ⟨fun x e => a x (by simpa using e), fun x e => b x (by simpa using e)⟩
theorem walks_lst {a : Addr} {xs : List V} {ds : List D} (R : Rel W S P en σ H) (ha : P a) (h : H a = some (.lst xs)) (dl : DvL W S H xs ds) : Walks W S P H (Itl W.K a) ds := by
  have at' : ∀ H2, (∀ b, P b → H2 b = H b) → SqL W.K H2 a xs := fun H2 q => SqL.of ((q a ha).trans h)
  refine ⟨fun i H2 q hi => ⟨xs, at' H2 q, by rw [dl.len]; exact hi⟩, fun i H2 q hi => ?_, fun i H2 x H3 q hi y => ?_⟩
  · have hi' : i < xs.length := by rw [dl.len]; exact hi
    exact ⟨xs, xs[i], at' H2 q, List.getElem?_eq_getElem hi'⟩
  · obtain ⟨rfl, y⟩ := y
    obtain ⟨d, hd, dz⟩ := (dl.at (i := i)).1 x (y xs (at' _ q))
    exact ⟨d, hd, .inl ⟨rfl, dz.mono (fun _ h => h) fun b s => q b (R.sp b s)⟩⟩
theorem walks_tup {a : Addr} {xs : List V} {ds : List D} (R : Rel W S P en σ H) (h : (S a ∧ H a = some (.tup xs)) ∨ Wr W a xs) (dl : DvL W S H xs ds) : Walks W S P H (Itt W.K a) ds := by
  have at' : ∀ H2, (∀ b, P b → H2 b = H b) → SqT W.K H2 a xs := fun H2 q => by
    rcases h with ⟨s, h⟩ | (h | ⟨_, h⟩) | h
    · exact SqT.of ((q a (R.sp a s)).trans h)
    · cases h
    · cases h
    · exact .inr h
  refine ⟨fun i H2 q hi => ⟨xs, at' H2 q, by rw [dl.len]; exact hi⟩, fun i H2 q hi => ?_, fun i H2 x H3 q hi y => ?_⟩
  · have hi' : i < xs.length := by rw [dl.len]; exact hi
    exact ⟨xs, xs[i], at' H2 q, List.getElem?_eq_getElem hi'⟩
  · obtain ⟨rfl, y⟩ := y
    obtain ⟨d, hd, dz⟩ := (dl.at (i := i)).1 x (y xs (at' _ q))
    exact ⟨d, hd, .inl ⟨rfl, dz.mono (fun _ h => h) fun b s => q b (R.sp b s)⟩⟩
theorem walks_str {x : Str} : Walks W S P H (Its x) (signs x) := by
  have hl : (signs x).length = x.cps.size := by simp [signs]
  refine ⟨fun i H2 _ hi => by rw [hl] at hi; exact hi, fun i H2 _ hi => by rw [hl] at hi; exact hi, fun i H2 v H3 _ hi y => ?_⟩
  obtain ⟨rfl, c, hc, rfl⟩ := y
  refine ⟨.str ⟨#[c]⟩, ?_, .inl ⟨rfl, trivial, .str _⟩⟩
  unfold signs
  rw [List.getElem?_map, Array.getElem?_toList, hc]
  rfl
theorem x_seq (h : PE X e (TV W ra)) (hK : X.K = W.K) : PI X tg e (TVI W (iSeq ra) none) := by
  refine ⟨fun pins s σ H R I q => (pi_any (tg := tg) h).run pins s σ H R I ?_⟩
  rw [hK]
  obtain ⟨S, P, en, Rl, w⟩ := q
  have w := (T.wp_bind _ _ _).mp w
  refine ⟨S, P, en, Rl, T.wp_mono w fun a q v H1 S1 P1 e1 R1 ok => ?_⟩
  obtain ⟨ds, hds, q⟩ := T.wp_ofOpt ((T.wp_bind _ _ _).mp q)
  cases hv : valO a.1 with
  | none => rw [hv] at hds; cases hds
  | some y =>
    obtain ⟨S2, P2, e2, R2, dz⟩ := ok.valz R1 hv
    rw [hv] at hds
    have fin : ∀ J, Walks W S2 P2 H1 J ds → R J H1 := fun J wk => q J H1 S2 P2 P2 (e1.trans e2) R2 (fun _ h => h) (fun S3 P3 en3 σ3 H3 _ e3 R3 => ⟨P3, fun _ h => h, e3, R3⟩) (fun _ => rfl) wk
    obtain ⟨tn, dv⟩ := dz
    cases dv with
    | lst ha dl => cases hds; exact .inl ⟨_, rfl, ⟨_, SqL.of ha⟩, fin _ (walks_lst R2 (R2.sp _ tn) ha dl)⟩
    | @tup _ xs _ ha dl =>
      cases hds
      refine .inr (.inl ⟨_, rfl, ⟨xs, ?_⟩, fin _ (walks_tup R2 ha dl)⟩)
      rcases ha with ⟨_, h⟩ | (h | ⟨_, h⟩) | h
      · exact SqT.of h
      · cases h
      · cases h
      · exact .inr h
    | str z =>
      obtain rfl : signs z = ds := Option.some.inj hds
      exact .inr (.inr ⟨z, rfl, fin (Its z) walks_str⟩)
    | _ => cases hds
theorem Rel.lock (R : Rel W S P en σ H) {i : Nat} {d : D} {p : Addr} {o : HO} (h : en[i]? = some (some (.ow, d))) (hv : σ[i]? = some (some (V.ref p))) (ho : H p = some o) : Rel W S (add P p) (en.set i (some (.lk, d))) σ H ∧ ¬ P p ∧ ¬ S p := by
  obtain ⟨v, hv', dv, _, ow⟩ := R.slot i .ow d h
  rw [hv] at hv'
  cases hv'
  obtain ⟨q, o', eq, hs, hp, _, h1, h2, h3⟩ := ow (by decide)
  cases eq
  refine ⟨⟨fun a s => .inl (R.sp a s), fun a s => s.elim (R.pd a) fun e => by subst e; exact ⟨o, ho⟩, fun j f e q => ?_, fun j k f g e e' v g1 g2 g3 g4 g5 g6 => ?_, by rw [List.length_set]; exact R.len, R.dr, ⟨fun w => w.elim R.drP.1 fun e => h1 e.symm, R.drP.2.add h2⟩, R.tb⟩, hp rfl, hs⟩
  · rcases set_get q with ⟨rfl, q2⟩ | ⟨ne, q2⟩
    · cases q2
      exact ⟨_, hv, dv, (fun z => by cases z), fun _ => ⟨p, o, rfl, hs, (fun z => by cases z), fun _ => .inr rfl, h1, h2, ho⟩⟩
    · obtain ⟨v, hv2, dv2, t2, ow2⟩ := R.slot j f e q2
      refine ⟨v, hv2, dv2, t2, fun z => ?_⟩
      obtain ⟨q, o2, ev, hs2, hq2, hl2, g1, g2, g3⟩ := ow2 z
      subst ev
      have nq : q ≠ p := fun eq => ne (R.inj i j .ow f d e _ h q2 (by decide) z hv (by rw [hv2, eq]))
      exact ⟨q, o2, rfl, hs2, fun y w => w.elim (hq2 y) nq, fun y => .inl (hl2 y), g1, g2, g3⟩
  · rcases set_get g1 with ⟨rfl, k1⟩ | ⟨n1, k1⟩
    · rcases set_get g2 with ⟨e2, _⟩ | ⟨n2, k2⟩
      · exact e2
      · exact R.inj i k .ow g d e' v h k2 (by decide) g4 g5 g6
    · rcases set_get g2 with ⟨rfl, k2⟩ | ⟨n2, k2⟩
      · exact R.inj j i f .ow e d v k1 h g3 (by decide) g5 g6
      · exact R.inj j k f g e e' v k1 k2 g3 g4 g5 g6
theorem Rel.unlock {p : Addr} (R : Rel W S P en σ H) {i : Nat} (hp : ¬ S p) (hi : ∀ d, en[i]? = some (some (.lk, d)) → σ[i]? = some (some (V.ref p))) (hx : ∀ (j : Nat) (d : D), j ≠ i → en[j]? = some (some (.lk, d)) → σ[j]? ≠ some (some (V.ref p))) :
    Rel W S (fun a => P a ∧ a ≠ p) (unl (some i) en) σ H := by
  have neS : ∀ a, S a → a ≠ p := fun a h e => hp (e ▸ h)
  have base : ∀ (j : Nat) (f : Fg) (d : D), en[j]? = some (some (f, d)) → (f = .lk → j ≠ i) → ∃ v, σ[j]? = some (some v) ∧ Dv W S H v d ∧ (f = .fz → Tin S v d) ∧ (f ≠ .fz → ∃ q o, v = V.ref q ∧ ¬ S q ∧ (f = .ow → ¬ (P q ∧ q ≠ p)) ∧ (f = .lk → P q ∧ q ≠ p) ∧ q ≠ W.da ∧ NB W q ∧ H q = some o) := by
    intro j f d e hj
    obtain ⟨v, hv, dv, t, ow⟩ := R.slot j f d e
    refine ⟨v, hv, dv, t, fun z => ?_⟩
    obtain ⟨q, o, ev, hs, hq, hl, h1, h2, h3⟩ := ow z
    refine ⟨q, o, ev, hs, fun y w => hq y w.1, fun y => ⟨hl y, fun eq => ?_⟩, h1, h2, h3⟩
    subst y
    exact hx j d (hj rfl) e (by rw [hv, ev, eq])
  have go : unl (some i) en = en ∧ (∀ d, en[i]? ≠ some (some (.lk, d))) ∨ ∃ d, en[i]? = some (some (.lk, d)) ∧ unl (some i) en = en.set i (some (.ow, d)) := by
    rcases slot_cases en i with e | e | ⟨f, d, e⟩
    · exact .inl ⟨by simp only [unl, e], fun d q => by rw [e] at q; cases q⟩
    · exact .inl ⟨by simp only [unl, e], fun d q => by rw [e] at q; cases q⟩
    · cases f with
      | lk => exact .inr ⟨d, e, by simp only [unl, e]⟩
      | fz => exact .inl ⟨by simp only [unl, e], fun d q => by rw [e] at q; cases q⟩
      | ow => exact .inl ⟨by simp only [unl, e], fun d q => by rw [e] at q; cases q⟩
  rcases go with ⟨eq, nl⟩ | ⟨d, e, eq⟩
  · rw [eq]
    exact ⟨fun a h => ⟨R.sp a h, neS a h⟩, fun a h => R.pd a h.1, fun j f d e => base j f d e fun z w => by subst z; subst w; exact nl d e, R.inj, R.len, R.dr, ⟨fun w => R.drP.1 w.1, R.drP.2.sub fun _ w => w.1⟩, R.tb⟩
  · rw [eq]
    refine ⟨fun a h => ⟨R.sp a h, neS a h⟩, fun a h => R.pd a h.1, fun j f d2 e2 => ?_, fun j k f g d2 e' v g1 g2 g3 g4 g5 g6 => ?_, by rw [List.length_set]; exact R.len, R.dr, ⟨fun w => R.drP.1 w.1, R.drP.2.sub fun _ w => w.1⟩, R.tb⟩
    · rcases set_get e2 with ⟨rfl, q2⟩ | ⟨ne, q2⟩
      · cases q2
        obtain ⟨v, hv, dv, _, ow⟩ := R.slot i .lk d e
        obtain ⟨q, o, ev, hs, _, hl, h1, h2, h3⟩ := ow (by decide)
        have : q = p := by
          have := hi d e
          rw [hv, ev] at this
          cases this; rfl
        subst this
        exact ⟨v, hv, dv, (fun z => by cases z), fun _ => ⟨q, o, ev, hs, fun _ w => w.2 rfl, (fun z => by cases z), h1, h2, h3⟩⟩
      · exact base j f d2 q2 fun _ => fun w => ne w.symm
    · rcases set_get g1 with ⟨rfl, k1⟩ | ⟨n1, k1⟩
      · rcases set_get g2 with ⟨e2, _⟩ | ⟨n2, k2⟩
        · exact e2
        · exact R.inj i k .lk g d e' v e k2 (by decide) g4 g5 g6
      · rcases set_get g2 with ⟨rfl, k2⟩ | ⟨n2, k2⟩
        · exact R.inj j i f .lk d2 d v k1 e g3 (by decide) g5 g6
        · exact R.inj j k f g d2 e' v k1 k2 g3 g4 g5 g6
theorem x_lock {i : Nat} {x : Str} {pos : Pos} (h : PE X (.Name x pos) (tVar i)) (hK : X.K = W.K) : PI X tg (.Name x pos) (TVI W (iLock i) (some i)) := by
  refine ⟨fun pins s σ H R I q => (pi_any (tg := tg) h).run pins s σ H R I ?_⟩
  rw [hK]
  obtain ⟨S, P, en, Rl, w⟩ := q
  unfold iLock at w
  rcases slot_cases en i with e | e | ⟨f, d, e⟩
  · rw [e] at w; exact w.elim
  · rw [e] at w; exact w.elim
  · rw [e] at w
    cases d with
    | lst ds =>
      obtain ⟨v, hv, dv, tn, ow⟩ := Rl.slot i f _ e
      cases dv with
      | @lst a xs _ ha dl =>
        refine ⟨_, hv, .inl ⟨a, rfl, ⟨xs, SqL.of ha⟩, ?_⟩⟩
        cases f with
        | fz =>
          refine w (Itl W.K a) H S P P .refl Rl (fun _ h => h) (fun S3 P3 en3 σ3 H3 hs e3 R3 => ?_) (fun _ => rfl) (walks_lst Rl (Rl.sp a (tn rfl)) ha dl)
          have hs : σ3 = σ := hs.resolve_left (by intro z; cases z)
          subst hs
          by_cases hl : ∃ d, en3[i]? = some (some (.lk, d))
          · obtain ⟨d, hl⟩ := hl
            obtain ⟨v, hv', _, _, ow3⟩ := R3.slot i .lk d hl
            obtain ⟨q, o, ev, nS, _⟩ := ow3 (by decide)
            rw [hv] at hv'
            cases hv'
            cases ev
            exact absurd (e3.s a (tn rfl)) nS
          · refine ⟨P3, fun _ h => h, e3, ?_⟩
            have : unl (some i) en3 = en3 := by
              unfold unl
              simp only
              split
              · rename_i d z; exact absurd ⟨d, z⟩ hl
              · rfl
            rw [this]; exact R3
        | lk => exact w.elim
        | ow =>
          obtain ⟨R2, nP, nS⟩ := Rl.lock e hv ha
          refine w (Itl W.K a) H S P (add P a) .refl R2 (fun _ h => .inl h) (fun S3 P3 en3 σ3 H3 hs e3 R3 => ?_) (fun z => by cases z) (walks_lst R2 (.inr rfl) ha dl)
          · have hs : σ3 = σ := hs.resolve_left (by intro z; cases z)
            subst hs
            have nS3 : ¬ S3 a := fun h => (e3.n a h).elim nS fun z => z (.inr rfl)
            by_cases hl : ∃ d, en3[i]? = some (some (.lk, d))
            · obtain ⟨d, hl⟩ := hl
              refine ⟨fun b => P3 b ∧ b ≠ a, fun _ h => h.1, ⟨e3.s, fun b h => ⟨e3.p b (.inl h), fun z => nP (z ▸ h)⟩, fun b h => e3.h b (.inl h), fun b h => (e3.n b h).imp id fun z w => z (.inl w)⟩, R3.unlock nS3 (fun _ _ => hv) fun j d' ne e' q => ?_⟩
              exact ne (R3.inj j i .lk .lk d' d _ e' hl (by decide) (by decide) q hv)
            · have : unl (some i) en3 = en3 := by
                unfold unl
                simp only
                split
                · rename_i d z; exact absurd ⟨d, z⟩ hl
                · rfl
              rw [this]
              exact ⟨P3, fun _ h => h, ⟨e3.s, fun b h => e3.p b (.inl h), fun b h => e3.h b (.inl h), fun b h => (e3.n b h).imp id fun z w => z (.inl w)⟩, R3⟩
    | _ => cases f <;> exact w.elim
end
end Sx
set_option Elab.async false
set_option linter.all false
set_option maxRecDepth 100000
set_option maxHeartbeats 4000000
set_option autoImplicit false
namespace Sx
open PySem L2

/-! ### defs -/
abbrev Fn := List D → T (Bool × D)
/-- all that stands but the draws -/
def Pall (W : Wd) (H : Hp) : Addr → Prop := fun a => (∃ o, H a = some o) ∧ a ≠ W.da ∧ NB W a
/-- the promise of a def that does what f does -/
def spR (K : PySem.W.Frag) (cls : CT) (n : Nat) (f : Fn) : Sp := fun vs H Q _ => vs.length = n ∧ ∃ W S ds, W.K = K ∧ W.cls = cls ∧ DrawOk W H ∧ LamX.Tabs W.tb H ∧ DomS S H ∧ ¬ S W.da ∧ NPb W S ∧ DvL W S H vs ds ∧
  (f ds).wp fun c => ∀ v H' S' P', Ext S (Pall W H) H S' P' H' → RetOk W S' P' H' → ROk W S' P' H' v c → Q v H'
def en0 (n : Nat) (ds : List D) : En := ds.map (fun d => some (.fz, d)) ++ List.replicate (n - ds.length) none
def flOf : Fl → Option (Bool × D)
  | .nx => some (false, .non)
  | .rt c => some c
  | _ => none
def runFn (n : Nat) (run : RunS) : Fn := fun ds => (run (en0 n ds)).bind fun r => T.ofOpt (flOf r.1)
def rCall (f : Fn) (rs : Runs) : Run := fun en => (rs en).bind fun a => (T.ofOpt (onlyV a.1)).bind fun ds => (f ds).bind fun c => .ret (mkO c, a.2)
section
variable {W : Wd} {S P S' P' : Addr → Prop} {en : En} {σ : St} {H H' : Hp} {X : Cx} {v : V} {c : Bool × D}
theorem DrawOk.at (d : DrawOk W H) : (∃ o, H W.da = some o) ∧ ∃ o, H W.db = some o := by
  obtain ⟨_, ns, i, j, k, h1, h2, _⟩ := d
  exact ⟨⟨_, h1⟩, ⟨_, h2⟩⟩
/-- behind a call -/
theorem Rel.call (R : Rel W S P en σ H) (e : Ext S (Pall W H) H S' P' H') (ro : RetOk W S' P' H') (ok : ROk W S' P' H' v c) :
    Ext S P H S' (fun a => P a ∨ S' a) H' ∧ Rel W S' (fun a => P a ∨ S' a) en σ H' ∧ OpOk W S' (fun a => P a ∨ S' a) en σ H' v (mkO c) := by
  have inA : ∀ a, P a → Pall W H a := fun a h => ⟨R.pd a h, fun z => R.drP.1 (z ▸ h), R.drP.2.nb h⟩
  have hA : ∀ a, Pall W H a → H' a = H a := e.h
  have nS : ∀ a, Pall W H a → ¬ S a → ¬ S' a := fun a h n w => (e.n a w).elim n fun z => z h
  have nd : ¬ S' W.da ∧ NPb W S' := ⟨fun w => ro.dp.1 (ro.sp _ w), ro.dp.2.sub ro.sp⟩
  refine ⟨⟨e.s, fun a h => .inl h, fun a h => hA a (inA a h), fun a h => (e.n a h).imp id fun z w => z (inA a w)⟩, ⟨fun a h => .inr h, fun a h => h.elim (fun h => by obtain ⟨o, q⟩ := R.pd a h; exact ⟨o, (hA a (inA a h)).trans q⟩) (ro.ds a), fun i f d q => ?_, R.inj, R.len, ro.dr, ⟨fun w => w.elim R.drP.1 nd.1, ⟨fun w => w.elim R.drP.2.1 nd.2.1, fun x hx w => w.elim (R.drP.2.2 x hx) (nd.2.2 x hx)⟩⟩, ro.tb⟩, ?_⟩
  · obtain ⟨v, hv, dv, t, ow⟩ := R.slot i f d q
    refine ⟨v, hv, dv.mono e.s (fun a h => hA a (inA a (R.sp a h))) ?_, fun z => (t z).mono e.s, fun z => ?_⟩
    · by_cases hf : f = .fz
      · exact (t hf).mono fun a h => hA a (inA a (R.sp a h))
      · obtain ⟨p, o, ev, _, _, _, h1, h2, h3⟩ := ow hf
        subst ev
        have : H' p = H p := hA p ⟨⟨o, h3⟩, h1, h2⟩
        cases d <;> first | exact trivial | exact this
    · obtain ⟨p, o, ev, hs, hq, hl, h1, h2, h3⟩ := ow z
      have pa : Pall W H p := ⟨⟨o, h3⟩, h1, h2⟩
      have ns := nS p pa hs
      exact ⟨p, o, ev, ns, fun y w => w.elim (hq y) ns, fun y => .inl (hl y), h1, h2, (hA p pa).trans h3⟩
  · obtain ⟨f, d⟩ := c
    obtain ⟨dv, tn, ow⟩ := ok
    cases f with
    | false => exact ⟨tn rfl, dv⟩
    | true =>
      obtain ⟨p, o, rfl, nP, h1, h2, h3⟩ := ow rfl
      have nA : ¬ Pall W H p := fun w => nP (e.p p w)
      refine ⟨dv, p, o, rfl, ⟨fun w => w.elim (fun w => nA (inA p w)) fun w => nP (ro.sp p w), h1, h2, fun i f d q nf hv => ?_⟩, h3⟩
      obtain ⟨v, hv', _, _, ow⟩ := R.slot i f d q
      obtain ⟨p', o', ev, _, _, _, g1, g2, g3⟩ := ow nf
      rw [hv'] at hv
      cases hv
      cases ev
      exact nA ⟨⟨o', g3⟩, g1, g2⟩
theorem tv_call {n : Nat} {f : Fn} {rs : Runs} {cls : CT} (hcl : W.cls = cls) {Q : VK} (hn : ∀ en, (rs en).all fun r => ∀ ds, onlyV r.1 = some ds → ds.length = n) (h : TV W (rCall f rs) σ H Q) : tCall (spR W.K cls n f) [] E0 (TVs W rs) σ H Q := by
  obtain ⟨S, P, en, R, w⟩ := h
  have w := T.wp_all ((T.wp_bind _ _ _).mp w) (hn en)
  refine ⟨S, P, en, R, T.wp_mono w fun r ⟨q, len⟩ vs H1 S1 P1 e1 R1 pe => ?_⟩
  obtain ⟨ds, hds, q⟩ := T.wp_ofOpt ((T.wp_bind _ _ _).mp q)
  have dl := pe.only hds
  have q := (T.wp_bind _ _ _).mp q
  rw [List.append_nil]
  refine ⟨dl.len.trans (len ds hds), W, S1, ds, rfl, hcl, R1.dr, R1.tb, R1.dom, fun w => R1.drP.1 (R1.sp _ w), R1.drP.2.sub R1.sp, dl, T.wp_mono q fun c q v H' S' P' e ro ok => ?_⟩
  obtain ⟨e2, R2, ok2⟩ := R1.call e ro ok
  exact q v H' S' _ (e1.trans e2) R2 ok2
end

section
variable {P : Program} {w : World} {K : PySem.W.Frag} {mg : Str → Option Value} {base : Heap} {cls : CT}
theorem en0_get {n : Nat} {ds : List D} {i : Nat} {f : Fg} {d : D} (h : (en0 n ds)[i]? = some (some (f, d))) : f = .fz ∧ ds[i]? = some d := by
  unfold en0 at h
  by_cases hl : i < ds.length
  · rw [List.getElem?_append_left (by simpa using hl), List.getElem?_map] at h
    cases e : ds[i]? with
    | none => rw [e] at h; cases h
    | some x => rw [e] at h; cases h; exact ⟨rfl, rfl⟩
  · rw [List.getElem?_append_right (by simpa using hl)] at h
    have := List.eq_of_mem_replicate (List.mem_of_getElem? h)
    cases this
end
end Sx
set_option Elab.async false
set_option linter.all false
set_option maxRecDepth 100000
set_option maxHeartbeats 4000000
set_option autoImplicit false
namespace Sx
open PySem L2

/-! ### plain data -/
mutual
def py : D → Option PyData
  | .non => some .none
  | .bl b => some (.bool b)
  | .int i => some (.int i)
  | .str x => some (.str x)
  | .lst xs => (pyL xs).bind fun ps => some (.list ps)
  | .tup xs => (pyL xs).bind fun ps => some (.tuple ps)
  | _ => none
def pyL : List D → Option (List PyData)
  | [] => some []
  | x :: xs => (py x).bind fun p => (pyL xs).bind fun ps => some (p :: ps)
end
section
variable {W : Wd} {S : Addr → Prop} {H : Hp}
theorem Wr.to {a : Addr} {xs : List V} (h : Wr W a xs) : SqT W.K H a xs := by
  rcases h with (h | ⟨_, h⟩) | h
  · cases h
  · cases h
  · exact .inr h
theorem tup_sq {a : Addr} {xs : List V} (h : (S a ∧ H a = some (.tup xs)) ∨ Wr W a xs) : SqT W.K H a xs := h.elim (fun h => SqT.of h.2) Wr.to
mutual
theorem Dv.dp : ∀ {v : V} {d : D} {p : PyData}, Dv W S H v d → py d = some p → Dp W.K H v p
  | _, _, _, .non, e => by cases e; exact .non
  | _, _, _, .bl b, e => by cases e; exact .bl b
  | _, _, _, .int i, e => by cases e; exact .int i
  | _, _, _, .str x, e => by cases e; exact .str x
  | _, _, _, .lst h r, e => by
    obtain ⟨ps, e1, e2⟩ := Option.bind_eq_some_iff.mp e
    cases e2
    exact .lst (SqL.of h) (DvL.dp r e1)
  | _, _, _, .tup h r, e => by
    obtain ⟨ps, e1, e2⟩ := Option.bind_eq_some_iff.mp e
    cases e2
    exact .tup (tup_sq h) (DvL.dp r e1)
  | _, _, _, .dK _ _, e => by cases e
  | _, _, _, .dT _ _, e => by cases e
  | _, _, _, .obj _ _, e => by cases e
  | _, _, _, .scr _, e => by cases e
  | _, _, _, .drw, e => by cases e
  | _, _, _, .ty _, e => by cases e
  | _, _, _, .cl _, e => by cases e
theorem DvL.dp : ∀ {vs : List V} {ds : List D} {ps : List PyData}, DvL W S H vs ds → pyL ds = some ps → DpAll W.K H vs ps
  | _, _, _, .nil, e => by cases e; exact .nil
  | _, _, _, .cons _ h r, e => by
    obtain ⟨p, e1, e⟩ := Option.bind_eq_some_iff.mp e
    obtain ⟨ps, e2, e⟩ := Option.bind_eq_some_iff.mp e
    cases e
    exact .cons (Dv.dp h e1) (DvL.dp r e2)
end
mutual
theorem dp_plain {K : PySem.W.Frag} : ∀ {v : V} {p : PyData}, Dp K H v p → p.plain = true
  | _, _, .non => rfl
  | _, _, .bl _ => rfl
  | _, _, .int _ => rfl
  | _, _, .str _ => rfl
  | _, _, .lst _ r => dp_plainL r
  | _, _, .tup _ r => dp_plainL r
theorem dp_plainL {K : PySem.W.Frag} : ∀ {vs : List V} {ps : List PyData}, DpAll K H vs ps → PyData.plainAll ps = true
  | _, _, .nil => rfl
  | _, _, .cons h r => by
    show (PyData.plain _ && PyData.plainAll _) = true
    rw [dp_plain h, dp_plainL r]
    rfl
end
end

/-! ### rules by data -/
section
variable {W : Wd} {S : Addr → Prop} {H : Hp} {X : Cx} {Q : VK} {v : V} {d : D}
/-- a scalar, or a part of what stood -/
theorem PRes.old (hd : DomS S H) (r : PRes W S H (false, d) Q) (h : Dz W S H v d) : Q v H := r v H S (fun _ _ e => e) (fun _ h => h) (fun _ h => .inl h) hd h.2 (fun _ => h.1) fun z => by cases z
theorem PRes.bl {b : Bool} (hd : DomS S H) (r : PRes W S H (false, .bl b) Q) : Q (.bl b) H := r.old hd ⟨trivial, .bl b⟩
theorem PRes.int {i : Int} (hd : DomS S H) (r : PRes W S H (false, .int i) Q) : Q (.int i) H := r.old hd ⟨trivial, .int i⟩
theorem PRes.str {x : Str} (hd : DomS S H) (r : PRes W S H (false, .str x) Q) : Q (.str x) H := r.old hd ⟨trivial, .str x⟩
def shallow (p : PyData) : Bool := decide (p.depth ≤ 60)
def rDD (K : PySem.W.Frag) (C : PyData → PyData → Prop) (f : PyData → PyData → Bool) : R2 := fun x y H Q => ∃ p q, Dp K H x p ∧ Dp K H y q ∧ C p q ∧ Q (.bl (f p q)) H
theorem op_eqP (hu : X.A.units + 64 < cLine) : OpR X (compareOp .Eq) (rDD X.K (fun p _ => p.depth ≤ 60) PyData.eqv) := by
  intro pins s σ H x y v u Q I rx ry h
  obtain ⟨p, q, hp, hq, hs, k⟩ := h
  obtain ⟨as, r1⟩ := Dp.reads I p x v hp rx
  obtain ⟨bs, r2⟩ := Dp.reads I q y u hq ry
  exact SeqAt.eq_plain r1 r2 (dp_plain hp) (dp_plain hq) (by omega) ⟨.bl _, H, I, rfl, k⟩
theorem op_neP (hu : X.A.units + 64 < cLine) : OpR X (compareOp .NotEq) (rDD X.K (fun p _ => p.depth ≤ 60) fun p q => !PyData.eqv p q) := by
  intro pins s σ H x y v u Q I rx ry h
  obtain ⟨p, q, hp, hq, hs, k⟩ := h
  obtain ⟨as, r1⟩ := Dp.reads I p x v hp rx
  obtain ⟨bs, r2⟩ := Dp.reads I q y u hq ry
  exact SeqAt.ne_plain r1 r2 (dp_plain hp) (dp_plain hq) (by omega) ⟨.bl _, H, I, rfl, k⟩
def CLt (p q : PyData) : Prop := PySem.W.alike p q = true ∧ p ≠ .none ∧ p.depth ≤ 60
theorem op_ltP (hu : X.A.units + 64 < cLine) : OpR X (compareOp .Lt) (rDD X.K CLt fun p q => PySem.W.dataLt p q) := by
  intro pins s σ H x y v u Q I rx ry h
  obtain ⟨p, q, hp, hq, ⟨c1, c2, c3⟩, k⟩ := h
  obtain ⟨as, r1⟩ := Dp.reads I p x v hp rx
  obtain ⟨bs, r2⟩ := Dp.reads I q y u hq ry
  exact PySem.W.lt_data r1 r2 c1 c2 (by omega) ⟨.bl _, H, I, rfl, k⟩
theorem op_gtP (hu : X.A.units + 64 < cLine) : OpR X (compareOp .Gt) (rDD X.K CLt fun p q => PySem.W.dataLt q p) := by
  intro pins s σ H x y v u Q I rx ry h
  obtain ⟨p, q, hp, hq, ⟨c1, c2, c3⟩, k⟩ := h
  obtain ⟨as, r1⟩ := Dp.reads I p x v hp rx
  obtain ⟨bs, r2⟩ := Dp.reads I q y u hq ry
  exact PySem.W.gt_data r1 r2 c1 c2 (by omega) ⟨.bl _, H, I, rfl, k⟩
theorem op_leP (hu : X.A.units + 64 < cLine) : OpR X (compareOp .LtE) (rDD X.K CLt fun p q => !PySem.W.dataLt q p) := by
  intro pins s σ H x y v u Q I rx ry h
  obtain ⟨p, q, hp, hq, ⟨c1, c2, c3⟩, k⟩ := h
  obtain ⟨as, r1⟩ := Dp.reads I p x v hp rx
  obtain ⟨bs, r2⟩ := Dp.reads I q y u hq ry
  exact PySem.W.le_data r1 r2 c1 c2 (by omega) ⟨.bl _, H, I, rfl, k⟩
theorem op_geP (hu : X.A.units + 64 < cLine) : OpR X (compareOp .GtE) (rDD X.K CLt fun p q => !PySem.W.dataLt p q) := by
  intro pins s σ H x y v u Q I rx ry h
  obtain ⟨p, q, hp, hq, ⟨c1, c2, c3⟩, k⟩ := h
  obtain ⟨as, r1⟩ := Dp.reads I p x v hp rx
  obtain ⟨bs, r2⟩ := Dp.reads I q y u hq ry
  exact PySem.W.ge_data r1 r2 c1 c2 (by omega) ⟨.bl _, H, I, rfl, k⟩
/-- x in a list or a tuple -/
def rInP (K : PySem.W.Frag) (neg : Bool) : R2 := fun x y H Q => ∃ p ps a xs, y = .ref a ∧ Dp K H x p ∧ DpAll K H xs ps ∧ (SqL K H a xs ∨ SqT K H a xs) ∧ p.depth ≤ 60 ∧ Q (.bl (if neg then !ps.any fun z => PyData.eqv z p else ps.any fun z => PyData.eqv z p)) H
theorem op_inP (hu : X.A.units + 64 < cLine) : OpR X (compareOp .In) (rInP X.K false) := by
  intro pins s σ H x y v u Q I rx ry h
  obtain ⟨p, ps, a, xs, rfl, hp, hps, hs, hd, k⟩ := h
  obtain ⟨as, r1⟩ := Dp.reads I p x v hp rx
  rcases hs with hs | hs
  · obtain ⟨bs, r2⟩ := Dp.reads I (.list ps) (.ref a) u (.lst hs hps) ry
    exact SeqAt.in_list_data r2 r1 (dp_plainL hps) (dp_plain hp) (by omega) ⟨.bl _, H, I, rfl, k⟩
  · obtain ⟨bs, r2⟩ := Dp.reads I (.tuple ps) (.ref a) u (.tup hs hps) ry
    exact SeqAt.in_tuple_data r2 r1 (dp_plainL hps) (dp_plain hp) (by omega) ⟨.bl _, H, I, rfl, k⟩
theorem op_notInP (hu : X.A.units + 64 < cLine) : OpR X (compareOp .NotIn) (rInP X.K true) := by
  intro pins s σ H x y v u Q I rx ry h
  obtain ⟨p, ps, a, xs, rfl, hp, hps, hs, hd, k⟩ := h
  obtain ⟨as, r1⟩ := Dp.reads I p x v hp rx
  rcases hs with hs | hs
  · obtain ⟨bs, r2⟩ := Dp.reads I (.list ps) (.ref a) u (.lst hs hps) ry
    exact SeqAt.notIn_list_data r2 r1 (dp_plainL hps) (dp_plain hp) (by omega) ⟨.bl _, H, I, rfl, k⟩
  · obtain ⟨bs, r2⟩ := Dp.reads I (.tuple ps) (.ref a) u (.tup hs hps) ry
    exact SeqAt.notIn_tuple_data r2 r1 (dp_plainL hps) (dp_plain hp) (by omega) ⟨.bl _, H, I, rfl, k⟩

/-! the functions on data -/
def some0 (d : D) : Option (Bool × D) := some (false, d)
def some1 (d : D) : Option (Bool × D) := some (true, d)
def fEq (x y : D) : Option (Bool × D) := (py x).bind fun p => (py y).bind fun q => if p.depth ≤ 60 then some0 (.bl (PyData.eqv p q)) else none
def fNe (x y : D) : Option (Bool × D) := (py x).bind fun p => (py y).bind fun q => if p.depth ≤ 60 then some0 (.bl (!PyData.eqv p q)) else none
def cLt (p q : PyData) : Bool := PySem.W.alike p q && (match p with | .none => false | _ => true) && decide (p.depth ≤ 60)
def fCmp (g : PyData → PyData → Bool) (x y : D) : Option (Bool × D) := (py x).bind fun p => (py y).bind fun q => if cLt p q then some0 (.bl (g p q)) else none
def fInG (neg : Bool) (x y : D) : Option (Bool × D) := match x, y with
  | .str x', .str y' => match x'.cps.toList with
    | [c] => some0 (.bl (if neg then !decide (c ∈ y'.cps.toList) else decide (c ∈ y'.cps.toList)))
    | _ => none
  | x, y => (py x).bind fun p => (match y with | .lst ds => pyL ds | .tup ds => pyL ds | _ => none).bind fun ps => if p.depth ≤ 60 then some0 (.bl (if neg then !ps.any fun z => PyData.eqv z p else ps.any fun z => PyData.eqv z p)) else none
theorem bind2 {α β γ : Type} {a : Option α} {b : Option β} {f : α → β → Option γ} {c : γ} (h : (a.bind fun p => b.bind fun q => f p q) = some c) : ∃ p q, a = some p ∧ b = some q ∧ f p q = some c := by
  obtain ⟨p, e1, h⟩ := Option.bind_eq_some_iff.mp h
  obtain ⟨q, e2, h⟩ := Option.bind_eq_some_iff.mp h
  exact ⟨p, q, e1, e2, h⟩
theorem p_eq : Pure2 W (rDD W.K (fun p _ => p.depth ≤ 60) PyData.eqv) fEq := by
  intro S H x y d e c Q hd hx hy h r
  obtain ⟨p, q, e1, e2, h⟩ := bind2 h
  split at h
  · cases h; exact ⟨p, q, hx.dp e1, hy.dp e2, by assumption, r.bl hd⟩
  · cases h
theorem p_ne : Pure2 W (rDD W.K (fun p _ => p.depth ≤ 60) fun p q => !PyData.eqv p q) fNe := by
  intro S H x y d e c Q hd hx hy h r
  obtain ⟨p, q, e1, e2, h⟩ := bind2 h
  split at h
  · cases h; exact ⟨p, q, hx.dp e1, hy.dp e2, by assumption, r.bl hd⟩
  · cases h
theorem p_cmp {g : PyData → PyData → Bool} : Pure2 W (rDD W.K CLt g) (fCmp g) := by
  intro S H x y d e c Q hd hx hy h r
  obtain ⟨p, q, e1, e2, h⟩ := bind2 h
  split at h
  · rename_i hc
    cases h
    unfold cLt at hc
    simp only [Bool.and_eq_true, decide_eq_true_eq] at hc
    exact ⟨p, q, hx.dp e1, hy.dp e2, ⟨hc.1.1, (fun z => by rw [z] at hc; exact absurd hc.1.2 (by decide)), hc.2⟩, r.bl hd⟩
  · cases h
def rInAll (K : PySem.W.Frag) (neg : Bool) : R2 := fun x y H Q => rInP K neg x y H Q ∨ ∃ (c : Nat) (z : Str), x = .str ⟨#[c]⟩ ∧ y = .str z ∧ Q (.bl (if neg then !decide (c ∈ z.cps.toList) else decide (c ∈ z.cps.toList))) H
theorem op_inAll (hu : X.A.units + 64 < cLine) : OpR X (compareOp .In) (rInAll X.K false) := (op_inP hu).or op_in_sign
theorem op_notInAll (hu : X.A.units + 64 < cLine) : OpR X (compareOp .NotIn) (rInAll X.K true) := (op_notInP hu).or op_notIn_sign
theorem str1 {x : Str} {c : Nat} (h : x.cps.toList = [c]) : x = ⟨#[c]⟩ := by
  obtain ⟨a⟩ := x
  have h : a.toList = [c] := h
  have : a = #[c] := Array.toList_inj.mp h
  rw [this]
theorem p_in {neg : Bool} : Pure2 W (rInAll W.K neg) (fInG neg) := by
  intro S H x y d e c Q hd hx hy h r
  have gen : ∀ (p : PyData) (ds : List D), py d = some p → ∀ ps, (match e with | .lst ds => pyL ds | .tup ds => pyL ds | _ => none) = some ps → p.depth ≤ 60 → c = (false, .bl (if neg then !ps.any fun z => PyData.eqv z p else ps.any fun z => PyData.eqv z p)) → rInAll W.K neg x y H Q := by
    intro p _ e1 ps e2 hp hc
    subst hc
    refine .inl ?_
    cases hy with
    | lst ha dl => exact ⟨p, ps, _, _, rfl, hx.dp e1, dl.dp e2, .inl (SqL.of ha), hp, r.bl hd⟩
    | tup ha dl => exact ⟨p, ps, _, _, rfl, hx.dp e1, dl.dp e2, .inr (tup_sq ha), hp, r.bl hd⟩
    | _ => cases e2
  unfold fInG at h
  split at h
  · rename_i x' y'
    split at h
    · rename_i c' hc
      cases h
      cases hx
      cases hy
      exact .inr ⟨c', y', by rw [str1 hc], rfl, r.bl hd⟩
    · cases h
  · obtain ⟨p, ps, e1, e2, h⟩ := bind2 h
    split at h
    · cases h; exact gen p [] e1 ps e2 (by assumption) rfl
    · cases h
/-- + -/
def fAdd (x y : D) : Option (Bool × D) := match x, y with
  | .int i, .int j => some0 (.int (i + j))
  | .str a, .str b => if a.length + b.length ≤ 65536 then some0 (.str (a ++ b)) else none
  | .lst xs, .lst ys => if xs.length + ys.length ≤ 4096 then some1 (.lst (xs ++ ys)) else none
  | .tup xs, .tup ys => if xs.length + ys.length ≤ 4096 then some0 (.tup (xs ++ ys)) else none
  | _, _ => none
def rAddAll (K : PySem.W.Frag) : R2 := fun x y H Q => ((rI0 fun i j => .int (i + j)) x y H Q ∨ ∃ i j, x = .str i ∧ y = .str j ∧ i.length + j.length ≤ sizeLine ∧ Q (.str (i ++ j)) H) ∨ (rCat x y H Q ∨ rCatA K x y H Q)
theorem op_addAll : OpR X (binaryOp .Add) (rAddAll X.K) := (op_add.or op_add_str).or (op_cat.or op_catA)
theorem line65536 {n : Nat} (h : n ≤ 65536) : n ≤ sizeLine := Nat.le_trans h (by rw [sizeLine_eq]; decide)
theorem DvL.app {vs ws : List V} {ds es : List D} (h : DvL W S H vs ds) (g : DvL W S H ws es) : DvL W S H (vs ++ ws) (ds ++ es) := by
  induction ds generalizing vs with
  | nil => cases h; exact g
  | cons d ds ih => cases h with | cons t dv r => exact .cons t dv (ih r)
theorem DvL.nil_iff {vs : List V} {ds : List D} (h : DvL W S H vs ds) : vs = [] ↔ ds = [] := by
  cases h <;> simp
theorem p_add : Pure2 W (rAddAll W.K) fAdd := by
  intro S H x y d e c Q hd hx hy h r
  unfold fAdd at h
  split at h
  · cases h; cases hx; cases hy; exact .inl (.inl ⟨_, _, rfl, rfl, r.int hd⟩)
  · split at h
    · cases h; cases hx; cases hy; exact .inl (.inr ⟨_, _, rfl, rfl, line65536 (by assumption), r.str hd⟩)
    · cases h
  · split at h
    · rename_i hl
      cases h
      cases hx with
      | lst ha dl =>
        cases hy with
        | lst hb dl2 => exact .inr (.inl ⟨_, _, _, _, rfl, rfl, ha, hb, line4096 (by rw [dl.len, dl2.len]; exact hl), PRes.lst hd (dl.app dl2) r⟩)
    · cases h
  · split at h
    · rename_i hl
      cases h
      cases hx with
      | tup ha dl =>
        cases hy with
        | tup hb dl2 =>
          refine .inr (.inr ⟨_, _, _, _, rfl, rfl, tup_sq ha, tup_sq hb, line4096 (by rw [dl.len, dl2.len]; exact hl), fun z => ?_, fun _ z => ?_, fun _ _ => PRes.tup hd (dl.app dl2) r⟩)
          · have := dl.nil_iff.mp z
            subst this
            exact r.old hd ⟨trivial, .tup hb dl2⟩
          · have := dl2.nil_iff.mp z
            subst this
            rw [List.append_nil] at r
            exact r.old hd ⟨trivial, .tup ha dl⟩
    · cases h
  · cases h
def fInt2 (g : Int → Int → Int) (x y : D) : Option (Bool × D) := match x, y with
  | .int i, .int j => some0 (.int (g i j))
  | _, _ => none
theorem p_int2 {g : Int → Int → Int} : Pure2 W (rI0 fun i j => .int (g i j)) (fInt2 g) := by
  intro S H x y d e c Q hd hx hy h r
  unfold fInt2 at h
  split at h
  · cases h; cases hx; cases hy; exact ⟨_, _, rfl, rfl, r.int hd⟩
  · cases h
def fIntC (C : Int → Int → Bool) (g : Int → Int → Int) (x y : D) : Option (Bool × D) := match x, y with
  | .int i, .int j => if C i j then some0 (.int (g i j)) else none
  | _, _ => none
theorem p_intC {C : Int → Int → Bool} {C' : Int → Int → Prop} {g : Int → Int → Int} (hC : ∀ i j, C i j = true → C' i j) : Pure2 W (rI C' fun i j => .int (g i j)) (fIntC C g) := by
  intro S H x y d e c Q hd hx hy h r
  unfold fIntC at h
  split at h
  · split at h
    · cases h; cases hx; cases hy; exact ⟨_, _, rfl, rfl, hC _ _ (by assumption), r.int hd⟩
    · cases h
  · cases h
def fNeg (x : D) : Option (Bool × D) := match x with
  | .int i => some0 (.int (-i))
  | _ => none
theorem p_neg : Pure1 W (rU fun i => .int (-i)) fNeg := by
  intro S H x d c Q hd hx h r
  unfold fNeg at h
  split at h
  · cases h; cases hx; exact ⟨_, rfl, r.int hd⟩
  · cases h
/-- is None, is a truth value -/
def fIs (neg : Bool) (x y : D) : Option (Bool × D) := match x, y with
  | .non, .non => some0 (.bl (!neg))
  | .bl a, .bl b => some0 (.bl (if neg then !decide (a = b) else decide (a = b)))
  | _, .non => some0 (.bl neg)
  | _, _ => none
def rIsAll (neg : Bool) : R2 := fun x y H Q => (y = .non ∧ Q (.bl (if neg then !decide (x = .non) else decide (x = .non))) H) ∨ ∃ a b, x = .bl a ∧ y = .bl b ∧ Q (.bl (if neg then !decide (a = b) else decide (a = b))) H
theorem op_isAll : OpR X (compareOp .Is) (rIsAll false) := op_isN.or op_is_bl
theorem op_isNotAll : OpR X (compareOp .IsNot) (rIsAll true) := op_notN.or op_isnot_bl
theorem dv_non {x : V} {d : D} (h : Dv W S H x d) : (x = .non) ↔ d = .non := by cases h <;> simp
theorem p_is {neg : Bool} : Pure2 W (rIsAll neg) (fIs neg) := by
  intro S H x y d e c Q hd hx hy h r
  unfold fIs at h
  split at h
  · cases h
    cases hy
    refine .inl ⟨rfl, ?_⟩
    have : x = .non := (dv_non hx).mpr rfl
    subst this
    have := r.bl hd
    cases neg <;> exact this
  · cases h; cases hx; cases hy; exact .inr ⟨_, _, rfl, rfl, r.bl hd⟩
  · rename_i h1 h2
    have hn : d ≠ .non := fun z => by
      subst z
      first | exact h1 rfl | exact h1 rfl rfl | exact h2 rfl | exact h2 rfl rfl
    cases h
    cases hy
    refine .inl ⟨rfl, ?_⟩
    have nx : ¬ x = .non := fun z => hn ((dv_non hx).mp z)
    have := r.bl hd
    cases neg with
    | true => rw [if_pos rfl, decide_eq_false nx]; exact this
    | false => rw [if_neg (by decide), decide_eq_false nx]; exact this
  · cases h
end
end Sx
set_option Elab.async false
set_option linter.all false
set_option maxRecDepth 100000
set_option maxHeartbeats 4000000
set_option autoImplicit false
namespace Sx
open PySem L2

section
variable {W : Wd} {S P : Addr → Prop} {H : Hp} {X : Cx} {Q : VK} {v : V} {d : D} {en : En} {σ : St}
/-! ### subscripts, slices -/
def fIx (x y : D) : Option (Bool × D) := match x, y with
  | .lst ds, .int i => (atI ds i).bind some0
  | .tup ds, .int i => (atI ds i).bind some0
  | .str s, .int i => if s.length ≤ 65536 then (atI s.cps.toList i).bind fun c => some0 (.str ⟨#[c]⟩) else none
  | _, _ => none
theorem DvL.atI {vs : List V} {ds : List D} {i : Int} {d : D} (h : DvL W S H vs ds) (e : L2.atI ds i = some d) : ∃ x, L2.atI vs i = some x ∧ Dz W S H x d := by
  unfold L2.atI at e ⊢
  rw [h.len]
  obtain ⟨j, e1, e2⟩ := Option.bind_eq_some_iff.mp e
  obtain ⟨x, hx, dz⟩ := (h.at (i := j)).2 d e2
  exact ⟨x, by rw [e1]; exact hx, dz⟩
theorem p_ix : Pure2 W (rIx W.K) fIx := by
  intro S H x y d e c Q hd hx hy h r
  unfold fIx at h
  split at h
  · obtain ⟨z, e1, e2⟩ := Option.bind_eq_some_iff.mp h
    cases e2
    cases hy
    cases hx with
    | lst ha dl =>
      obtain ⟨u, hu, dz⟩ := dl.atI e1
      exact .inl ⟨_, _, _, _, rfl, rfl, SqL.of ha, hu, r.old hd dz⟩
  · obtain ⟨z, e1, e2⟩ := Option.bind_eq_some_iff.mp h
    cases e2
    cases hy
    cases hx with
    | tup ha dl =>
      obtain ⟨u, hu, dz⟩ := dl.atI e1
      exact .inr (.inl ⟨_, _, _, _, rfl, rfl, tup_sq ha, hu, r.old hd dz⟩)
  · split at h
    · obtain ⟨z, e1, e2⟩ := Option.bind_eq_some_iff.mp h
      cases e2
      cases hy
      cases hx
      exact .inr (.inr ⟨_, _, _, rfl, rfl, line65536 (by assumption), e1, r.str hd⟩)
    · cases h
  · cases h
theorem x_ix {a b : Expr} {ra rb : Run} {pos : Pos} (ha : PE X a (TV W ra)) (hb : PE X b (TV W rb)) (hK : X.K = W.K) (hs : PlainIx b) : PE X (.Subscript a b pos) (TV W (run2 ra rb fIx)) :=
  pe_weak (pe_ix (r := rIx W.K) (by rw [← hK]; exact ix_seq) ha hb hs) fun _ _ _ h => tv2 p_ix h
/-- a part of a slice -/
abbrev RunO := En → T (Option Int × En)
def TVO (W : Wd) (run : RunO) : TO := fun σ H Q => ∃ S P en, Rel W S P en σ H ∧ (run en).wp fun r => ∀ H' S' P', Ext S P H S' P' H' → Rel W S' P' r.2 σ H' → Q r.1 H'
def oNone : RunO := fun en => .ret (none, en)
def intOf : Option D → Option Int
  | some (.int i) => some i
  | _ => none
def oSome (ra : Run) : RunO := fun en => (ra en).bind fun a => (T.ofOpt (intOf (frc a.2 a.1.fz))).bind fun i => .ret (some i, a.2)
theorem po_weak {e : Option Expr} {t t' : TO} (h : PO X e t) (w : ∀ σ H Q, t' σ H Q → t σ H Q) : PO X e t' := ⟨fun pins s σ H Q I q => h.run pins s σ H Q I (w σ H Q q)⟩
theorem o_none : PO X none (TVO W oNone) := po_weak po_none fun σ H Q h => by
  obtain ⟨S, P, en, R, w⟩ := h
  exact w H S P .refl R
theorem intOf_some {o : Option D} {i : Int} (h : intOf o = some i) : o = some (.int i) := by
  unfold intOf at h
  split at h
  · cases h; rfl
  · cases h
theorem o_some {e : Expr} {ra : Run} (h : PE X e (TV W ra)) : PO X (some e) (TVO W (oSome ra)) := po_weak (po_some h) fun σ H Q h => by
  obtain ⟨S, P, en, R, w⟩ := h
  refine TV.use R w fun c v H1 S1 P1 e1 R1 p1 q => ?_
  obtain ⟨i, ei, q⟩ := T.wp_ofOpt ((T.wp_bind _ _ _).mp q)
  have := p1.now R1 (intOf_some ei)
  cases this
  exact ⟨i, rfl, q H1 S1 P1 e1 R1⟩
def cutD (xs : List D) (lo hi : Option Int) : List D := (xs.drop (HT.sIx xs.length 0 lo)).take (HT.sIx xs.length xs.length hi - HT.sIx xs.length 0 lo)
def fSl (x : D) (lo hi : Option Int) : Option (Bool × D) := match x with
  | .lst ds => some1 (.lst (cutD ds lo hi))
  | .tup ds => some0 (.tup (cutD ds lo hi))
  | .str s => if s.length ≤ 65536 then some0 (.str (cutS s lo hi)) else none
  | _ => none
def rSlice (ra : Run) (rl rh : RunO) : Run := fun en => (ra en).bind fun a => (rl a.2).bind fun l => (rh l.2).bind fun h => ret1 ((frc h.2 a.1.fz).bind fun x => fSl x l.1 h.1) h.2
theorem DvL.take {vs : List V} {ds : List D} (n : Nat) (h : DvL W S H vs ds) : DvL W S H (vs.take n) (ds.take n) := by
  induction n generalizing vs ds with
  | zero => exact .nil
  | succ n ih => cases h with
    | nil => exact .nil
    | cons t dv r => exact .cons t dv (ih r)
theorem DvL.drop {vs : List V} {ds : List D} (n : Nat) (h : DvL W S H vs ds) : DvL W S H (vs.drop n) (ds.drop n) := by
  induction n generalizing vs ds with
  | zero => exact h
  | succ n ih => cases h with
    | nil => exact .nil
    | cons t dv r => exact ih r
theorem DvL.cut {vs : List V} {ds : List D} {lo hi : Option Int} (h : DvL W S H vs ds) : DvL W S H (cutV vs lo hi) (cutD ds lo hi) := by
  unfold cutV cutD
  rw [h.len]
  exact (h.drop _).take _
theorem cutD_whole (ds : List D) (lo hi : Option Int) (h : HT.sIx ds.length 0 lo = 0 ∧ HT.sIx ds.length ds.length hi = ds.length) : cutD ds lo hi = ds := by
  unfold cutD
  rw [h.1, h.2]
  simp
def rSlAll (K : PySem.W.Frag) : V → Option Int → Option Int → Hp → VK → Prop := fun x lo hi H Q => rSlL K x lo hi H Q ∨ (rSlA K x lo hi H Q ∨ rSlS x lo hi H Q)
theorem sl_all : SlR X (rSlAll X.K) := sl_list.or (sl_tupA.or sl_str)
theorem x_slice {e : Expr} {lo hi : Option Expr} {ra : Run} {rl rh : RunO} {pos p2 : Pos} (hK : X.K = W.K) (he : PE X e (TV W ra)) (hl : PO X lo (TVO W rl)) (hh : PO X hi (TVO W rh)) : PE X (.Subscript e (.Slice lo hi none p2) pos) (TV W (rSlice ra rl rh)) := by
  refine pe_weak (pe_slice sl_all he hl hh) fun σ H Q h => ?_
  rw [hK]
  obtain ⟨S, P, en, R, w⟩ := h
  refine TV.use R w fun c v H1 S1 P1 e1 R1 p1 q => ?_
  have q := (T.wp_bind _ _ _).mp q
  refine ⟨S1, P1, c.2, R1, T.wp_mono q fun l q H2 S2 P2 e2 R2 => ?_⟩
  have q := (T.wp_bind _ _ _).mp q
  refine ⟨S2, P2, l.2, R2, T.wp_mono q fun u q H3 S3 P3 e3 R3 => ?_⟩
  obtain ⟨z, ez, qz⟩ := wp_ret1 q
  obtain ⟨x, ex, fx⟩ := Option.bind_eq_some_iff.mp ez
  have dv := ((p1.ext R1 e2).ext R2 e3).now R3 ex
  have r := R3.res fun v' H' S' P' e' R' ok => qz v' H' S' P' (e1.trans (e2.trans (e3.trans e'))) R' ok
  have hd := R3.dom
  cases dv with
  | lst ha dl => cases fx; exact .inl ⟨_, _, rfl, SqL.of ha, PRes.lst hd dl.cut r⟩
  | tup ha dl =>
    cases fx
    refine .inr (.inl ⟨_, _, rfl, tup_sq ha, fun hw => ?_, fun _ => PRes.tup hd dl.cut r⟩)
    rw [cutD_whole _ _ _ (by rw [← dl.len]; exact hw)] at r
    exact r.old hd ⟨trivial, .tup ha dl⟩
  | str s =>
    unfold fSl at fx
    simp only at fx
    split at fx
    · cases fx; exact .inr (.inr ⟨s, rfl, line65536 (by assumption), r.str hd⟩)
    · cases fx
  | _ => cases fx
def fRev (x : D) : Option (Bool × D) := match x with
  | .lst ds => some1 (.lst ds.reverse)
  | _ => none
theorem DvL.rev {vs : List V} {ds : List D} (h : DvL W S H vs ds) : DvL W S H vs.reverse ds.reverse := by
  induction ds generalizing vs with
  | nil => cases h; exact .nil
  | cons d ds ih => cases h with
    | cons t dv r =>
      rw [List.reverse_cons, List.reverse_cons]
      exact (ih r).app (.cons t dv .nil)
theorem x_rev {e : Expr} {ra : Run} {k : Nat} {p1 p2 p3 pos : Pos} (hK : X.K = W.K) (he : PE X e (TV W ra)) : PE X (.Subscript e (.Slice none none (some (.UnaryOp .USub (.Constant (.int 1) k p1) p2)) p3) pos) (TV W (run1 ra fRev)) := by
  refine pe_weak (pe_revL he) fun σ H Q h => tv1 (r := fun x H1 Q => ∃ a xs, x = .ref a ∧ SqL X.K H1 a xs ∧ ∀ p, H1 p = none → Q (.ref p) (upd H1 p (.lst xs.reverse))) (f := fRev) ?_ h
  intro S H x d c Q hd hx hf r
  unfold fRev at hf
  split at hf
  · cases hf
    cases hx with
    | lst ha dl => exact ⟨_, _, rfl, by rw [hK]; exact SqL.of ha, PRes.lst hd dl.rev r⟩
  · cases hf

/-! ### chains -/
def rChn (f f' : D → D → Option (Bool × D)) (ra rb rc : Run) : Run := fun en => (ra en).bind fun a => (rb a.2).bind fun b => (T.ofOpt (boolOf (((frc b.2 a.1.fz).bind fun x => (frc b.2 b.1.fz).bind fun y => f x y).map (·.2)))).bind fun k =>
  if k then (rc b.2).bind fun c => ret1 ((frc c.2 b.1.fz).bind fun y => (frc c.2 c.1.fz).bind fun z => f' y z) c.2 else .ret (.v (.bl false), b.2)
theorem tv_chn {r r' : R2} {f f' : D → D → Option (Bool × D)} {ra rb rc : Run} (hr : Pure2 W r f) (hr' : Pure2 W r' f') {σ : St} {H : Hp} {Q : VK} (h : TV W (rChn f f' ra rb rc) σ H Q) : tChain r r' (TV W ra) (TV W rb) (TV W rc) σ H Q := by
  obtain ⟨S, P, en, R, w⟩ := h
  refine TV.use R w fun c1 v H1 S1 P1 e1 R1 p1 q => ?_
  refine TV.use R1 q fun c2 u H2 S2 P2 e2 R2 p2 q2 => ?_
  obtain ⟨k, ek, q3⟩ := T.wp_ofOpt ((T.wp_bind _ _ _).mp q2)
  have ek := boolOf_some ek
  rw [Option.map_eq_some_iff] at ek
  obtain ⟨⟨fl, d3⟩, ek, e4⟩ := ek
  have e4 : d3 = .bl k := e4
  subst e4
  obtain ⟨x, ex, ek⟩ := Option.bind_eq_some_iff.mp ek
  obtain ⟨y, ey, fx⟩ := Option.bind_eq_some_iff.mp ek
  refine hr S2 H2 v u x y (fl, .bl k) _ R2.dom ((p1.ext R1 e2).now R2 ex) (p2.now R2 ey) fx (R2.res fun v' H' S' P' e' R' ok => ?_)
  have hk : v' = .bl k := by
    cases fl with
    | false => exact dv_bl ok.2
    | true => exact dv_bl ok.1
  refine ⟨k, hk, ?_⟩
  cases k with
  | false => exact q3 _ H' S' P' (e1.trans (e2.trans e')) R' ⟨trivial, .bl _⟩
  | true =>
    refine TV.use R' q3 fun c3 w3 H3 S3 P3 e3 R3 p3 q4 => ?_
    obtain ⟨z, ez, qz⟩ := wp_ret1 q4
    obtain ⟨y2, ey2, ez⟩ := Option.bind_eq_some_iff.mp ez
    obtain ⟨z2, ez2, fz⟩ := Option.bind_eq_some_iff.mp ez
    exact hr' S3 H3 u w3 y2 z2 z Q R3.dom (((p2.ext R2 e').ext R' e3).now R3 ey2) (p3.now R3 ez2) fz (R3.res fun v'' H'' S'' P'' e'' R'' ok' => qz v'' H'' S'' P'' (e1.trans (e2.trans (e'.trans (e3.trans e'')))) R'' ok')

/-! ### built-in functions -/
def fLen (ds : List D) : Option (Bool × D) := match ds with
  | [.lst xs] => some0 (.int xs.length)
  | [.tup xs] => some0 (.int xs.length)
  | [.str s] => if s.length ≤ 65536 then some0 (.int s.length) else none
  | [.scr n] => some0 (.int n)
  | _ => none
def rLenAll (K : PySem.W.Frag) : List V → Hp → VK → Prop := fun xs H Q => (∃ p ys, xs = [.ref p] ∧ (SqL K H p ys ∨ SqT K H p ys) ∧ Q (.int ys.length) H) ∨ ∃ z, xs = [.str z] ∧ z.length ≤ sizeLine ∧ Q (.int z.length) H
theorem cr_lenAll : CallR X (.builtin "len") (rLenAll X.K) := call_len_seq.or call_len_str
theorem DvA.one {vs : List V} {d : D} (h : DvA W S H vs [d]) : ∃ v, vs = [v] ∧ Dv W S H v d := by
  match vs, h with
  | [v], h => exact ⟨v, rfl, h.1⟩
theorem DvA.two {vs : List V} {d e : D} (h : DvA W S H vs [d, e]) : ∃ v u, vs = [v, u] ∧ Dv W S H v d ∧ Dv W S H u e := by
  match vs, h with
  | [v, u], h => exact ⟨v, u, rfl, h.1, h.2.1⟩
theorem p_len : PureN W (rLenAll W.K) fLen := by
  intro S H vs ds c Q hd h hf r
  unfold fLen at hf
  split at hf
  · obtain ⟨v, rfl, dv⟩ := h.one
    cases hf
    cases dv with
    | lst ha dl => exact .inl ⟨_, _, rfl, .inl (SqL.of ha), by rw [dl.len]; exact r.int hd⟩
  · obtain ⟨v, rfl, dv⟩ := h.one
    cases hf
    cases dv with
    | tup ha dl => exact .inl ⟨_, _, rfl, .inr (tup_sq ha), by rw [dl.len]; exact r.int hd⟩
  · split at hf
    · obtain ⟨v, rfl, dv⟩ := h.one
      cases hf
      cases dv
      exact .inr ⟨_, rfl, line65536 (by assumption), r.int hd⟩
    · cases hf
  · obtain ⟨v, rfl, dv⟩ := h.one
    cases hf
    cases dv with
    | scr ha => exact .inl ⟨_, _, rfl, .inl (ha.elim (fun z => z.2) fun z => z _), r.int hd⟩
  · cases hf
def boolsOf : List D → Option (List Bool)
  | [] => some []
  | .bl b :: ds => (boolsOf ds).bind fun bs => some (b :: bs)
  | _ => none
theorem DvL.bools {vs : List V} {ds : List D} {bs : List Bool} (h : DvL W S H vs ds) (e : boolsOf ds = some bs) : vs = bs.map V.bl := by
  induction ds generalizing vs bs with
  | nil => cases h; cases e; rfl
  | cons d ds ih =>
    cases h with
    | cons t dv r =>
      cases dv <;> first | (cases e; done) | skip
      obtain ⟨bs', e1, e2⟩ := Option.bind_eq_some_iff.mp e
      cases e2
      rw [ih r e1]
      rfl
def fAll (ds : List D) : Option (Bool × D) := match ds with
  | [.lst xs] => (boolsOf xs).bind fun bs => some0 (.bl (bs.all id))
  | _ => none
def fAny (ds : List D) : Option (Bool × D) := match ds with
  | [.lst xs] => (boolsOf xs).bind fun bs => some0 (.bl (bs.any id))
  | _ => none
theorem p_all : PureN W (rAll W.K) fAll := by
  intro S H vs ds c Q hd h hf r
  unfold fAll at hf
  split at hf
  · obtain ⟨v, rfl, dv⟩ := h.one
    obtain ⟨bs, e1, e2⟩ := Option.bind_eq_some_iff.mp hf
    cases e2
    cases dv with
    | lst ha dl => exact ⟨_, bs, rfl, by rw [← dl.bools e1]; exact SqL.of ha, r.bl hd⟩
  · cases hf
theorem p_any : PureN W (rAny W.K) fAny := by
  intro S H vs ds c Q hd h hf r
  unfold fAny at hf
  split at hf
  · obtain ⟨v, rfl, dv⟩ := h.one
    obtain ⟨bs, e1, e2⟩ := Option.bind_eq_some_iff.mp hf
    cases e2
    cases dv with
    | lst ha dl => exact ⟨_, bs, rfl, by rw [← dl.bools e1]; exact SqL.of ha, r.bl hd⟩
  · cases hf
def fList (ds : List D) : Option (Bool × D) := match ds with
  | [.lst xs] => some1 (.lst xs)
  | [.tup xs] => some1 (.lst xs)
  | _ => none
theorem p_list : PureN W (fun xs H Q => ∃ p ys, xs = [.ref p] ∧ (SqL W.K H p ys ∨ SqT W.K H p ys) ∧ ∀ l, H l = none → Q (.ref l) (upd H l (.lst ys))) fList := by
  intro S H vs ds c Q hd h hf r
  unfold fList at hf
  split at hf
  · obtain ⟨v, rfl, dv⟩ := h.one
    cases hf
    cases dv with
    | lst ha dl => exact ⟨_, _, rfl, .inl (SqL.of ha), PRes.lst hd dl r⟩
  · obtain ⟨v, rfl, dv⟩ := h.one
    cases hf
    cases dv with
    | tup ha dl => exact ⟨_, _, rfl, .inr (tup_sq ha), PRes.lst hd dl r⟩
  · cases hf
def fTuple (ds : List D) : Option (Bool × D) := match ds with
  | [.lst xs] => some0 (.tup xs)
  | [.tup xs] => some0 (.tup xs)
  | _ => none
theorem p_tuple : PureN W (fun xs H Q => ∃ p ys, xs = [.ref p] ∧ ((SqL W.K H p ys ∧ ∀ l, H l = none → Q (.ref l) (upd H l (.tup ys))) ∨ (SqT W.K H p ys ∧ Q (.ref p) H))) fTuple := by
  intro S H vs ds c Q hd h hf r
  unfold fTuple at hf
  split at hf
  · obtain ⟨v, rfl, dv⟩ := h.one
    cases hf
    cases dv with
    | lst ha dl => exact ⟨_, _, rfl, .inl ⟨SqL.of ha, PRes.tup hd dl r⟩⟩
  · obtain ⟨v, rfl, dv⟩ := h.one
    cases hf
    cases dv with
    | tup ha dl => exact ⟨_, _, rfl, .inr ⟨tup_sq ha, r.old hd ⟨trivial, .tup ha dl⟩⟩⟩
  · cases hf
def fIntT (ds : List D) : Option (Bool × D) := match ds with
  | [.int i] => some0 (.int i)
  | [.bl b] => some0 (.int (if b then 1 else 0))
  | _ => none
theorem p_intT : PureN W (fun xs H Q => (∃ i, xs = [.int i] ∧ Q (.int i) H) ∨ ∃ k, xs = [.bl k] ∧ Q (.int (if k then 1 else 0)) H) fIntT := by
  intro S H vs ds c Q hd h hf r
  unfold fIntT at hf
  split at hf
  · obtain ⟨v, rfl, dv⟩ := h.one
    cases hf; cases dv; exact .inl ⟨_, rfl, r.int hd⟩
  · obtain ⟨v, rfl, dv⟩ := h.one
    cases hf; cases dv; exact .inr ⟨_, rfl, r.int hd⟩
  · cases hf
def fMin2 (ds : List D) : Option (Bool × D) := match ds with
  | [.int i, .int j] => some0 (.int (if j < i then j else i))
  | _ => none
theorem p_min2 : PureN W (fun xs H Q => ∃ i j, xs = [.int i, .int j] ∧ Q (.int (if j < i then j else i)) H) fMin2 := by
  intro S H vs ds c Q hd h hf r
  unfold fMin2 at hf
  split at hf
  · obtain ⟨v, u, rfl, dv, du⟩ := h.two
    cases hf; cases dv; cases du; exact ⟨_, _, rfl, r.int hd⟩
  · cases hf
end
end Sx
set_option Elab.async false
set_option linter.all false
set_option maxRecDepth 100000
set_option maxHeartbeats 4000000
set_option autoImplicit false
namespace Sx
open PySem L2
open PySem.W (EachIs dataLe dataLt alike AllAlike Sortable)

section
variable {W : Wd} {S P : Addr → Prop} {H : Hp} {X : Cx} {Q : VK} {v : V} {d : D} {en : En} {σ : St}
/-! ### sorted -/
def keyD (d : D) : PyData := (py d).getD .none
def leD (a b : D) : Bool := !dataLt (keyD b) (keyD a)
def pairsAll (f : PyData → PyData → Bool) (ps : List PyData) : Bool := ps.all fun p => ps.all fun q => f p q
def tup1 (p : PyData) : Bool := match p with
  | .tuple (_ :: _) => true
  | _ => false
def flat1 (p : PyData) : Bool := match p with
  | .tuple _ => false
  | .none => false
  | _ => true
def sortOk (ps : List PyData) : Bool := ps.all (fun p => decide (p.depth ≤ 50)) && pairsAll alike ps && (ps.all tup1 || ps.all flat1)
def fSorted (ds : List D) : Option (Bool × D) := match ds with
  | [.lst xs] => (pyL xs).bind fun ps => if sortOk ps && decide (xs.length ≤ 4096) then some1 (.lst (xs.mergeSort leD)) else none
  | _ => none
def rSortP (K : PySem.W.Frag) : List V → Hp → VK → Prop := fun vs H Q => ∃ (a : Addr) (xs : List V) (ps : List PyData), vs = [.ref a] ∧ SqL K H a xs ∧ DpAll K H xs ps ∧ AllAlike ps ∧ Sortable ps ∧ (∀ p ∈ ps, p.depth ≤ 50) ∧
  ∀ q, H q = none → Q (.ref q) (upd H q (.lst (((xs.zip ps).mergeSort (dataLe false fun z : V × PyData => z.2)).map (·.1))))
theorem each_zip {R : Value → PyData → Prop} : ∀ {us : List Value} {xs : List V} {ps : List PyData}, Vals xs us → EachIs R us ps → xs.length = ps.length → EachIs (fun u (z : V × PyData) => RelV z.1 u ∧ R u z.2) us (xs.zip ps)
  | [], [], [], .nil, _, _ => .nil
  | u :: us, x :: xs, p :: ps, .cons r t, .cons r2 t2, e => .cons ⟨r, r2⟩ (each_zip t t2 (by simpa using e))
theorem each_reads {h : Heap} : ∀ {us : List Value} {ps : List PyData} {as : List Addr}, ReadsAll h us ps as → EachIs (fun u p => ∃ as, Reads h u p as) us ps
  | _, _, _, .nil => .nil
  | _, _, _, .cons r t => .cons ⟨_, r⟩ (each_reads t)
theorem each_vals : ∀ {us : List Value} {zs : List (V × PyData)}, EachIs (fun u (z : V × PyData) => RelV z.1 u) us zs → Vals (zs.map (·.1)) us
  | _, _, .nil => .nil
  | _, _, .cons r t => .cons r (each_vals t)
theorem cr_sortP (hu : X.A.units + 64 < cLine) : CallR X (.builtin "sorted") (rSortP X.K) := by
  intro pins s σ H vs us Q I r h
  obtain ⟨a, xs, ps, rfl, hs, dp, hal, hk, hdp, q⟩ := h
  obtain ⟨u, rfl, ru⟩ := vals1 r
  cases ru
  obtain ⟨its, rv, pl, hz⟩ := I.list hs
  obtain ⟨as, ra⟩ := Dp.readsAll I ps xs its dp rv
  have e0 := each_reads ra
  have hlen : xs.length = ps.length := by rw [rv.length, e0.length]
  have e1 := each_zip rv e0 hlen
  have hsnd : (xs.zip ps).map (fun z : V × PyData => z.2) = ps := by
    have := List.map_snd_zip (l₁ := xs) (l₂ := ps) (by omega)
    exact this
  refine PySem.W.sorted_data (vs := its) (bs := xs.zip ps) (enc := fun z => z.2) (R := fun u z => RelV z.1 u) pl.isList (e1.mono fun _ _ h => h.1) (e1.mono fun _ _ h => h.2) (by rw [hsnd]; exact hal) (by rw [hsnd]; exact hk) (by rw [List.length_zip]; omega) (fun b hb => ?_) fun out hl he => ?_
  · have : b.2 ∈ ps := by rw [← hsnd]; exact List.mem_map.mpr ⟨b, hb, rfl⟩
    have := hdp _ this
    show X.A.units + 2 + b.2.depth < cLine
    omega
  · obtain ⟨e, hat⟩ := PyProof.Rows.sortedAll_at s.heap its out.toArray
    have keep : ∀ b o, s.heap.get? b = some o → (PyProof.Rows.sortedAll s.heap its out.toArray).get? b = some o := fun b o h => PyProof.Rows.sortedAll_old h
    have hle : s.heap.objs.size ≤ s.heap.objs.size + 1 := Nat.le_succ _
    refine ⟨.ref (s.heap.objs.size + 1), _, I.laid (t' := s.toks) (a := s.heap.objs.size + 1) (o := .lst (((xs.zip ps).mergeSort (dataLe false fun z : V × PyData => z.2)).map (·.1))) keep hle ⟨?_, out, e, each_vals he, ?_⟩, rfl, q _ (I.hok.fresh hle)⟩
    · rw [List.length_map, List.length_mergeSort, List.length_zip]; omega
    · exact hat
theorem all_pairs {f : PyData → PyData → Bool} {ps : List PyData} (h : pairsAll f ps = true) : ∀ p ∈ ps, ∀ q ∈ ps, f p q = true := fun p hp q hq => List.all_eq_true.mp (List.all_eq_true.mp h p hp) q hq
theorem sortOk_to {ps : List PyData} (h : sortOk ps = true) : AllAlike ps ∧ Sortable ps ∧ ∀ p ∈ ps, p.depth ≤ 50 := by
  unfold sortOk at h
  simp only [Bool.and_eq_true, Bool.or_eq_true] at h
  obtain ⟨⟨h1, h2⟩, h3⟩ := h
  refine ⟨all_pairs h2, ?_, fun p hp => of_decide_eq_true (List.all_eq_true.mp h1 p hp)⟩
  rcases h3 with h3 | h3
  · refine .inl fun p hp => ?_
    have := List.all_eq_true.mp h3 p hp
    unfold tup1 at this
    split at this
    · exact ⟨_, _, rfl⟩
    · cases this
  · refine .inr fun p hp => ?_
    have := List.all_eq_true.mp h3 p hp
    unfold flat1 at this
    split at this
    · cases this
    · cases this
    · rename_i h1 h2; exact ⟨fun z => h2 z, fun xs z => h1 xs z⟩
/-- values beside data, in one order -/
theorem DvL.both : ∀ {vs : List V} {ds : List D}, DvL W S H vs ds → ∃ zs : List (V × D), zs.map (·.1) = vs ∧ zs.map (·.2) = ds ∧ ∀ z ∈ zs, Dz W S H z.1 z.2
  | _, _, .nil => ⟨[], rfl, rfl, fun _ h => by simp at h⟩
  | _, _, .cons (v := v) (d := d) t dv r => by
    obtain ⟨zs, e1, e2, hz⟩ := DvL.both r
    refine ⟨(v, d) :: zs, by simp [e1], by simp [e2], fun z h => ?_⟩
    rcases List.mem_cons.mp h with rfl | h
    · exact ⟨t, dv⟩
    · exact hz z h
theorem DvL.ofBoth : ∀ {zs : List (V × D)}, (∀ z ∈ zs, Dz W S H z.1 z.2) → DvL W S H (zs.map (·.1)) (zs.map (·.2))
  | [], _ => .nil
  | z :: zs, h => .cons (h z List.mem_cons_self).1 (h z List.mem_cons_self).2 (DvL.ofBoth fun y hy => h y (List.mem_cons_of_mem _ hy))
theorem pyL_key {ds : List D} {ps : List PyData} (h : pyL ds = some ps) : ps = ds.map keyD := by
  induction ds generalizing ps with
  | nil => cases h; rfl
  | cons d ds ih =>
    obtain ⟨p, e1, h⟩ := Option.bind_eq_some_iff.mp h
    obtain ⟨qs, e2, h⟩ := Option.bind_eq_some_iff.mp h
    cases h
    rw [ih e2]
    show p :: _ = keyD d :: _
    unfold keyD
    rw [e1]
    rfl
theorem p_sorted : PureN W (rSortP W.K) fSorted := by
  intro S H vs ds c Q hd h hf r
  unfold fSorted at hf
  split at hf
  · rename_i xs
    obtain ⟨v, rfl, dv⟩ := h.one
    obtain ⟨ps, e1, e2⟩ := Option.bind_eq_some_iff.mp hf
    split at e2
    · rename_i hok
      cases e2
      simp only [Bool.and_eq_true, decide_eq_true_eq] at hok
      obtain ⟨s1, s2, s3⟩ := sortOk_to hok.1
      cases dv with
      | lst ha dl =>
        obtain ⟨zs, z1, z2, hz⟩ := dl.both
        refine ⟨_, _, ps, rfl, SqL.of ha, dl.dp e1, s1, s2, s3, ?_⟩
        have hps := pyL_key e1
        have hzip : ∀ xs', zs.map (·.1) = xs' → xs'.zip ps = zs.map fun z => (z.1, keyD z.2) := by
          intro xs' e
          rw [hps, ← z2, ← e, List.map_map, List.zip_map']
          rfl
        rw [hzip _ z1]
        have m1 : (zs.map fun z => (z.1, keyD z.2)).mergeSort (dataLe false fun z : V × PyData => z.2) = (zs.mergeSort fun a b => leD a.2 b.2).map fun z => (z.1, keyD z.2) := by
          rw [List.map_mergeSort (f := fun z : V × Sx.D => (z.1, keyD z.2)) (r := fun a b => leD a.2 b.2) (s := dataLe false fun z : V × PyData => z.2)]
          intro a _ b _
          rfl
        have m2 : (zs.mergeSort fun a b => leD a.2 b.2).map (·.2) = xs.mergeSort leD := by
          rw [List.map_mergeSort (f := fun z : V × Sx.D => z.2) (r := fun a b => leD a.2 b.2) (s := leD)]
          · rw [z2]
          · intro a _ b _; rfl
        rw [m1, List.map_map]
        have dl2 : DvL W S H ((zs.mergeSort fun a b => leD a.2 b.2).map (·.1)) (xs.mergeSort leD) := by
          rw [← m2]
          exact DvL.ofBoth fun z hz' => hz z ((List.mergeSort_perm zs _).mem_iff.mp hz')
        exact PRes.lst hd dl2 r
    · cases e2
  · cases hf

/-! ### isinstance -/
def tyN : D → Option String
  | .non => some "NoneType"
  | .bl _ => some "bool"
  | .int _ => some "int"
  | .str _ => some "str"
  | .lst _ => some "list"
  | .tup _ => some "tuple"
  | .dK _ => some "dict"
  | .dT _ => some "dict"
  | _ => none
def tyAs : List String := ["NoneType", "bool", "int", "str", "list", "tuple", "dict"]
def tyBs : List String := ["bool", "int", "str", "list", "tuple", "dict"]
def isB (t n : String) : Bool := t == n || (t == "bool" && n == "int")
theorem kit_all : tyAs.all (fun t => tyBs.all fun n => kitB t n == some (isB t n)) = true := by decide +kernel
theorem kit_at {t n : String} (ht : t ∈ tyAs) (hn : n ∈ tyBs) : kitB t n = some (isB t n) := eq_of_beq (List.all_eq_true.mp (List.all_eq_true.mp kit_all t ht) n hn)
theorem tyN_mem {d : D} {t : String} (h : tyN d = some t) : t ∈ tyAs := by
  unfold tyN at h
  split at h <;> first | (cases h; decide) | cases h
theorem tyN_is {v : V} {d : D} {t : String} (h : Dv W S H v d) (e : tyN d = some t) : TyX W.K H v (.type t) := by
  cases h with
  | non => cases e; exact .base .non
  | bl b => cases e; exact .base (.bl b)
  | int i => cases e; exact .base (.int i)
  | str x => cases e; exact .base (.str x)
  | lst ha _ => cases e; exact .base (.lst ha)
  | tup ha _ =>
    cases e
    rcases ha with ⟨_, ha⟩ | (ha | ⟨_, ha⟩) | ⟨o, its, n, h1, h2, _⟩
    · exact .base (.tup ha)
    · cases ha
    · cases ha
    · exact .kTuple h1 h2
  | dK ha _ =>
    cases e
    rcases ha with ha | ⟨o, ha⟩
    · exact .base (.dK ha)
    · exact .fDict ha
  | dT ha _ => cases e; exact .base (.dT ha)
  | _ => cases e
def tysOf : List D → Option (List String)
  | [] => some []
  | .ty n :: ds => if n ∈ tyBs then (tysOf ds).bind fun ns => some (n :: ns) else none
  | _ => none
def fIsi (ds : List D) : Option (Bool × D) := match ds with
  | [x, .ty n] => (tyN x).bind fun t => if n ∈ tyBs then some0 (.bl (isB t n)) else none
  | [x, .tup cs] => (tyN x).bind fun t => (tysOf cs).bind fun ns => some0 (.bl (ns.any fun n => isB t n))
  | _ => none
theorem kitAny_tys {K : PySem.W.Frag} {t : String} (ht : t ∈ tyAs) : ∀ {ns : List String}, (∀ n ∈ ns, n ∈ tyBs) → PySem.W.kitAny K (.type t) (ns.map Value.type) = some (ns.any fun n => isB t n)
  | [], _ => rfl
  | n :: ns, h => by
    have e1 : PySem.W.kitOne K (.type t) (.type n) = some (isB t n) := kit_ty (kit_at ht (h n List.mem_cons_self))
    refine kitAny_cons e1 (fun z => ?_) (fun z => ?_)
    · rw [List.any_cons, z, Bool.false_or]
      exact kitAny_tys ht fun m hm => h m (List.mem_cons_of_mem _ hm)
    · rw [List.any_cons, z]; rfl
theorem tys_of {vs : List V} {cs : List D} {ns : List String} (h : DvL W S H vs cs) (e : tysOf cs = some ns) : vs = ns.map V.ty ∧ ∀ n ∈ ns, n ∈ tyBs := by
  induction cs generalizing vs ns with
  | nil => cases h; cases e; exact ⟨rfl, fun _ h => by simp at h⟩
  | cons d cs ih =>
    cases h with
    | cons t dv r =>
      cases d <;> first | (cases e; done) | skip
      rename_i n
      have e : (if n ∈ tyBs then (tysOf cs).bind fun ns => some (n :: ns) else none) = some ns := e
      split at e
      · rename_i hn
        obtain ⟨ns', e1, e2⟩ := Option.bind_eq_some_iff.mp e
        cases e2
        cases dv
        obtain ⟨a, b⟩ := ih r e1
        exact ⟨by rw [a]; rfl, fun m hm => (List.mem_cons.mp hm).elim (fun z => z ▸ hn) (b m)⟩
      · cases e
theorem paired_tys : ∀ ns : List String, Paired ClsV (ns.map V.ty) (ns.map Value.type)
  | [] => .nil
  | n :: ns => .cons (.ty n) (paired_tys ns)
theorem vals_tys : ∀ {ns : List String} {us : List Value}, Vals (ns.map V.ty) us → us = ns.map Value.type
  | [], _, .nil => rfl
  | n :: ns, _, .cons r t => by
    have e : _ = Value.type n := r
    rw [e, vals_tys t]
    rfl
theorem p_isi : PureN W (fun xs H Q => rIsi W.K xs H Q ∨ (rIsiT W.K xs H Q ∨ rIsiK W.K xs H Q)) fIsi := by
  intro S H vs ds c Q hd h hf r
  unfold fIsi at hf
  split at hf
  · obtain ⟨v, u, rfl, dv, du⟩ := h.two
    obtain ⟨t, e1, e2⟩ := Option.bind_eq_some_iff.mp hf
    split at e2
    · rename_i hn
      cases e2
      cases du
      exact .inl ⟨v, _, _, _, _, rfl, .ty _, tyN_is dv e1, kit_ty (kit_at (tyN_mem e1) hn), r.bl hd⟩
    · cases e2
  · obtain ⟨v, u, rfl, dv, du⟩ := h.two
    obtain ⟨t, e1, e2⟩ := Option.bind_eq_some_iff.mp hf
    obtain ⟨ns, e3, e4⟩ := Option.bind_eq_some_iff.mp e2
    cases e4
    cases du with
    | tup ha dl =>
      obtain ⟨hv, hn⟩ := tys_of dl e3
      subst hv
      have ka := kitAny_tys (K := W.K) (tyN_mem e1) hn
      rcases ha with ⟨_, ha⟩ | (ha | ⟨_, ha⟩) | ⟨o, its, n, h1, h2, h3, _, h5⟩
      · exact .inr (.inl ⟨v, _, _, _, _, _, rfl, ha, paired_tys ns, tyN_is dv e1, ka, r.bl hd⟩)
      · cases ha
      · cases ha
      · obtain ⟨oc, od, dt, sl⟩ := o
        simp only at h2 h3
        subst h2 h3
        have hi := vals_tys h5
        refine .inr (.inr ⟨v, _, od, ns.map Value.type, n, sl, _, _, rfl, ?_, tyN_is dv e1, ka, r.bl hd⟩)
        rw [← hi]
        exact h1
  · cases hf
theorem cr_isiAll : CallR X (.builtin "isinstance") (fun xs H Q => rIsi X.K xs H Q ∨ (rIsiT X.K xs H Q ∨ rIsiK X.K xs H Q)) := call_isi.or (call_isiT.or call_isiK)

/-! ### join, repr -/
def strsOf : List D → Option (List Str)
  | [] => some []
  | .str x :: ds => (strsOf ds).bind fun xs => some (x :: xs)
  | _ => none
theorem DvL.strs {vs : List V} {ds : List D} {xs : List Str} (h : DvL W S H vs ds) (e : strsOf ds = some xs) : vs = xs.map V.str := by
  induction ds generalizing vs xs with
  | nil => cases h; cases e; rfl
  | cons d ds ih =>
    cases h with
    | cons t dv r =>
      cases dv <;> first | (cases e; done) | skip
      obtain ⟨bs', e1, e2⟩ := Option.bind_eq_some_iff.mp e
      cases e2
      rw [ih r e1]
      rfl
end
end Sx
set_option Elab.async false
set_option linter.all false
set_option maxRecDepth 100000
set_option maxHeartbeats 4000000
set_option autoImplicit false
namespace Sx
open PySem L2 PyProof.Rows
/-! ### defs whose calls know that no repr is running -/
def NoG (A : Around) : Prop := A.guards = some []
structure FnG (Pr : Program) (w : World) (K : PySem.W.Frag) (mg : Str → Option Value) (base : Heap) (CX : CXT) (k : Nat) (f : Addr) (fd : FuncData) (ps : List Str) (sp : Sp) : Prop where
  len : ∀ vs H Q E, sp vs H Q E → vs.length = ps.length
  go : ∀ {A : Around} {outer : List Env} {s : Shared} {H : Hp} {args : Args} {us : List Value} {vs : List V} {Q : VK} {E : XK}, Room k A → NoG A → Env0 Pr w K mg base A outer s H → BindsTo s fd args (ps.zip us) → Vals vs us → sp vs H Q E → codeAny (model Pr w) A (.call (.ref f) args) (CR CX outer Pr w H s Q E) s
section
variable {Pr : Program} {w : World} {K : PySem.W.Frag} {mg : Str → Option Value} {base : Heap} {CX : CXT} {k : Nat} {f : Addr} {fd : FuncData} {ps N : List Str} {sp : Sp}
theorem FnG.mono {j : Nat} (F : FnG Pr w K mg base CX j f fd ps sp) (h : j ≤ k) : FnG Pr w K mg base CX k f fd ps sp := ⟨F.len, fun r g e b v q => F.go (r.mono h) g e b v q⟩
theorem FnG.imp {sp' : Sp} (F : FnG Pr w K mg base CX k f fd ps sp) (h : ∀ vs H Q E, sp' vs H Q E → sp vs H Q E) : FnG Pr w K mg base CX k f fd ps sp' := ⟨fun vs H Q E q => F.len vs H Q E (h _ _ _ _ q), fun r g e b v q => F.go r g e b v (h _ _ _ _ q)⟩
/-- a def's body keeps its promise -/
theorem fnG_of {x qual : Str} {st : Stmt} (F : Fun K x qual st f fd) (S : FnScope N ps (defScope st)) (len : ∀ vs H Q E, sp vs H Q E → vs.length = ps.length)
    (hb : ∀ (cdv : Value) (A : Around) (outer : List Env) (s : Shared) (H : Hp) (vs : List V) (Q : VK) (E : XK), Room k (A.deeper (envOfC qual (defScope st) s.heap.objs.size f cdv)) → NoG (A.deeper (envOfC qual (defScope st) s.heap.objs.size f cdv)) → sp vs H Q E →
      ∃ t, PSs (cxOf CX Pr w K mg base N qual (defScope st) f cdv A outer s H E) (defBody st) t ∧ t { nx := fun _ H' => Q .non H', rt := Q } (L2.start N vs) H) : FnG Pr w K mg base CX (k + 1) f fd ps sp := by
  obtain ⟨oc, od, kV, doc, pm, an, cdv, ct, osl, rfl, lk, hcd⟩ := F.ex
  refine ⟨len, fun {A outer s H args us vs Q E} hr hg e0 hbd r hsp => ?_⟩
  have hl := len vs H Q E hsp
  have kin : K.In s.heap := e0.mod.kin.keeps fun b o e => (e0.bs b o e).1
  have hkind : ∀ y ∈ ps.zip us, (defScope st).names.lookup y.1 = some .local ∨ ((defScope st).names.lookup y.1 = some .cell ∧ ((cellsFrom (s.heap.objs.size + 1) (defScope st).names []).lookup y.1).isSome = true) := fun y hy =>
    (S.par y.1 (List.of_mem_zip (a := y.1) (b := y.2) hy).1).imp id fun q => ⟨q, PySem.W.cellsFrom_some _ _ _ (.inl q)⟩
  refine codeAny_call_function hr.depth (kin _ _ lk) rfl S.co S.gen rfl (PySem.W.codeRec_of kin hcd) (hbd _ _ _ _ (wpAny_newFunctionEnv_cells S.kind hkind fun env he s1 x => ?_))
  subst he
  refine ⟨(e0.mod.nolimit.keeps fun b o e => (e0.bs b o e).1).keeps x.toInCall.keep, codeAny_func ?_⟩
  obtain ⟨t, ht, hq⟩ := hb cdv A outer s H vs Q E (hr.deeper _) hg hsp
  have I : Inv (cxOf CX Pr w K mg base N qual (defScope st) f cdv A outer s H E) [] (L2.start N vs) H s1 := inv_start S hr.hd e0 hl r x
  refine wpAny_mono (ht.run [] s1 (L2.start N vs) H _ I hq) (fun fl s' hs => ?_) fun e s' hs => hs
  have fin : ∀ {σ' : L2.St} {H' : Hp} {v : V} {u : Value}, Inv (cxOf CX Pr w K mg base N qual (defScope st) f cdv A outer s H E) [] σ' H' s' → RelV v u → Q v H' → CE outer Pr w H s Q u s' := fun {_ H' v _} J rv q => ⟨v, H', J.os, J.bare, J.base, J.hok, rv, q⟩
  match fl, hs with
  | .ret u, ⟨v, σ', H', J, rv, q⟩ => exact fin J rv q
  | .next, ⟨σ', H', J, q⟩ => exact fin (v := V.non) (u := Value.none) J rfl q
  | .brk, ⟨_, _, _, q⟩ => exact q.elim
  | .cont, ⟨_, _, _, q⟩ => exact q.elim
end

section
variable {X : Cx} {CX : CXT} {k : Nat} {f C : Addr} {fd : FuncData} {ps ks : List Str} {sp : Sp} {dvs : List V} {ds : List Value} {E : XK} {x m : Str} {p pos apos : Pos} {e o : Expr} {es : List Expr} {kws : List Keyword} {ta : TE} {t tk : TA}
theorem runG {pins : List (Addr × Obj)} {σ : L2.St} {H : Hp} {s : Shared} {Q : VK} {us us' : List Value} {kw : List (Str × Value)} {vs' : List V} (F : FnG X.prog X.w X.K X.mg X.base CX k f fd ps sp) (hr : Room k X.A) (hg : NoG X.A) (hx : Passes CX X E) (I : Inv X pins σ H s)
    (hb : BindsTo s fd ⟨us, kw⟩ (ps.zip us')) (r : Vals vs' us') (h : sp vs' H Q E) : wpAny (model X.prog X.w) X.A (PySem.call (.ref f) us kw) (EP X pins σ Q) X.xe s := by
  refine wpAny_call (codeAny_mono (F.go hr hg I.env0 hb r h) fun fl s' hq => ?_)
  cases fl with
  | error e => exact hx pins σ H s e s' I hq
  | ok u => cases u with
    | ret u => exact I.after hq
    | _ => exact False.elim hq
/-- f(e, ..) -/
theorem pe_callG (F : FnG X.prog X.w X.K X.mg X.base CX k f fd ps sp) (hr : Room k X.A) (hg : NoG X.A) (gl : Gl X x) (hm : X.mg x = some (.ref f)) (hk : PySem.W.keepIn X.K (.ref f) = true) (hb : Binds X.K fd ps ds) (hd : Vals dvs ds) (hx : Passes CX X E) (ha : PA X (e :: es) t) (hdb : (x == ("__debug__" : Str)) = false)
    (he : starEach (e :: es) X.env = (false, eval e X.env) :: starEach es X.env) (hpl : (backTo pos (starEach es X.env)).any (·.1) = false) : PE X (.Call (.Name x p) (e :: es) [] pos) (tCall sp dvs E t) := by
  refine ⟨fun pins s σ H Q I h => wpAny_Call_Name_kw (ld_glob I gl hm ?_ hdb)⟩
  refine PySem.W.callWith_K (h₀ := X.base) I.ok.mod.kin hk (thn (ha.run pos pins s σ H _ I h) fun us s1 ⟨vs, H1, I1, r, q⟩ => ⟨I1.kIn, ?_⟩) he hpl
  have r2 : Vals (vs ++ dvs) (us ++ ds) := r.append hd
  exact runG (kw := []) F hr hg hx I1 (hb s1 us I1.kIn (by rw [← r2.length]; exact F.len _ _ _ _ q)) r2 q
/-- f() -/
theorem pe_callG0 (F : FnG X.prog X.w X.K X.mg X.base CX k f fd ps sp) (hr : Room k X.A) (hg : NoG X.A) (gl : Gl X x) (hm : X.mg x = some (.ref f)) (hk : PySem.W.keepIn X.K (.ref f) = true) (hb : Binds X.K fd ps ds) (hd : Vals dvs ds) (hx : Passes CX X E) (hdb : (x == ("__debug__" : Str)) = false) :
    PE X (.Call (.Name x p) [] [] pos) (tCall sp dvs E tNil) := by
  refine ⟨fun pins s σ H Q I h => wpAny_Call_Name_kw (ld_glob I gl hm ?_ hdb)⟩
  exact PySem.W.callWith_K0 I.kIn hk (runG (kw := []) (us := []) F hr hg hx I (hb s [] I.kIn (by rw [List.nil_append, ← hd.length]; exact F.len _ _ _ _ h)) hd h)
variable {g : List Value → List Value → List Value} {gV : List V → List V → List V}
/-- f(e, .., k = v, ..) -/
theorem pe_callGK (F : FnG X.prog X.w X.K X.mg X.base CX k f fd ps sp) (hr : Room k X.A) (hg : NoG X.A) (gl : Gl X x) (hm : X.mg x = some (.ref f)) (hk : PySem.W.keepIn X.K (.ref f) = true) (hb : KBinds X.K fd ps ks g gV) (hx : Passes CX X E) (ha : PA X (e :: es) t) (hkw : PK X kws tk)
    (hall : (backToKw pos (keywordEach kws X.env)).all (·.1.isSome) = true) (hks : (backToKw pos (keywordEach kws X.env)).filterMap (·.1) = ks) (hdb : (x == ("__debug__" : Str)) = false) (he : starEach (e :: es) X.env = (false, eval e X.env) :: starEach es X.env)
    (hpl : ((backTo pos (starEach (e :: es) X.env)).any (·.1) || (backToKw pos (keywordEach kws X.env)).any (·.1.isNone)) = false) : PE X (.Call (.Name x p) (e :: es) kws pos) (tCallK sp gV E t tk) := by
  refine ⟨fun pins s σ H Q I h => wpAny_Call_Name_kw (ld_glob I gl hm ?_ hdb)⟩
  refine PySem.W.callWith_KW (h₀ := X.base) I.ok.mod.kin hk hall (thn (ha.run pos pins s σ H _ I h) fun us s1 ⟨vs, H1, I1, r, q⟩ => ?_) hpl he
  refine thn (hkw.run pos pins s1 σ H1 _ I1 q) fun ws s2 ⟨zs, H2, I2, rz, q2⟩ => ⟨I2.kIn, ?_⟩
  rw [hks]
  have r2 := hb.rel r rz
  exact runG (kw := ks.zip ws) F hr hg hx I2 (hb.to s2 us ws I2.kIn (by rw [← r2.length]; exact F.len _ _ _ _ q2)) r2 q2
/-- f(k = v, ..) -/
theorem pe_callGK0 (F : FnG X.prog X.w X.K X.mg X.base CX k f fd ps sp) (hr : Room k X.A) (hg : NoG X.A) (gl : Gl X x) (hm : X.mg x = some (.ref f)) (hk : PySem.W.keepIn X.K (.ref f) = true) (hb : KBinds X.K fd ps ks g gV) (hx : Passes CX X E) (hkw : PK X kws tk)
    (hall : (backToKw pos (keywordEach kws X.env)).all (·.1.isSome) = true) (hks : (backToKw pos (keywordEach kws X.env)).filterMap (·.1) = ks) (hdb : (x == ("__debug__" : Str)) = false)
    (hpl : ((backTo pos (starEach [] X.env)).any (·.1) || (backToKw pos (keywordEach kws X.env)).any (·.1.isNone)) = false) : PE X (.Call (.Name x p) [] kws pos) (tCallK sp gV E tNil tk) := by
  refine ⟨fun pins s σ H Q I h => wpAny_Call_Name_kw (ld_glob I gl hm ?_ hdb)⟩
  refine PySem.W.callWith_KW0 (h₀ := X.base) I.ok.mod.kin hk hall ?_ hpl
  refine thn (hkw.run pos pins s σ H _ I h) fun ws s2 ⟨zs, H2, I2, rz, q2⟩ => ⟨I2.kIn, ?_⟩
  rw [hks]
  have r2 := hb.rel .nil rz
  exact runG (us := []) (kw := ks.zip ws) F hr hg hx I2 (hb.to s2 [] ws I2.kIn (by rw [← r2.length]; exact F.len _ _ _ _ q2)) r2 q2
end

section
variable {Pr : Program} {w : World} {K : PySem.W.Frag} {mg : Str → Option Value} {base : Heap} {cls : CT}
/-- a def whose body does what run does -/
theorem fn_ok {x qual : Str} {st : Stmt} {f : Addr} {fd : FuncData} {N ps : List Str} {k : Nat} {run : RunS} (F : Fun K x qual st f fd) (Sc : FnScope N ps (defScope st))
    (hb : ∀ (cdv : Value) (A : Around) (outer : List PySem.Env) (s : Shared) (H : Hp) (E : XK), Room k (A.deeper (envOfC qual (defScope st) s.heap.objs.size f cdv)) → NoG (A.deeper (envOfC qual (defScope st) s.heap.objs.size f cdv)) → ∀ W : Wd, W.K = K → W.cls = cls →
      PSs (cxOf CX0 Pr w K mg base N qual (defScope st) f cdv A outer s H E).nox (defBody st) (TVS W run)) : FnG Pr w K mg base CX0 (k + 1) f fd ps (spR K cls ps.length (runFn N.length run)) := by
  refine fnG_of F Sc (fun vs H Q E h => h.1) fun cdv A outer s H vs Q E hr hg h => ?_
  obtain ⟨hl, W, S, ds, hK, hc, dr, tb, dom, n1, n2, dl, wpq⟩ := h
  refine ⟨_, (hb cdv A outer s H E hr hg W hK hc).nox, S, Pall W H, en0 N.length ds, ?_, ?_⟩
  · have hd : ds.length = ps.length := dl.len.symm.trans hl
    refine ⟨fun a h => ⟨dom a h, fun z => n1 (z ▸ h), n2.nb h⟩, fun a h => h.1, fun i f d e => ?_, fun i j f g d e v h1 h2 h3 => ?_, ?_, dr, ⟨fun h => h.2.1 rfl, ⟨fun h => h.2.2.1 rfl, fun x hx h => h.2.2.2 x hx rfl⟩⟩, tb⟩
    · obtain ⟨rfl, hd'⟩ := en0_get e
      obtain ⟨v, hv, dz⟩ := (dl.at (i := i)).2 d hd'
      refine ⟨v, ?_, dz.2, fun _ => dz.1, fun z => absurd rfl z⟩
      unfold L2.start
      rw [List.getElem?_append_left (by simpa using lt_of_get hv), List.getElem?_map, hv]
      rfl
    · exact absurd (en0_get h1).1 h3
    · unfold en0 L2.start
      simp only [List.length_append, List.length_map, List.length_replicate, dl.len]
  · have wpq := (T.wp_bind _ _ _).mp wpq
    refine T.wp_mono wpq fun r q => ?_
    obtain ⟨fl, en⟩ := r
    cases fl with
    | nx => exact fun σ' H' S' P' e R' => q .non H' S' P' e ⟨R'.sp, R'.dom, R'.dr, R'.drP, R'.tb⟩ ⟨.non, fun _ => trivial, fun z => by cases z⟩
    | rt c => exact fun v H' S' P' e ro ok => q v H' S' P' e ro ok
    | bk => exact q.elim
    | ct => exact q.elim
/-- the law's own call -/
theorem law_goG {mb : Str → Option Value} {k : Nat} {fa a : Addr} {fd : FuncData} {x : Str} {sp : Sp} {t : Shared} {us : List Value} {ns : List Int} (kin : K.In t.heap) (g1 : t.heap.Ns mainGlobals mg) (g2 : t.heap.Ns builtinsNs mb) (g3 : ∀ x : Str, x ≠ "__name__" → mb x = bootBuiltins x)
    (lim : t.heap.NoLimit) (gen : t.gens = #[]) (oa : t.heap.get? a = some { cls := .type "list", data := .seq us.toArray }) (ia : IntsAre us ns) (la : ns.length ≤ sizeLine) (hr : Room k callerA)
    (F : ∀ b : Heap, K.In b → b.Ns mainGlobals mg → FnG Pr w K mg b CX0 k fa fd [x] sp) (bd : ∀ (s : Shared) (u : Value), BindsTo s fd ⟨[u], []⟩ [(x, u)])
    (hsp : ∀ G : Hp, Only G → SqL K G a (ns.map V.int) → sp [.ref a] G (fun v _ => v = .bl true) E0) :
    codeAny (model Pr w) callerA (.call (.ref fa) ⟨[.ref a], []⟩) (fun r s' => r = .ok (.ret (.bool true)) ∧ OldK t.heap s'.heap ∧ s'.os = t.os ∧ AllBare s'.gens) t := by
  have rv := vals_ints ia
  have core : ∀ G : Hp, Only G → SqL K G a (ns.map V.int) → HOk Pr w G t.heap → (∀ b u, G b = some u → b = a ∧ K.lookup a = none) → codeAny (model Pr w) callerA (.call (.ref fa) ⟨[.ref a], []⟩) (fun r s' => r = .ok (.ret (.bool true)) ∧ OldK t.heap s'.heap ∧ s'.os = t.os ∧ AllBare s'.gens) t := by
    intro G hO hS hok only
    have free : ∀ {b : Addr} {o : Obj}, t.heap.get? b = some o → (∀ xs n, o.data ≠ .seq xs n) → G b = none := fun {b o} e d => by
      cases q : G b with
      | none => rfl
      | some u =>
        obtain ⟨rfl, _⟩ := only b u q
        rw [oa] at e; cases e
        exact absurd rfl (d _ _)
    have ns_of : ∀ {b : Addr} {m : Str → Option Value}, t.heap.Ns b m → (hidT t.heap G).Ns b m := fun {b m} ⟨o, es, ep, e, d, r⟩ => ⟨o, es, ep, hidT_get e (free e fun xs n z => by rw [d] at z; cases z), d, r⟩
    have kb : K.In (hidT t.heap G) := fun b o e => hidT_get (kin b o e) (by
      cases q : G b with
      | none => rfl
      | some u =>
        obtain ⟨rfl, z⟩ := only b u q
        rw [z] at e; cases e)
    have md : Mod K mg (hidT t.heap G) := ⟨kb, ns_of g1, ⟨mb, ns_of g2, g3⟩, (let ⟨mc, h1, h2⟩ := lim; ⟨mc, ns_of h1, h2⟩)⟩
    have e0 : Env0 Pr w K mg (hidT t.heap G) callerA [] t G := ⟨rfl, md, fun b o e => of_hidT e, Nat.le_of_eq (hidT_size _ _), trivial, (fun b hb => by cases hb), hok, .of_eq gen⟩
    refine codeAny_mono ((F _ kb (ns_of g1)).go hr rfl e0 (bd t (.ref a)) (us := [.ref a]) (vs := [.ref a]) (.cons rfl .nil) (hsp G hO hS)) fun r s' h => ?_
    cases r with
    | error e => exact h.elim
    | ok u => cases u with
      | ret u =>
        obtain ⟨v, G', os, bare, un, hok', r', q⟩ := h
        obtain rfl : v = .bl true := q
        obtain rfl : u = Value.bool true := r'
        refine ⟨rfl, OldK.of_keep fun b o e => ?_, os, bare⟩
        cases q : G b with
        | none => exact un.keep b o e q (fun z => by cases z) (fun z => by cases z)
        | some u =>
          rcases hO b with z | ⟨ob, xs, z⟩
          · rw [q] at z; cases z
          · obtain ⟨e1, _⟩ := hok b _ z
            obtain ⟨e2, _⟩ := hok' b _ (un.frzs b ob _ z)
            rw [e] at e1; cases e1
            exact e2
      | _ => exact False.elim h
  cases hk : K.lookup a with
  | some o =>
    have e := kin a o hk
    rw [oa] at e; cases e
    exact core (fun _ => none) (fun _ => .inl rfl) (.inr ⟨_, us.toArray, _, hk, rfl, rfl, rfl, by rw [List.size_toArray, ia.length]; exact la, by simpa using rv⟩) (fun b u z => by cases z) fun b u z => by cases z
  | none =>
    let o0 : Obj := { cls := .type "list", data := .seq us.toArray }
    have at' : ∀ b u, (fun b => if b = a then some (HO.frz o0 (.lst (ns.map V.int))) else none) b = some u → b = a ∧ u = HO.frz o0 (.lst (ns.map V.int)) := fun b u z => by
      by_cases hb : b = a
      · have z' := (if_pos hb).symm.trans z
        cases z'
        exact ⟨hb, rfl⟩
      · have z' := (if_neg hb).symm.trans z
        cases z'
    refine core (fun b => if b = a then some (HO.frz o0 (.lst (ns.map V.int))) else none) (fun b => ?_) (.inl (.inr ⟨o0, if_pos rfl⟩)) (fun b u z => ?_) fun b u z => ⟨(at' b u z).1, hk⟩
    · by_cases hb : b = a
      · exact .inr ⟨o0, _, if_pos hb⟩
      · exact .inl (if_neg hb)
    · obtain ⟨rfl, rfl⟩ := at' b u z
      exact ⟨oa, by rw [List.length_map]; exact la, us, _, rv, oa⟩
/-- the end of a law, from its def's promise -/
theorem walkG {l : PySem.W.OpenLaw} {n k : Nat} {q : Program} {loose : List Str} {XP : (Str → Option Value) → Heap → Prop} {YP : World → Heap → Prop} {d : DefRec} {K : Params → PySem.W.Frag} {sp : PySem.W.Frag → Sp} {x : Str} (hn : l.most = some n) (hn2 : n ≤ sizeLine) (hdf : d.params.defaults = []) (hr : Room k callerA)
    (hY : ∀ (w : World) (h : Heap), YP w h → (K w.params).In h)
    (F : ∀ (w : World) (mg : Str → Option Value) (fa : Addr) (h : Heap), (K w.params).In h → h.Ns mainGlobals mg → mg d.name = some (.ref fa) → ∃ fd : FuncData, (∀ (s : Shared) (u : Value), BindsTo s fd ⟨[u], []⟩ [(x, u)]) ∧
      ∀ b : Heap, (K w.params).In b → b.Ns mainGlobals mg → FnG l.prog w (K w.params) mg b CX0 k fa fd [x] (sp (K w.params)))
    (hsp : ∀ (K : PySem.W.Frag) (G : Hp) (a : Addr) (ns : List Int), ns.length ≤ n → Only G → SqL K G a (ns.map V.int) → sp K [.ref a] G (fun v _ => v = .bl true) E0) : PySem.W.WalkO q loose XP YP l.row.toRowW d [] (fun f vs => PySem.call f vs) := by
  refine Att.attach_call hn hdf fun w s0 t mg mb fa o pm cd doc a us ns G Y ho hd hcd hmg hobj hints hlen gen => ?_
  obtain ⟨fd, hb, hF⟩ := F w mg fa _ (hY w _ Y) G.T.g hmg
  exact law_goG (hY w _ Y) G.T.g G.T.b G.T.builtins G.T.nolimit gen hobj hints (Nat.le_trans hlen hn2) hr hF hb fun G hO hS => hsp _ G a ns hlen hO hS
end
end Sx
set_option Elab.async false
set_option linter.all false
set_option maxRecDepth 100000
set_option maxHeartbeats 4000000
set_option autoImplicit false
namespace Sx
open PySem L2

section
variable {W : Wd} {S P : Addr → Prop} {H : Hp} {X : Cx} {Q : VK} {v : V} {d : D} {en : En} {σ : St}
/-! ### a name's own object is changed -/
theorem Rel.mut {i : Nat} {p : Addr} {u : HO} {d' : D} (R : Rel W S P en σ H) (h : en[i]? = some (some (.ow, d))) (hv : σ[i]? = some (some (.ref p))) (dv : Dv W S (upd H p u) (.ref p) d') (ho : ∃ o, H p = some o ∧ NX o) :
    Ext S P H S P (upd H p u) ∧ Rel W S P (en.set i (some (.ow, d'))) σ (upd H p u) := by
  obtain ⟨v, hv', _, _, ow⟩ := R.slot i .ow d h
  rw [hv] at hv'
  cases hv'
  obtain ⟨q, o, eq, nS, nP, _, h1, h2, h3⟩ := ow (by decide)
  cases eq
  have nP := nP rfl
  have pn : ∀ a, P a → a ≠ p := fun a h e => nP (e ▸ h)
  refine ⟨⟨fun _ h => h, fun _ h => h, fun a h => upd_ne (pn a h), fun _ h => .inl h⟩, ⟨R.sp, fun a h => by rw [upd_ne (pn a h)]; exact R.pd a h, fun j f e q => ?_, fun j k f g e e' v g1 g2 g3 g4 g5 g6 => ?_, by rw [List.length_set]; exact R.len, ?_, R.drP, (by obtain ⟨o, e, n⟩ := ho; exact Tabs.upd R.tb e n)⟩⟩
  · rcases set_get q with ⟨rfl, q2⟩ | ⟨ne, q2⟩
    · cases q2
      exact ⟨_, hv, dv, (fun z => by cases z), fun _ => ⟨p, u, rfl, nS, fun _ => nP, (fun z => by cases z), h1, h2, upd_same⟩⟩
    · obtain ⟨v, hv2, dv2, t2, ow2⟩ := R.slot j f e q2
      refine ⟨v, hv2, dv2.mono (fun _ h => h) (fun a h => upd_ne (pn a (R.sp a h))) ?_, t2, fun z => ?_⟩
      · by_cases hf : f = .fz
        · exact (t2 hf).mono fun a h => upd_ne (pn a (R.sp a h))
        · obtain ⟨q, o2, ev, _⟩ := ow2 hf
          subst ev
          have nq : q ≠ p := fun eq => ne (R.inj i j .ow f d e _ h q2 (by decide) hf hv (by rw [hv2, eq]))
          have : upd H p u q = H q := upd_ne nq
          cases e <;> first | exact trivial | exact this
      · obtain ⟨q, o2, ev, a1, a2, a3, a4, a5, a6⟩ := ow2 z
        have nq : q ≠ p := fun eq => ne (R.inj i j .ow f d e _ h q2 (by decide) z hv (by rw [hv2, ev, eq]))
        exact ⟨q, o2, ev, a1, a2, a3, a4, a5, by rw [upd_ne nq]; exact a6⟩
  · have old : ∀ {j : Nat} {f : Fg} {e : D}, (en.set i (some (.ow, d')))[j]? = some (some (f, e)) → f ≠ .fz → ∃ g e', en[j]? = some (some (g, e')) ∧ g ≠ .fz := fun {j f e} q nf => by
      rcases set_get q with ⟨rfl, q2⟩ | ⟨_, q2⟩
      · exact ⟨.ow, d, h, by decide⟩
      · exact ⟨f, e, q2, nf⟩
    obtain ⟨f', d1, k1, n1⟩ := old g1 g3
    obtain ⟨g', d2, k2, n2⟩ := old g2 g4
    exact R.inj j k f' g' d1 d2 v k1 k2 n1 n2 g5 g6
  · obtain ⟨ne, ns, a, b, c, e1, e2, e3⟩ := R.dr
    exact ⟨ne, ns, a, b, c, by rw [upd_ne h1.symm]; exact e1, by rw [upd_ne h2.1.symm]; exact e2, e3⟩
def ownL (en : En) (i : Nat) : Option (List D) := match en[i]? with
  | some (some (.ow, .lst ds)) => some ds
  | _ => none
theorem ownL_some {i : Nat} {ds : List D} (h : ownL en i = some ds) : en[i]? = some (some (.ow, .lst ds)) := by
  unfold ownL at h
  split at h
  · rename_i ds' e; cases h; exact e
  · cases h
theorem Rel.ownL {i : Nat} {ds : List D} (R : Rel W S P en σ H) (h : Sx.ownL en i = some ds) : ∃ p xs, σ[i]? = some (some (.ref p)) ∧ H p = some (.lst xs) ∧ DvL W S H xs ds ∧ ∀ (ys : List V) (es : List D), DvL W S H ys es →
    Ext S P H S P (upd H p (.lst ys)) ∧ Rel W S P (en.set i (some (.ow, .lst es))) σ (upd H p (.lst ys)) := by
  have e := ownL_some h
  obtain ⟨v, hv, dv, _, ow⟩ := R.slot i .ow _ e
  obtain ⟨p, o, rfl, nS, nP, _⟩ := ow (by decide)
  cases dv with
  | lst ha dl =>
    refine ⟨p, _, hv, ha, dl, fun ys es d2 => R.mut e hv (.lst upd_same (d2.mono (fun _ h => h) fun a h => upd_ne (fun (z : a = p) => nS (z ▸ h)))) ⟨_, ha, nx_lst _⟩⟩
/-- x.append(e) -/
def rApp (i : Nat) (re : Run) : Run := fun en => (T.ofOpt (ownL en i)).bind fun _ => (re en).bind fun a => (T.ofOpt (valO a.1)).bind fun y => (T.ofOpt (ownL a.2 i)).bind fun ds => if ds.length < 4096 then .ret (.v .non, a.2.set i (some (.ow, .lst (ds ++ [y])))) else .fail
theorem lt_line {n : Nat} (h : n < 4096) : n < sizeLine := Nat.lt_of_lt_of_le h (Nat.le_trans (by decide : 4096 ≤ 16777216) (by rw [sizeLine_eq]; exact Nat.le_refl _))
theorem tv_app {i : Nat} {re : Run} (hK : X.K = W.K) (h : TV W (rApp i re) σ H Q) : tBM X.K "list" rAppend (tVar i) (tCons (TV W re) tNil) σ H Q := by
  obtain ⟨S, P, en, R, w⟩ := h
  obtain ⟨ds0, h0, w⟩ := T.wp_ofOpt ((T.wp_bind _ _ _).mp w)
  obtain ⟨p, xs, hv, hp, _, _⟩ := R.ownL h0
  refine ⟨.ref p, hv, .inl ⟨rfl, xs, SqL.of hp⟩, S, P, en, R, T.wp_mono ((T.wp_bind _ _ _).mp w) fun a q y H1 S1 P1 e1 R1 ok => ?_⟩
  obtain ⟨yd, hy, q⟩ := T.wp_ofOpt ((T.wp_bind _ _ _).mp q)
  obtain ⟨ds, hds, q⟩ := T.wp_ofOpt ((T.wp_bind _ _ _).mp q)
  obtain ⟨S2, P2, e2, R2, dz⟩ := ok.valz R1 hy
  split at q
  · rename_i hl
    obtain ⟨p', xs', hv', hp', dl, k⟩ := R2.ownL hds
    rw [hv] at hv'
    cases hv'
    obtain ⟨e3, R3⟩ := k (xs' ++ [y]) (ds ++ [yd]) (dl.snoc dz)
    exact ⟨p, xs', y, rfl, rfl, hp', lt_line (by rw [dl.len]; exact hl), q .non _ S2 P2 (e1.trans (e2.trans e3)) R3 ⟨trivial, .non⟩⟩
  · exact q.elim
/-- x.pop(e), x.pop(), x.clear() -/
def rPopI (i : Nat) (re : Run) : Run := fun en => (T.ofOpt (ownL en i)).bind fun _ => (re en).bind fun a => (T.ofOpt (intOf (frc a.2 a.1.fz))).bind fun k => (T.ofOpt (ownL a.2 i)).bind fun ds => if 0 ≤ k ∧ k < 4096 then
  (T.ofOpt ds[k.toNat]?).bind fun y => .ret (.v y, a.2.set i (some (.ow, .lst (ds.eraseIdx k.toNat)))) else .fail
theorem DvL.erase {vs : List V} {ds : List D} (n : Nat) (h : DvL W S H vs ds) : DvL W S H (vs.eraseIdx n) (ds.eraseIdx n) := by
  induction n generalizing vs ds with
  | zero => cases h with
    | nil => exact .nil
    | cons _ _ r => exact r
  | succ n ih => cases h with
    | nil => exact .nil
    | cons t dv r => exact .cons t dv (ih r)
theorem tv_popI {i : Nat} {re : Run} (h : TV W (rPopI i re) σ H Q) : tBM W.K "list" rPopAt (tVar i) (tCons (TV W re) tNil) σ H Q := by
  obtain ⟨S, P, en, R, w⟩ := h
  obtain ⟨ds0, h0, w⟩ := T.wp_ofOpt ((T.wp_bind _ _ _).mp w)
  obtain ⟨p, xs, hv, hp, _, _⟩ := R.ownL h0
  refine ⟨.ref p, hv, .inl ⟨rfl, xs, SqL.of hp⟩, TV.use R w fun a y H1 S1 P1 e1 R1 pe q => ?_⟩
  obtain ⟨k, hk, q⟩ := T.wp_ofOpt ((T.wp_bind _ _ _).mp q)
  obtain ⟨ds, hds, q⟩ := T.wp_ofOpt ((T.wp_bind _ _ _).mp q)
  have yi := pe.now R1 (intOf_some hk)
  cases yi
  split at q
  · rename_i hl
    obtain ⟨z, hz, q⟩ := T.wp_ofOpt ((T.wp_bind _ _ _).mp q)
    obtain ⟨p', xs', hv', hp', dl, mk⟩ := R1.ownL hds
    rw [hv] at hv'
    cases hv'
    obtain ⟨x, hx, dz⟩ := (dl.at (i := k.toNat)).2 z hz
    obtain ⟨e3, R3⟩ := mk _ _ (dl.erase k.toNat)
    have hlt := lt_of_get hx
    have hi : ixN xs'.length k = some k.toNat := by
      unfold ixN
      rw [if_pos hl.1, if_pos (by omega)]
    obtain ⟨s1, _⟩ := ixN_seq hi
    refine ⟨p, xs', k, k.toNat, x, rfl, rfl, hp', by omega, by omega, s1, hx, q x _ S1 P1 (e1.trans e3) R3 ?_⟩
    exact dz.mono e3.s fun b hb => e3.h b (R1.sp b hb)
  · exact q.elim
def rPop0 (i : Nat) : Run := fun en => (T.ofOpt (ownL en i)).bind fun ds => (T.ofOpt ds[ds.length - 1]?).bind fun y => .ret (.v y, en.set i (some (.ow, .lst ds.dropLast)))
theorem DvL.dropLast {vs : List V} {ds : List D} (h : DvL W S H vs ds) : DvL W S H vs.dropLast ds.dropLast := by
  rw [List.dropLast_eq_take, List.dropLast_eq_take, h.len]
  exact h.take _
theorem tv_pop0 {i : Nat} (h : TV W (rPop0 i) σ H Q) : tBM0 W.K "list" rPop (tVar i) σ H Q := by
  obtain ⟨S, P, en, R, w⟩ := h
  obtain ⟨ds, h0, w⟩ := T.wp_ofOpt ((T.wp_bind _ _ _).mp w)
  obtain ⟨z, hz, q⟩ := T.wp_ofOpt ((T.wp_bind _ _ _).mp w)
  obtain ⟨p, xs, hv, hp, dl, mk⟩ := R.ownL h0
  obtain ⟨x, hx, dz⟩ := (dl.at (i := ds.length - 1)).2 z hz
  obtain ⟨e3, R3⟩ := mk _ _ dl.dropLast
  refine ⟨.ref p, hv, .inl ⟨rfl, xs, SqL.of hp⟩, p, xs, x, rfl, rfl, hp, by rw [dl.len]; exact hx, q x _ S P e3 R3 ?_⟩
  exact dz.mono e3.s fun b hb => e3.h b (R.sp b hb)
def rClr (i : Nat) : Run := fun en => (T.ofOpt (ownL en i)).bind fun _ => .ret (.v .non, en.set i (some (.ow, .lst [])))
theorem tv_clr {i : Nat} (h : TV W (rClr i) σ H Q) : tBM0 W.K "list" rClear (tVar i) σ H Q := by
  obtain ⟨S, P, en, R, w⟩ := h
  obtain ⟨ds, h0, q⟩ := T.wp_ofOpt ((T.wp_bind _ _ _).mp w)
  obtain ⟨p, xs, hv, hp, dl, mk⟩ := R.ownL h0
  obtain ⟨e3, R3⟩ := mk [] [] .nil
  exact ⟨.ref p, hv, .inl ⟨rfl, xs, SqL.of hp⟩, p, xs, rfl, rfl, hp, q .non _ S P e3 R3 ⟨trivial, .non⟩⟩
section
variable {o e : Expr} {re : Run} {i : Nat} {x : Str} {pos apos cpos : Pos}
def few (e : Expr) (X : Cx) (cpos : Pos) : Prop := ((backTo cpos (starEach [e] X.env)).all (fun x => !x.1) && (backToKw cpos (keywordEach [] X.env)).all (fun x => x.1.isSome) && decide ([e].length + ([] : List Keyword).length + (if ([] : List Keyword).isEmpty then 0 else 1) < 30)) = true
theorem x_app (hK : X.K = W.K) (ho : PE X o (tVar i)) (he : PE X e (TV W re)) (hb : attributeBase o "append" X.env (eval o X.env) = eval o X.env) (hf : few e X cpos) (hl : (apos.endLine == cpos.line) = true) (hs : starEach [e] X.env = (false, eval e X.env) :: starEach [] X.env)
    (hp : (backTo cpos (starEach [] X.env)).any (·.1) = false) : PE X (.Call (.Attribute o "append" apos) [e] [] cpos) (TV W (rApp i re)) :=
  pe_weak (pe_bm PySem.F.plainAttrs_list PySem.F.slot_list_append PySem.F.type_list_append mt_append ho (pa_cons he pa_nil hs) hb hf hl hs hp) fun _ _ _ h => tv_app hK h
theorem x_popI (hK : X.K = W.K) (ho : PE X o (tVar i)) (he : PE X e (TV W re)) (hb : attributeBase o "pop" X.env (eval o X.env) = eval o X.env) (hf : few e X cpos) (hl : (apos.endLine == cpos.line) = true) (hs : starEach [e] X.env = (false, eval e X.env) :: starEach [] X.env)
    (hp : (backTo cpos (starEach [] X.env)).any (·.1) = false) : PE X (.Call (.Attribute o "pop" apos) [e] [] cpos) (TV W (rPopI i re)) :=
  pe_weak (pe_bm PySem.F.plainAttrs_list PySem.F.slot_list_pop PySem.F.type_list_pop mt_popAt ho (pa_cons he pa_nil hs) hb hf hl hs hp) fun _ _ _ h => by rw [hK]; exact tv_popI h
theorem x_pop0 (hK : X.K = W.K) (ho : PE X o (tVar i)) (hb : attributeBase o "pop" X.env (eval o X.env) = eval o X.env) (hl : (apos.endLine == cpos.line) = true) : PE X (.Call (.Attribute o "pop" apos) [] [] cpos) (TV W (rPop0 i)) :=
  pe_weak (pe_bm0 PySem.F.plainAttrs_list PySem.F.slot_list_pop PySem.F.type_list_pop mt_pop ho hb hl) fun _ _ _ h => by rw [hK]; exact tv_pop0 h
theorem x_clr (hK : X.K = W.K) (ho : PE X o (tVar i)) (hb : attributeBase o "clear" X.env (eval o X.env) = eval o X.env) (hl : (apos.endLine == cpos.line) = true) : PE X (.Call (.Attribute o "clear" apos) [] [] cpos) (TV W (rClr i)) :=
  pe_weak (pe_bm0 PySem.F.plainAttrs_list PySem.F.slot_list_clear PySem.F.type_list_clear mt_clear ho hb hl) fun _ _ _ h => by rw [hK]; exact tv_clr h
end

/-! ### methods of texts -/
def strOf : Option D → Option Str
  | some (.str x) => some x
  | _ => none
def rStrM (ro : Run) (rs : Runs) (f : Str → List D → Option (Bool × D)) : Run := fun en => (ro en).bind fun a => (T.ofOpt (strOf (frc a.2 a.1.fz))).bind fun x => (rs a.2).bind fun b => ret1 ((frcs b.2 b.1).bind fun ds => f x ds) b.2
theorem strOf_some {o : Option D} {x : Str} (h : strOf o = some x) : o = some (.str x) := by
  unfold strOf at h
  split at h
  · cases h; rfl
  · cases h
theorem tv_strM {ro : Run} {rs : Runs} {f : Str → List D → Option (Bool × D)} {r : V → List V → Hp → VK → Prop} (hr : ∀ x, PureN W (fun vs H Q => r (.str x) vs H Q) (f x)) (h : TV W (rStrM ro rs f) σ H Q) : tBM W.K "str" r (TV W ro) (TVs W rs) σ H Q := by
  obtain ⟨S, P, en, R, w⟩ := h
  refine TV.use R w fun a v H1 S1 P1 e1 R1 pe q => ?_
  obtain ⟨x, hx, q⟩ := T.wp_ofOpt ((T.wp_bind _ _ _).mp q)
  have := pe.now R1 (strOf_some hx)
  cases this
  refine ⟨rfl, TVs.use R1 q fun b vs H2 S2 P2 e2 R2 p2 q2 => ?_⟩
  obtain ⟨z, ez, qz⟩ := wp_ret1 q2
  obtain ⟨ds, eds, fx⟩ := Option.bind_eq_some_iff.mp ez
  exact hr x S2 H2 vs ds z Q R2.dom (p2.now R2 eds) fx (R2.res fun v' H' S' P' e' R' ok => qz v' H' S' P' (e1.trans (e2.trans e')) R' ok)
def fJoin (x : Str) (ds : List D) : Option (Bool × D) := match ds with
  | [.lst xs] => (strsOf xs).bind fun ys => if (ys.map (·.length)).sum + ys.length * x.length ≤ 65536 then some0 (.str (Txt.join x ys)) else none
  | _ => none
theorem p_join (x : Str) : PureN W (fun vs H Q => ∃ a p, ∃ ys : List Str, V.str x = .str a ∧ vs = [.ref p] ∧ (SqL W.K H p (ys.map V.str) ∨ SqT W.K H p (ys.map V.str)) ∧ (ys.map (·.length)).sum + ys.length * a.length ≤ 16777216 ∧ Q (.str (Txt.join a ys)) H) (fJoin x) := by
  intro S H vs ds c Q hd h hf r
  unfold fJoin at hf
  split at hf
  · obtain ⟨v, rfl, dv⟩ := h.one
    obtain ⟨ys, e1, e2⟩ := Option.bind_eq_some_iff.mp hf
    split at e2
    · rename_i hl
      cases e2
      cases dv with
      | lst ha dl => exact ⟨x, _, ys, rfl, rfl, .inl (by rw [← dl.strs e1]; exact SqL.of ha), by omega, r.str hd⟩
    · cases e2
  · cases hf
theorem x_join {o e : Expr} {ro re : Run} {apos cpos : Pos} (hK : X.K = W.K) (ho : PE X o (TV W ro)) (he : PE X e (TV W re)) (hb : attributeBase o "join" X.env (eval o X.env) = eval o X.env) (hf : few e X cpos) (hl : (apos.endLine == cpos.line) = true)
    (hs : starEach [e] X.env = (false, eval e X.env) :: starEach [] X.env) (hp : (backTo cpos (starEach [] X.env)).any (·.1) = false) : PE X (.Call (.Attribute o "join" apos) [e] [] cpos) (TV W (rStrM ro (rCons re rNil) fJoin)) :=
  pe_weak (pe_bm PySem.F.plainAttrs_str PySem.F.slot_str_join PySem.F.type_str_join mt_join ho (x_cons he x_nil hs) hb hf hl hs hp) fun _ _ _ h => by rw [hK]; exact tv_strM p_join h

/-! ### ranges and pairs walked -/
def iRange (rs : Runs) : RunI := fun en => (rs en).bind fun a => (T.ofOpt (match frcs a.2 a.1 with
  | some [.int j] => if j ≤ 4096 ∧ -4096 ≤ j then some ((List.range j.toNat).map fun k => D.int (0 + (k : Nat))) else none
  | _ => none)).bind fun ds => .ret (ds, a.2)
theorem walks_rng {n : Nat} {lo : Int} : Walks W S P H (Itr lo n) ((List.range n).map fun k => D.int (lo + (k : Nat))) := by
  have hl : ((List.range n).map fun k => D.int (lo + (k : Nat))).length = n := by simp
  refine ⟨fun i _ _ h => by rw [hl] at h; exact h, fun i _ _ h => by rw [hl] at h; exact h, fun i H2 x H3 _ hi y => ?_⟩
  rw [hl] at hi
  obtain ⟨rfl, rfl⟩ := y
  exact ⟨.int (lo + (i : Nat)), by rw [List.getElem?_map, List.getElem?_range hi]; rfl, .inl ⟨rfl, trivial, .int _⟩⟩
theorem x_range {tg a : Expr} {ra : Run} {p pos : Pos} (hg : Gl X "range") (hm : X.mg "range" = none) (ha : PE X a (TV W ra)) (hs : starEach [a] X.env = (false, eval a X.env) :: starEach [] X.env) : PI X tg (.Call (.Name "range" p) [a] [] pos) (TVI W (iRange (rCons ra rNil)) none) := by
  refine ⟨fun pins s σ H R I q => (pi_range1 (tg := tg) hg hm (x_cons ha x_nil hs) hs).run pins s σ H R I ?_⟩
  obtain ⟨S, P, en, Rl, w⟩ := q
  refine TVs.use Rl w fun c vs H1 S1 P1 e1 R1 p1 q => ?_
  obtain ⟨ds, hds, q⟩ := T.wp_ofOpt ((T.wp_bind _ _ _).mp q)
  split at hds
  · rename_i j hj
    split at hds
    · rename_i hb
      obtain ⟨v, rfl, dv⟩ := (p1.now R1 hj).one
      cases dv
      refine ⟨j, rfl, by omega, by omega, q (Itr 0 j.toNat) H1 S1 P1 P1 e1 R1 (fun _ h => h) (fun S3 P3 en3 σ3 H3 _ e3 R3 => ⟨P3, fun _ h => h, e3, R3⟩) (fun _ => rfl) ?_⟩
      cases hds
      exact walks_rng
    · cases hds
  · cases hds
def enumD (ds : List D) : List D := ds.zipIdx.map fun z => .tup [.int (z.2 : Nat), z.1]
def iEnumR (rs : Runs) : RunI := fun en => (rs en).bind fun a => (T.ofOpt (match onlyV a.1 with
  | some [.lst ds] => some (enumD ds)
  | _ => none)).bind fun ds => .ret (ds, a.2)
theorem walks_enum {a : Addr} {xs : List V} {ds : List D} (R : Rel W S P en σ H) (ha : P a) (h : H a = some (.lst xs)) (dl : DvL W S H xs ds) : Walks W S P H (Ite W.K a) (enumD ds) := by
  have hl : (enumD ds).length = ds.length := by simp [enumD]
  have at' : ∀ H2, (∀ b, P b → H2 b = H b) → SqL W.K H2 a xs := fun H2 q => SqL.of ((q a ha).trans h)
  refine ⟨fun i H2 q hi => ⟨xs, at' H2 q, by rw [dl.len]; omega⟩, fun i H2 q hi => ?_, fun i H2 x H3 q hi y => ?_⟩
  · have hi' : i < xs.length := by rw [dl.len]; omega
    exact ⟨xs, xs[i], at' H2 q, List.getElem?_eq_getElem hi'⟩
  · obtain ⟨T', x', rfl, hT, rfl, y⟩ := y
    obtain ⟨d, hd, dz⟩ := (dl.at (i := i)).1 x' (y xs (at' _ q))
    refine ⟨.tup [.int (i : Nat), d], ?_, .inr ⟨T', _, _, rfl, hT, rfl, rfl, .cons trivial (.int _) (.cons dz.1 (dz.2.mono (fun _ h => h) (fun b s => q b (R.sp b s)) (dz.1.mono fun b s => q b (R.sp b s))) .nil)⟩⟩
    unfold enumD
    rw [List.getElem?_map, List.getElem?_zipIdx, hd]
    simp
theorem x_enum {e : Expr} {ra : Run} {p pos tpos : Pos} {elts : List Expr} {kk : Nat} (hK : X.K = W.K) (hg : Gl X "enumerate") (hm : X.mg "enumerate" = none) (ha : PE X e (TV W ra)) (hs : starEach [e] X.env = (false, eval e X.env) :: starEach [] X.env) :
    PI X (.Tuple elts kk tpos) (.Call (.Name "enumerate" p) [e] [] pos) (TVI W (iEnumR (rCons ra rNil)) none) := by
  refine ⟨fun pins s σ H R I q => (pi_enum hg hm (x_cons ha x_nil hs) hs).run pins s σ H R I ?_⟩
  rw [hK]
  obtain ⟨S, P, en, Rl, w⟩ := q
  refine TVs.use Rl w fun c vs H1 S1 P1 e1 R1 p1 q => ?_
  obtain ⟨ds, hds, q⟩ := T.wp_ofOpt ((T.wp_bind _ _ _).mp q)
  split at hds
  · rename_i es hj
    cases hds
    cases p1.only hj with
    | cons t dv r =>
      cases r
      cases dv with
      | lst ha dl => exact ⟨_, _, rfl, SqL.of ha, q (Ite W.K _) H1 S1 P1 P1 e1 R1 (fun _ h => h) (fun S3 P3 en3 σ3 H3 _ e3 R3 => ⟨P3, fun _ h => h, e3, R3⟩) (fun _ => rfl) (walks_enum R1 (R1.sp _ t) ha dl)⟩
  · cases hds
end
end Sx
set_option Elab.async false
set_option linter.all false
set_option maxRecDepth 100000
set_option maxHeartbeats 4000000
set_option autoImplicit false
namespace Sx
open PySem L2
/-! ### short words for derivations -/
section
variable {W : Wd} {X : Cx} {a b c e o : Expr} {es : List Expr} {ra rb rc re ro : Run} {rs rt : Runs} {pos apos p p2 p3 : Pos} {i : Nat} {x : Str}
theorem e_var (i : Nat) (hN : X.N[i]? = some x := by rfl) (hv : Vis X.env.scope x := by first | exact Or.inl rfl | exact Or.inr (Or.inl rfl) | exact Or.inr (Or.inr rfl)) (hd : (x == ("__debug__" : Str)) = false := by decide) (hcd : (x == ("__classdict__" : Str)) = false := by decide) :
    PE X (.Name x pos) (TV W (rVar i)) := pe_weak (pe_var hN hv hd hcd) fun _ _ _ h => tv_var h
theorem e_mov (i : Nat) (hN : X.N[i]? = some x := by rfl) (hv : Vis X.env.scope x := by first | exact Or.inl rfl | exact Or.inr (Or.inl rfl) | exact Or.inr (Or.inr rfl)) (hd : (x == ("__debug__" : Str)) = false := by decide) (hcd : (x == ("__classdict__" : Str)) = false := by decide) :
    PE X (.Name x pos) (TV W (rMov i)) := pe_weak (pe_var hN hv hd hcd) fun _ _ _ h => tv_mov h
theorem e_bor (i : Nat) (hN : X.N[i]? = some x := by rfl) (hv : Vis X.env.scope x := by first | exact Or.inl rfl | exact Or.inr (Or.inl rfl) | exact Or.inr (Or.inr rfl)) (hd : (x == ("__debug__" : Str)) = false := by decide) (hcd : (x == ("__classdict__" : Str)) = false := by decide) :
    PE X (.Name x pos) (TV W (rBor i)) := pe_weak (pe_var hN hv hd hcd) fun _ _ _ h => tv_bor h
theorem e_own (i : Nat) (hN : X.N[i]? = some x := by rfl) (hv : Vis X.env.scope x := by first | exact Or.inl rfl | exact Or.inr (Or.inl rfl) | exact Or.inr (Or.inr rfl)) (hd : (x == ("__debug__" : Str)) = false := by decide) (hcd : (x == ("__classdict__" : Str)) = false := by decide) :
    PE X (.Name x pos) (tVar i) := pe_var hN hv hd hcd
theorem e_int {k : Int} {j : Nat} : PE X (.Constant (.int k) j pos) (TV W (rC (.int k))) := pe_weak pe_int fun _ _ _ h => tv_c (d := .int k) (fun _ _ => ⟨trivial, .int _⟩) h
theorem e_bl {k : Bool} {j : Nat} : PE X (.Constant (.bool k) j pos) (TV W (rC (.bl k))) := pe_weak pe_bl fun _ _ _ h => tv_c (d := .bl k) (fun _ _ => ⟨trivial, .bl _⟩) h
theorem e_non {j : Nat} : PE X (.Constant .none j pos) (TV W (rC .non)) := pe_weak pe_non fun _ _ _ h => tv_c (d := .non) (fun _ _ => ⟨trivial, .non⟩) h
theorem e_str {k : Str} {j : Nat} : PE X (.Constant (.str k) j pos) (TV W (rC (.str k))) := pe_weak pe_str fun _ _ _ h => tv_c (d := .str k) (fun _ _ => ⟨trivial, .str _⟩) h
/-- a module's constant: a number, a text -/
theorem e_gint {k : Int} {t : Tok} (hm : X.mg x = some (.int k t)) (hg : Gl X x := by rfl) (hd : (x == ("__debug__" : Str)) = false := by decide) : PE X (.Name x pos) (TV W (rC (.int k))) := pe_weak (pe_glob (v := .int k) hg hm ⟨t, rfl⟩ hd) fun _ _ _ h => tv_c (d := .int k) (fun _ _ => ⟨trivial, .int _⟩) h
theorem e_gstr {k : Str} {t : Tok} (hm : X.mg x = some (.str k t)) (hg : Gl X x := by rfl) (hd : (x == ("__debug__" : Str)) = false := by decide) : PE X (.Name x pos) (TV W (rC (.str k))) := pe_weak (pe_glob (v := .str k) hg hm ⟨t, rfl⟩ hd) fun _ _ _ h => tv_c (d := .str k) (fun _ _ => ⟨trivial, .str _⟩) h
/-- a built-in type -/
theorem e_ty {n : String} (hm : X.mg x = none) (hv : bootBuiltins x = some (.type n)) (hg : Gl X x := by rfl) (hn : x ≠ "__name__" := by decide) (hd : (x == ("__debug__" : Str)) = false := by decide) : PE X (.Name x pos) (TV W (rC (.ty n))) :=
  pe_weak (pe_bltn (v := .ty n) hg hm hv rfl hn hd) fun _ _ _ h => tv_c (d := .ty n) (fun _ _ => ⟨trivial, .ty _⟩) h
theorem a_nil : PA X [] (TVs W rNil) := x_nil
theorem a_cons (ha : PE X e (TV W re)) (hr : PA X es (TVs W rs)) (hs : starEach (e :: es) X.env = (false, eval e X.env) :: starEach es X.env := by rfl) : PA X (e :: es) (TVs W (rCons re rs)) := x_cons ha hr hs
def mkL (ds : List D) : Option (Bool × D) := small ds (true, .lst ds)
def mkT (ds : List D) : Option (Bool × D) := small ds (false, .tup ds)
theorem e_lst (h : PA X es (TVs W rs)) : PE X (.List es pos) (TV W (rDisp mkL rs)) := x_lst h
theorem e_tup {k : Nat} (h : PA X es (TVs W rs)) : PE X (.Tuple es k pos) (TV W (rDisp mkT rs)) := x_tup h
theorem e_add (hK : X.K = W.K) (ha : PE X a (TV W ra)) (hb : PE X b (TV W rb)) : PE X (.BinOp a .Add b pos) (TV W (run2 ra rb fAdd)) := x_bin (by rw [← hK]; exact op_addAll) p_add ha hb
abbrev fSub := fInt2 fun i j => i - j
theorem e_sub (ha : PE X a (TV W ra)) (hb : PE X b (TV W rb)) : PE X (.BinOp a .Sub b pos) (TV W (run2 ra rb fSub)) := x_bin op_sub p_int2 ha hb
instance (i j : Int) : Decidable (CMulW i j) := inferInstanceAs (Decidable (_ < _))
instance (i j : Int) : Decidable (CDivW i j) := inferInstanceAs (Decidable (_ ∧ _))
abbrev fMulI := fIntC (fun i j => decide (CMulW i j)) fun i j => i * j
theorem e_mulI (ha : PE X a (TV W ra)) (hb : PE X b (TV W rb)) : PE X (.BinOp a .Mult b pos) (TV W (run2 ra rb fMulI)) := x_bin op_mulW (p_intC fun i j h => of_decide_eq_true h) ha hb
abbrev fFdiv := fIntC (fun i j => decide (CDivW i j)) fun i j => i / j
theorem e_fdiv (ha : PE X a (TV W ra)) (hb : PE X b (TV W rb)) : PE X (.BinOp a .FloorDiv b pos) (TV W (run2 ra rb fFdiv)) := x_bin op_fdivW (p_intC fun i j h => of_decide_eq_true h) ha hb
abbrev fMod := fIntC (fun _ j => decide (0 < j)) fun i j => i % j
theorem e_mod (ha : PE X a (TV W ra)) (hb : PE X b (TV W rb)) : PE X (.BinOp a .Mod b pos) (TV W (run2 ra rb fMod)) := x_bin op_mod (p_intC fun i j h => of_decide_eq_true h) ha hb
theorem e_neg (ha : PE X a (TV W ra)) : PE X (.UnaryOp .USub a pos) (TV W (run1 ra fNeg)) := x_un un_neg p_neg ha
/-! comparisons: as values (e_), as tests (t_) -/
theorem Room.u {k : Nat} {A : Around} (hr : Room k A) : A.units + 64 < cLine := hr.units
theorem t_cmp {op : CmpOp} {r : R2} {f : D → D → Option (Bool × D)} (ho : OpR X (compareOp op) r) (hr : Pure2 W r f) (ha : PE X a (TV W ra)) (hb : PE X b (TV W rb)) (hm : behindInMarks op b = false) : PT X (.Compare a [op] [b] pos) (TVT W (toT (run2 ra rb f))) :=
  pt_weak (pt_cmpR ho ha hb hm) fun _ _ _ h => tv2 hr (tvt_tB h)
abbrev fLt := fCmp fun p q => PySem.W.dataLt p q
abbrev fGt := fCmp fun p q => PySem.W.dataLt q p
abbrev fLe := fCmp fun p q => !PySem.W.dataLt q p
abbrev fGe := fCmp fun p q => !PySem.W.dataLt p q
abbrev fIn := fInG false
abbrev fNotIn := fInG true
abbrev fIsP := fIs false
abbrev fIsNot := fIs true
variable {k : Nat}
theorem e_eq (hK : X.K = W.K) (hr : Room k X.A) (ha : PE X a (TV W ra)) (hb : PE X b (TV W rb)) (hm : behindInMarks .Eq b = false := by rfl) : PE X (.Compare a [.Eq] [b] pos) (TV W (run2 ra rb fEq)) := x_cmp (by rw [← hK]; exact op_eqP hr.units) p_eq ha hb hm
theorem e_ne (hK : X.K = W.K) (hr : Room k X.A) (ha : PE X a (TV W ra)) (hb : PE X b (TV W rb)) (hm : behindInMarks .NotEq b = false := by rfl) : PE X (.Compare a [.NotEq] [b] pos) (TV W (run2 ra rb fNe)) := x_cmp (by rw [← hK]; exact op_neP hr.units) p_ne ha hb hm
theorem e_lt (hK : X.K = W.K) (hr : Room k X.A) (ha : PE X a (TV W ra)) (hb : PE X b (TV W rb)) (hm : behindInMarks .Lt b = false := by rfl) : PE X (.Compare a [.Lt] [b] pos) (TV W (run2 ra rb fLt)) := x_cmp (by rw [← hK]; exact op_ltP hr.units) p_cmp ha hb hm
theorem e_gt (hK : X.K = W.K) (hr : Room k X.A) (ha : PE X a (TV W ra)) (hb : PE X b (TV W rb)) (hm : behindInMarks .Gt b = false := by rfl) : PE X (.Compare a [.Gt] [b] pos) (TV W (run2 ra rb fGt)) := x_cmp (by rw [← hK]; exact op_gtP hr.units) p_cmp ha hb hm
theorem e_le (hK : X.K = W.K) (hr : Room k X.A) (ha : PE X a (TV W ra)) (hb : PE X b (TV W rb)) (hm : behindInMarks .LtE b = false := by rfl) : PE X (.Compare a [.LtE] [b] pos) (TV W (run2 ra rb fLe)) := x_cmp (by rw [← hK]; exact op_leP hr.units) p_cmp ha hb hm
theorem e_ge (hK : X.K = W.K) (hr : Room k X.A) (ha : PE X a (TV W ra)) (hb : PE X b (TV W rb)) (hm : behindInMarks .GtE b = false := by rfl) : PE X (.Compare a [.GtE] [b] pos) (TV W (run2 ra rb fGe)) := x_cmp (by rw [← hK]; exact op_geP hr.units) p_cmp ha hb hm
theorem e_in (hK : X.K = W.K) (hr : Room k X.A) (ha : PE X a (TV W ra)) (hb : PE X b (TV W rb)) (hm : behindInMarks .In b = false := by rfl) : PE X (.Compare a [.In] [b] pos) (TV W (run2 ra rb fIn)) := x_cmp (by rw [← hK]; exact op_inAll hr.units) p_in ha hb hm
theorem e_notIn (hK : X.K = W.K) (hr : Room k X.A) (ha : PE X a (TV W ra)) (hb : PE X b (TV W rb)) (hm : behindInMarks .NotIn b = false := by rfl) : PE X (.Compare a [.NotIn] [b] pos) (TV W (run2 ra rb fNotIn)) := x_cmp (by rw [← hK]; exact op_notInAll hr.units) p_in ha hb hm
theorem e_is (ha : PE X a (TV W ra)) (hb : PE X b (TV W rb)) (hm : behindInMarks .Is b = false := by rfl) : PE X (.Compare a [.Is] [b] pos) (TV W (run2 ra rb fIsP)) := x_cmp op_isAll p_is ha hb hm
theorem e_isNot (ha : PE X a (TV W ra)) (hb : PE X b (TV W rb)) (hm : behindInMarks .IsNot b = false := by rfl) : PE X (.Compare a [.IsNot] [b] pos) (TV W (run2 ra rb fIsNot)) := x_cmp op_isNotAll p_is ha hb hm
theorem t_eq (hK : X.K = W.K) (hr : Room k X.A) (ha : PE X a (TV W ra)) (hb : PE X b (TV W rb)) (hm : behindInMarks .Eq b = false := by rfl) : PT X (.Compare a [.Eq] [b] pos) (TVT W (toT (run2 ra rb fEq))) := t_cmp (by rw [← hK]; exact op_eqP hr.units) p_eq ha hb hm
theorem t_ne (hK : X.K = W.K) (hr : Room k X.A) (ha : PE X a (TV W ra)) (hb : PE X b (TV W rb)) (hm : behindInMarks .NotEq b = false := by rfl) : PT X (.Compare a [.NotEq] [b] pos) (TVT W (toT (run2 ra rb fNe))) := t_cmp (by rw [← hK]; exact op_neP hr.units) p_ne ha hb hm
theorem t_lt (hK : X.K = W.K) (hr : Room k X.A) (ha : PE X a (TV W ra)) (hb : PE X b (TV W rb)) (hm : behindInMarks .Lt b = false := by rfl) : PT X (.Compare a [.Lt] [b] pos) (TVT W (toT (run2 ra rb fLt))) := t_cmp (by rw [← hK]; exact op_ltP hr.units) p_cmp ha hb hm
theorem t_gt (hK : X.K = W.K) (hr : Room k X.A) (ha : PE X a (TV W ra)) (hb : PE X b (TV W rb)) (hm : behindInMarks .Gt b = false := by rfl) : PT X (.Compare a [.Gt] [b] pos) (TVT W (toT (run2 ra rb fGt))) := t_cmp (by rw [← hK]; exact op_gtP hr.units) p_cmp ha hb hm
theorem t_le (hK : X.K = W.K) (hr : Room k X.A) (ha : PE X a (TV W ra)) (hb : PE X b (TV W rb)) (hm : behindInMarks .LtE b = false := by rfl) : PT X (.Compare a [.LtE] [b] pos) (TVT W (toT (run2 ra rb fLe))) := t_cmp (by rw [← hK]; exact op_leP hr.units) p_cmp ha hb hm
theorem t_ge (hK : X.K = W.K) (hr : Room k X.A) (ha : PE X a (TV W ra)) (hb : PE X b (TV W rb)) (hm : behindInMarks .GtE b = false := by rfl) : PT X (.Compare a [.GtE] [b] pos) (TVT W (toT (run2 ra rb fGe))) := t_cmp (by rw [← hK]; exact op_geP hr.units) p_cmp ha hb hm
theorem t_in (hK : X.K = W.K) (hr : Room k X.A) (ha : PE X a (TV W ra)) (hb : PE X b (TV W rb)) (hm : behindInMarks .In b = false := by rfl) : PT X (.Compare a [.In] [b] pos) (TVT W (toT (run2 ra rb fIn))) := t_cmp (by rw [← hK]; exact op_inAll hr.units) p_in ha hb hm
theorem t_notIn (hK : X.K = W.K) (hr : Room k X.A) (ha : PE X a (TV W ra)) (hb : PE X b (TV W rb)) (hm : behindInMarks .NotIn b = false := by rfl) : PT X (.Compare a [.NotIn] [b] pos) (TVT W (toT (run2 ra rb fNotIn))) := t_cmp (by rw [← hK]; exact op_notInAll hr.units) p_in ha hb hm
theorem t_is (ha : PE X a (TV W ra)) (hb : PE X b (TV W rb)) (hm : behindInMarks .Is b = false := by rfl) : PT X (.Compare a [.Is] [b] pos) (TVT W (toT (run2 ra rb fIsP))) := t_cmp op_isAll p_is ha hb hm
theorem t_isNot (ha : PE X a (TV W ra)) (hb : PE X b (TV W rb)) (hm : behindInMarks .IsNot b = false := by rfl) : PT X (.Compare a [.IsNot] [b] pos) (TVT W (toT (run2 ra rb fIsNot))) := t_cmp op_isNotAll p_is ha hb hm
/-- a <= b <= c -/
theorem e_lele (hK : X.K = W.K) (hr : Room k X.A) (ha : PE X a (TV W ra)) (hb : PE X b (TV W rb)) (hc : PE X c (TV W rc)) (hm : lastMarks [.LtE, .LtE] [b, c] = false := by rfl) : PE X (.Compare a [.LtE, .LtE] [b, c] pos) (TV W (rChn fLe fLe ra rb rc)) :=
  pe_weak (pe_chain (op_leP hr.units) (op_leP hr.units) ha hb hc hm) fun _ _ _ h => by rw [hK]; exact tv_chn p_cmp p_cmp h
theorem t_lele (hK : X.K = W.K) (hr : Room k X.A) (ha : PE X a (TV W ra)) (hb : PE X b (TV W rb)) (hc : PE X c (TV W rc)) (hm : lastMarks [.LtE, .LtE] [b, c] = false := by rfl) : PT X (.Compare a [.LtE, .LtE] [b, c] pos) (TVT W (toT (rChn fLe fLe ra rb rc))) :=
  pt_weak (pt_chain (op_leP hr.units) (op_leP hr.units) ha hb hc hm) fun _ _ _ h => by rw [hK]; exact tv_chn p_cmp p_cmp (tvt_tB h)
/-! and, or, not -/
variable {rest : List Expr}
theorem e_not (ha : PE X a (TV W ra)) : PE X (.UnaryOp .Not a pos) (TV W (rNot ra)) := x_not ha
theorem e_one {op : BoolOp} (ha : PE X a (TV W ra)) : PE X (.BoolOp op [a] pos) (TV W ra) := pe_one ha
theorem e_and (ha : PE X a (TV W ra)) (hb : PE X (.BoolOp .And (b :: rest) pos) (TV W rb)) : PE X (.BoolOp .And (a :: b :: rest) pos) (TV W (rAnd ra rb)) := x_and ha hb
theorem e_or (ha : PE X a (TV W ra)) (hb : PE X (.BoolOp .Or (b :: rest) pos) (TV W rb)) : PE X (.BoolOp .Or (a :: b :: rest) pos) (TV W (rOr ra rb)) := x_or ha hb
theorem t_not (ha : PT X a (TVT W (toT ra))) : PT X (.UnaryOp .Not a pos) (TVT W (toT (rNot ra))) := y_not ha
theorem w_and1 (ha : PT X a (TVT W (toT ra))) : PW X (.BoolOp .And [a] pos) (TVT W (toT ra)) := pw_and1 ha
theorem w_or1 (ha : PT X a (TVT W (toT ra))) : PW X (.BoolOp .Or [a] pos) (TVT W (toT ra)) := pw_or1 ha
theorem w_and (ha : PT X a (TVT W (toT ra))) (hb : PW X (.BoolOp .And (b :: rest) pos) (TVT W (toT rb))) : PW X (.BoolOp .And (a :: b :: rest) pos) (TVT W (toT (rAnd ra rb))) := y_and ha hb
theorem w_or (ha : PT X a (TVT W (toT ra))) (hb : PW X (.BoolOp .Or (b :: rest) pos) (TVT W (toT rb))) : PW X (.BoolOp .Or (a :: b :: rest) pos) (TVT W (toT (rOr ra rb))) := y_or ha hb
theorem t_bool {e : Expr} (h : PW X e (TVT W (toT ra))) : PT X e (TVT W (toT ra)) := h.pt
theorem t_val (h : PE X e (TV W re)) (he : ∀ whole, isTrue e X.env whole = (do let v ← whole; standAt e.pos; holding [v] (truthy v)) := by intro _; rfl) : PT X e (TVT W (toT re)) := y_val h he
theorem e_if (hc : PT X c (TVT W (toT rc))) (ha : PE X a (TV W ra)) (hb : PE X b (TV W rb)) : PE X (.IfExp c a b pos) (TV W (rIf rc ra rb)) := x_if hc ha hb
/-! subscripts -/
theorem e_ix (hK : X.K = W.K) (ha : PE X a (TV W ra)) (hb : PE X b (TV W rb)) (hs : PlainIx b := by exact fun _ _ => rfl) : PE X (.Subscript a b pos) (TV W (run2 ra rb fIx)) := x_ix ha hb hK hs
variable {lo hi : Option Expr} {rl rh : RunO}
theorem e_sl (hK : X.K = W.K) (he : PE X e (TV W re)) (hl : PO X lo (TVO W rl)) (hh : PO X hi (TVO W rh)) : PE X (.Subscript e (.Slice lo hi none p2) pos) (TV W (rSlice re rl rh)) := x_slice hK he hl hh
theorem e_rev {j : Nat} {p1 : Pos} (hK : X.K = W.K) (he : PE X e (TV W re)) : PE X (.Subscript e (.Slice none none (some (.UnaryOp .USub (.Constant (.int 1) j p1) p2)) p3) pos) (TV W (run1 re fRev)) := x_rev hK he
/-! calls -/
theorem e_call {f : Addr} {fd : FuncData} {ps : List Str} {n : Nat} {fn : Fn} {cls : CT} (F : FnG X.prog X.w X.K X.mg X.base CX0 k f fd ps (spR X.K cls n fn)) (hcl : W.cls = cls) (hK : X.K = W.K) (hr : Room k X.A) (hg : NoG X.A) (hm : X.mg x = some (.ref f)) (hk : PySem.W.keepIn X.K (.ref f) = true)
    (hb : Binds X.K fd ps []) (ha : PA X (e :: es) (TVs W rs)) (hn : ∀ en, (rs en).all fun r => ∀ ds, onlyV r.1 = some ds → ds.length = n) (gl : Gl X x := by rfl) (hdb : (x == ("__debug__" : Str)) = false := by decide)
    (he : starEach (e :: es) X.env = (false, eval e X.env) :: starEach es X.env := by rfl) (hpl : (backTo pos (starEach es X.env)).any (·.1) = false := by rfl) : PE X (.Call (.Name x p) (e :: es) [] pos) (TV W (rCall fn rs)) :=
  pe_weak (pe_callG F hr hg gl hm hk hb .nil pass0 ha hdb he hpl) fun _ _ _ h => by rw [hK]; exact tv_call hcl hn h
theorem onlyV_len : ∀ {os : List Op} {ds : List D}, onlyV os = some ds → ds.length = os.length
  | [], ds, h => by cases h; rfl
  | .v d :: os, ds, h => by
    obtain ⟨es, e, h⟩ := Option.bind_eq_some_iff.mp h
    cases h
    simp [onlyV_len e]
  | .fr _ :: _, _, h => by cases h
  | .b _ :: _, _, h => by cases h
/-- as many results as runs -/
def LenR (rs : Runs) (n : Nat) : Prop := ∀ en, (rs en).all fun r => r.1.length = n
theorem l_nil : LenR rNil 0 := fun _ => rfl
theorem l_cons {n : Nat} (h : LenR rs n) : LenR (rCons re rs) (n + 1) := fun en => T.all_bind (T.all_triv fun a => T.all_bind (T.all_mono (h a.2) fun b hb => by show (_ :: b.1).length = _; simp [hb]))
theorem LenR.ok {n : Nat} (h : LenR rs n) : ∀ en, (rs en).all fun r => ∀ ds, onlyV r.1 = some ds → ds.length = n := fun en => T.all_mono (h en) fun a ha ds e => (onlyV_len e).trans ha
/-- a built-in function, a built-in type as a function -/
theorem e_blt {id : String} {r : List V → Hp → VK → Prop} {f : List D → Option (Bool × D)} (hc : CallR X (.builtin id) r) (hr : PureN W r f) (hm : X.mg x = none) (hv : bootBuiltins x = some (.builtin id)) (ha : PA X (e :: es) (TVs W rs)) (hg : Gl X x := by rfl) (hn : x ≠ "__name__" := by decide)
    (hdb : (x == ("__debug__" : Str)) = false := by decide) (he : starEach (e :: es) X.env = (false, eval e X.env) :: starEach es X.env := by rfl) (hpl : (backTo pos (starEach es X.env)).any (·.1) = false := by rfl) : PE X (.Call (.Name x p) (e :: es) [] pos) (TV W (runN rs f)) :=
  pe_weak (pe_callB hc hg hm hv ha hn hdb he hpl) fun _ _ _ h => tvN hr h
theorem e_bty {id : String} {r : List V → Hp → VK → Prop} {f : List D → Option (Bool × D)} (hc : CallR X (.type id) r) (hr : PureN W r f) (hm : X.mg x = none) (hv : bootBuiltins x = some (.type id)) (ha : PA X (e :: es) (TVs W rs)) (hg : Gl X x := by rfl) (hn : x ≠ "__name__" := by decide)
    (hdb : (x == ("__debug__" : Str)) = false := by decide) (he : starEach (e :: es) X.env = (false, eval e X.env) :: starEach es X.env := by rfl) (hpl : (backTo pos (starEach es X.env)).any (·.1) = false := by rfl) : PE X (.Call (.Name x p) (e :: es) [] pos) (TV W (runN rs f)) :=
  pe_weak (pe_callTy hc hg hm hv ha hn hdb he hpl) fun _ _ _ h => tvN hr h
end
end Sx
set_option Elab.async false
set_option linter.all false
set_option maxRecDepth 100000
set_option maxHeartbeats 4000000
set_option autoImplicit false
namespace Sx
open PySem L2
/-! ### no run locks a name -/
class ShRun (r : Run) : Prop where sh : ∀ en, (r en).all fun a => LkSub a.2 en
class ShTst (r : RunT) : Prop where sh : ∀ en, (r en).all fun a => LkSub a.2 en
class ShRuns (r : Runs) : Prop where sh : ∀ en, (r en).all fun a => LkSub a.2 en
class ShRO (r : RunO) : Prop where sh : ∀ en, (r en).all fun a => LkSub a.2 en
class ShIt (r : RunI) (l : Option Nat) : Prop where sh : ∀ en, (r en).all fun a => ∀ en', LkSub en' a.2 → LkSub (unl l en') en
class ShTg (t : Tg) (is : outParam (List Nat)) : Prop where sh : ShG t is
section
variable {ra rb rc : Run} {rs : Runs} {rl rh : RunO}
theorem all_seq {α β : Type} {r : En → T (α × En)} {f : α × En → T (β × En)} {en : En} (h : (r en).all fun a => LkSub a.2 en) (g : ∀ a : α × En, (f a).all fun b => LkSub b.2 a.2) : ((r en).bind f).all fun b => LkSub b.2 en :=
  T.all_bind (T.all_mono h fun a ha => T.all_mono (g a) fun _ hb => hb.trans ha)
theorem all_of {α β : Type} {o : Option α} {f : α → T (β × En)} {en : En} (g : ∀ a, o = some a → (f a).all fun b => LkSub b.2 en) : ((T.ofOpt o).bind f).all fun b => LkSub b.2 en :=
  T.all_bind (T.all_ofOpt g)
theorem all_ret1 {o : Option (Bool × D)} {en : En} : (ret1 o en).all fun b => LkSub b.2 en := all_of fun _ _ => LkSub.refl _
instance (i : Nat) : ShRun (rVar i) := ⟨fun en => by
  unfold rVar
  split
  · exact LkSub.refl _
  · exact (LkSub.set (s := some (.fz, _)) (by intro d h; cases h)).trans (LkSub.set (s := none) (by intro d h; cases h))
  · trivial⟩
instance (i : Nat) : ShRun (rMov i) := ⟨fun en => by
  unfold rMov
  split
  · exact LkSub.refl _
  · exact LkSub.set (s := none) (by intro d h; cases h)
  · trivial⟩
instance (i : Nat) : ShRun (rBor i) := ⟨fun en => by
  unfold rBor
  split
  · exact LkSub.refl _
  · trivial⟩
instance (d : D) : ShRun (rC d) := ⟨fun en => LkSub.refl _⟩
instance {f : D → Option (Bool × D)} [h : ShRun ra] : ShRun (run1 ra f) := ⟨fun en => all_seq (h.sh en) fun _ => all_ret1⟩
instance {f : D → D → Option (Bool × D)} [h : ShRun ra] [g : ShRun rb] : ShRun (run2 ra rb f) := ⟨fun en => all_seq (h.sh en) fun _ => all_seq (g.sh _) fun _ => all_ret1⟩
instance : ShRuns rNil := ⟨fun en => LkSub.refl _⟩
instance [h : ShRun ra] [g : ShRuns rs] : ShRuns (rCons ra rs) := ⟨fun en => all_seq (h.sh en) fun _ => all_seq (g.sh _) fun _ => LkSub.refl _⟩
instance {f : List D → Option (Bool × D)} [g : ShRuns rs] : ShRun (runN rs f) := ⟨fun en => all_seq (g.sh en) fun _ => all_ret1⟩
instance {f : List D → Option (Bool × D)} [g : ShRuns rs] : ShRun (rDisp f rs) := ⟨fun en => all_seq (g.sh en) fun _ => all_ret1⟩
instance {f : Fn} [g : ShRuns rs] : ShRun (rCall f rs) := ⟨fun en => all_seq (g.sh en) fun _ => all_of fun _ _ => T.all_bind (T.all_triv fun _ => LkSub.refl _)⟩
instance [h : ShRun ra] : ShTst (toT ra) := ⟨fun en => all_seq (h.sh en) fun _ => by
  split
  · exact LkSub.refl _
  · trivial⟩
instance [h : ShRun ra] [g : ShRun rb] : ShRun (rAnd ra rb) := ⟨fun en => all_seq (ShTst.sh (r := toT ra) en) fun _ => by
  split
  · exact g.sh _
  · exact LkSub.refl _⟩
instance [h : ShRun ra] [g : ShRun rb] : ShRun (rOr ra rb) := ⟨fun en => all_seq (ShTst.sh (r := toT ra) en) fun _ => by
  split
  · exact LkSub.refl _
  · exact g.sh _⟩
instance [h : ShRun ra] : ShRun (rNot ra) := ⟨fun en => all_seq (ShTst.sh (r := toT ra) en) fun _ => LkSub.refl _⟩
instance [h : ShRun rc] [h1 : ShRun ra] [g : ShRun rb] : ShRun (rIf rc ra rb) := ⟨fun en => all_seq (ShTst.sh (r := toT rc) en) fun _ => by
  split
  · exact h1.sh _
  · exact g.sh _⟩
instance : ShRO oNone := ⟨fun en => LkSub.refl _⟩
instance [h : ShRun ra] : ShRO (oSome ra) := ⟨fun en => all_seq (h.sh en) fun _ => all_of fun _ _ => LkSub.refl _⟩
instance [h : ShRun ra] [h1 : ShRO rl] [h2 : ShRO rh] : ShRun (rSlice ra rl rh) := ⟨fun en => all_seq (h.sh en) fun _ => all_seq (h1.sh _) fun _ => all_seq (h2.sh _) fun _ => all_ret1⟩
instance {f g : D → D → Option (Bool × D)} [h : ShRun ra] [h1 : ShRun rb] [h2 : ShRun rc] : ShRun (rChn f g ra rb rc) := ⟨fun en => all_seq (h.sh en) fun _ => all_seq (h1.sh _) fun _ => all_of fun k _ => by
  split
  · exact all_seq (h2.sh _) fun _ => all_ret1
  · exact LkSub.refl _⟩
instance {i : Nat} [h : ShRun ra] : ShRun (rApp i ra) := ⟨fun en => all_of fun _ _ => all_seq (h.sh en) fun _ => all_of fun _ _ => all_of fun _ _ => by
  split
  · exact LkSub.set (by intro d h; cases h)
  · trivial⟩
instance {i : Nat} [h : ShRun ra] : ShRun (rPopI i ra) := ⟨fun en => all_of fun _ _ => all_seq (h.sh en) fun _ => all_of fun _ _ => all_of fun _ _ => by
  split
  · exact all_of fun _ _ => LkSub.set (by intro d h; cases h)
  · trivial⟩
instance {i : Nat} : ShRun (rPop0 i) := ⟨fun en => all_of fun _ _ => all_of fun _ _ => LkSub.set (by intro d h; cases h)⟩
instance {i : Nat} : ShRun (rClr i) := ⟨fun en => all_of fun _ _ => LkSub.set (by intro d h; cases h)⟩
instance {f : Str → List D → Option (Bool × D)} [h : ShRun ra] [h1 : ShRuns rs] : ShRun (rStrM ra rs f) := ⟨fun en => all_seq (h.sh en) fun _ => all_of fun _ _ => all_seq (h1.sh _) fun _ => all_ret1⟩
/-! walks -/
instance [h : ShRun ra] : ShIt (iSeq ra) none := ⟨fun en => T.all_mono (all_seq (h.sh en) fun _ => all_of (f := fun ds => T.ret (ds, _)) fun _ _ => LkSub.refl _) fun _ h _ g => g.trans h⟩
instance [h : ShRuns rs] : ShIt (iRange rs) none := ⟨fun en => T.all_mono (all_seq (h.sh en) fun _ => all_of fun _ _ => LkSub.refl _) fun _ h _ g => g.trans h⟩
instance [h : ShRuns rs] : ShIt (iEnumR rs) none := ⟨fun en => T.all_mono (all_seq (h.sh en) fun _ => all_of fun _ _ => LkSub.refl _) fun _ h _ g => g.trans h⟩
theorem unl_sub {i : Nat} {en en' : En} (h : LkSub en' en) (hd : ∀ j d, j ≠ i → en[j]? = some (some (.lk, d)) → ∃ d', en'[j]? = some (some (.lk, d'))) : True := trivial
theorem lk_unl {i : Nat} {en : En} {j : Nat} {d : D} (h : (unl (some i) en)[j]? = some (some (.lk, d))) : j ≠ i ∧ en[j]? = some (some (.lk, d)) := by
  unfold unl at h
  simp only at h
  split at h
  · rename_i d' e
    rcases set_get h with ⟨_, q⟩ | ⟨ne, q⟩
    · cases q
    · exact ⟨fun z => ne z.symm, q⟩
  · rename_i e
    exact ⟨fun z => e d (z ▸ h), h⟩
instance (i : Nat) : ShIt (iLock i) (some i) := ⟨fun en => by
  unfold iLock
  split
  · intro en' h j d e
    obtain ⟨ne, e⟩ := lk_unl e
    obtain ⟨d', e'⟩ := h j d e
    rcases set_get e' with ⟨z, _⟩ | ⟨_, q⟩
    · exact absurd z.symm ne
    · exact ⟨d', q⟩
  · intro en' h j d e
    exact h j d (lk_unl e).2
  · trivial⟩
theorem wip_sub {en : En} (vs : List Nat) : LkSub (wip en vs) en := fun i d h => ⟨d, (wip_get h).2⟩
theorem back_sub {en en0 : En} (vs : List Nat) : LkSub (back en en0 vs) en := fun i d h => by
  rcases back_get h with ⟨_, q, _⟩ | ⟨_, q⟩
  · cases q
  · exact ⟨d, q⟩
theorem lcl_sub {t : Tg} {is : List Nat} {rt : RunT} {re : Run} {vs : List Nat} [h : ShTg t is] [h1 : ShTst rt] [h2 : ShRun re] : ∀ (ds : List D) (en : En) (acc : List D), (rLcL t rt re vs ds en acc).all fun b => LkSub b.2 en
  | [], en, acc => LkSub.refl _
  | d :: ds, en, acc => all_of fun e1 q => T.all_bind (T.all_mono (h1.sh e1) fun b hb => by
      have h0 := (h.sh d en e1 q).1
      split
      · exact T.all_bind (T.all_mono (h2.sh b.2) fun o ho => all_of fun y _ => T.all_mono (lcl_sub ds _ _) fun c hc => hc.trans ((wip_sub vs).trans (ho.trans (hb.trans h0))))
      · exact T.all_mono (lcl_sub ds _ _) fun c hc => hc.trans ((wip_sub vs).trans (hb.trans h0)))
instance {ri : RunI} {l : Option Nat} {t : Tg} {is : List Nat} {rt : RunT} {re : Run} {vs : List Nat} [h0 : ShIt ri l] [h : ShTg t is] [h1 : ShTst rt] [h2 : ShRun re] : ShRun (rLc ri l t rt re vs) := ⟨fun en => T.all_bind (T.all_mono (h0.sh en) fun a ha => by
  split
  · exact T.all_bind (T.all_mono (lcl_sub (is := is) a.1 (wip a.2 vs) []) fun r hr => ha _ ((back_sub vs).trans (hr.trans (wip_sub vs))))
  · trivial)⟩
/-! targets -/
instance (i : Nat) : ShTg (tgN i) [i] := ⟨fun d en en' h => by
  unfold tgN at h
  split at h
  · cases h
    refine ⟨LkSub.set (by intro d h; cases h), fun j hj d' e => ?_⟩
    simp only [List.mem_singleton] at hj
    subst hj
    rw [List.getElem?_set_self (by assumption)] at e
    cases e
  · cases h⟩
class ShTgs (t : Tgs) (is : outParam (List Nat)) : Prop where sh : ∀ ds en en', t ds en = some en' → LkSub en' en ∧ ∀ j ∈ is, ∀ d', en'[j]? ≠ some (some (.lk, d'))
instance : ShTgs tgNil [] := ⟨fun ds en en' h => by
  unfold tgNil at h
  split at h
  · cases h; exact ⟨LkSub.refl _, fun j hj => by simp at hj⟩
  · cases h⟩
instance {t : Tg} {u : Tgs} {is js : List Nat} [h1 : ShTg t is] [h2 : ShTgs u js] : ShTgs (tgCons t u) (is ++ js) := ⟨fun ds en en' h => by
  cases ds with
  | nil => cases h
  | cons d ds =>
    obtain ⟨e1, q1, q2⟩ := Option.bind_eq_some_iff.mp h
    obtain ⟨a1, b1⟩ := h1.sh d en e1 q1
    obtain ⟨a2, b2⟩ := h2.sh ds e1 en' q2
    refine ⟨a2.trans a1, fun j hj d' e => ?_⟩
    rcases List.mem_append.mp hj with hj | hj
    · obtain ⟨d2, e2⟩ := a2 j d' e
      exact b1 j hj d2 e2
    · exact b2 j hj d' e⟩
instance {n : Nat} {u : Tgs} {is : List Nat} [h : ShTgs u is] : ShTg (tgTup n u) is := ⟨fun d en en' q => by
  unfold tgTup at q
  split at q
  · split at q
    · exact h.sh _ _ _ q
    · cases q
  · cases q⟩
end
end Sx
set_option Elab.async false
set_option linter.all false
set_option maxRecDepth 100000
set_option maxHeartbeats 4000000
set_option autoImplicit false
namespace Sx
open PySem L2
def sFail : RunS := fun _ => .fail
/-- the value is stored at a target -/
def sTgt (t : Tg) (ra : Run) : RunS := fun en => (ra en).bind fun a => (T.ofOpt (valO a.1)).bind fun d => (T.ofOpt (t d a.2)).bind fun e => .ret (.nx, e)
/-- x, y = a, b with plain names -/
def sPar (i j : Nat) (ra rb : Run) : RunS := fun en => (ra en).bind fun a => (rb a.2).bind fun b => (T.ofOpt (putO i (a.1, b.2))).bind fun e => (T.ofOpt (putO j (b.1, e))).bind fun e' => .ret (.nx, e')
def rYes : RunT := fun en => .ret (true, en)
instance : ShTst rYes := ⟨fun en => LkSub.refl _⟩
section
variable {W : Wd} {S P : Addr → Prop} {en : En} {σ : St} {H : Hp} {X : Cx} {Dn : Ends} {e o : Expr} {es : List Expr} {ra rb re : Run} {rs rs2 : Runs} {pos apos p p' : Pos} {x : Str} {i : Nat} {st : Stmt}
theorem s_set (i : Nat) (hNd : X.N.Nodup) (he : PE X e (TV W ra)) (hN : X.N[i]? = some x := by rfl) (hx : Loc X.env.scope x := by first | exact Or.inl rfl | exact Or.inr rfl) (hs : swapsWith e (some (.Name x p')) pos.line X.env = pure false := by rfl)
    (hf : X.fn x = true ∨ X.env.scope.names.lookup x = some .local := by exact Or.inl rfl) : PS X (.Assign [.Name x p'] e pos) (TVS W (sSet i ra)) := ps_weak (ps_set hNd hN hx he hs hf) fun _ _ _ h => tvs_set h
theorem s_drop (he : PE X e (TV W ra)) (hs : swapsWith e none pos.line X.env = pure false := by rfl) : PS X (.Expr e pos) (TVS W (sDrop ra)) := ps_weak (ps_expr he hs) fun _ _ _ h => tvs_drop h
theorem s_never : PS X st (TVS W sFail) := ps_weak ps_never fun D σ H h => by
  obtain ⟨S, P, en, R, w⟩ := h
  exact w
theorem s_tgt {tg : Expr} {g : TG} {t : Tg} {is : List Nat} (he : PE X e (TV W ra)) (hg : PG X tg g) (gk : GOk W g t is) (hs : swapsWithSole [tg] e pos.line X.env = pure false := by rfl) (hw : swappedStores [tg] e X.env = pure none := by rfl)
    (h1 : (assignEach [tg] X.env).map (·.2) = [assign tg X.env] := by rfl) : PS X (.Assign [tg] e pos) (TVS W (sTgt t ra)) := ps_weak (ps_asg he hg hs hw h1) fun D σ H h => by
  obtain ⟨S, P, en, R, w⟩ := h
  have w := (T.wp_bind _ _ _).mp w
  refine ⟨S, P, en, R, T.wp_mono w fun r q v H' S' P' e R' ok => ?_⟩
  obtain ⟨d, hd, q⟩ := T.wp_ofOpt ((T.wp_bind _ _ _).mp q)
  obtain ⟨en2, ht, q⟩ := T.wp_ofOpt ((T.wp_bind _ _ _).mp q)
  obtain ⟨S2, P2, e2, R2, dz⟩ := ok.valz R' hd
  exact gk S2 P2 r.2 en2 v d σ H' D.nx R2 dz ht fun σ' _ _ R3 => q σ' H' S2 P2 (e.trans e2) R3
theorem Free.put {q : Addr} {d : D} {v : V} (hf : Free W P en σ q) (hl : en.length = σ.length) (hi : i < en.length) {f : Fg} (hv : v ≠ .ref q ∨ f = .fz) : Free W P (en.set i (some (f, d))) (σ.set i (some v)) q := by
  refine ⟨hf.1, hf.2.1, hf.2.2.1, fun j g d' e nf => ?_⟩
  rcases set_get e with ⟨rfl, q1⟩ | ⟨ne, q1⟩
  · cases q1
    rw [List.getElem?_set_self (by rw [← hl]; exact hi)]
    intro z
    cases z
    exact hv.elim (fun h => h rfl) nf
  · rw [List.getElem?_set_ne ne]
    exact hf.2.2.2 j g d' q1 nf
theorem tvs_par' [sh : ShRun rb] {i j : Nat} (h : TVS W (sPar i j ra rb) Dn σ H) : tCons (TV W ra) (tCons (TV W rb) tNil) σ H fun vs H1 => ∃ v w, vs = [v, w] ∧ ∀ H3, (∀ a o, H1 a = some o → H3 a = some o) → Dn.nx ((σ.set i (some v)).set j (some w)) H3 := by
  have late : ∀ {S P S2 P2 : Addr → Prop} {H H2 H3 : Hp} {en : En} {τ : St}, (∀ σ' H' S' P', Ext S P H S' P' H' → Rel W S' P' en σ' H' → Dn.nx σ' H') → Ext S P H S2 P2 H2 → Rel W S2 P2 en τ H2 → (∀ a o, H2 a = some o → H3 a = some o) → Dn.nx τ H3 := fun k e R hk => by
    obtain ⟨e3, R3⟩ := R.same hk (fun _ h => h) (fun _ h => .inl h) fun a h => by obtain ⟨o, z⟩ := R.dom a h; exact ⟨o, hk a o z⟩
    exact k _ _ _ _ (e.trans e3) R3
  obtain ⟨S, P, en, R, w⟩ := h
  have w := (T.wp_bind _ _ _).mp w
  refine ⟨S, P, en, R, T.wp_mono w fun a q v H1 S1 P1 e1 R1 ok => ?_⟩
  obtain ⟨oa, ena⟩ := a
  have q := T.wp_all ((T.wp_bind _ _ _).mp q) (sh.sh ena)
  cases oa with
  | b k =>
    refine ⟨S1, P1, ena, R1, T.wp_mono q fun b ⟨q, _⟩ u H2 S2 P2 e2 R2 okb => ?_⟩
    obtain ⟨en3, h3, q⟩ := T.wp_ofOpt ((T.wp_bind _ _ _).mp q)
    unfold putO at h3
    split at h3 <;> cases h3
  | v d =>
    refine ⟨S1, P1, ena, R1, T.wp_mono q fun b ⟨q, _⟩ u H2 S2 P2 e2 R2 okb => ?_⟩
    obtain ⟨en3, h3, q⟩ := T.wp_ofOpt ((T.wp_bind _ _ _).mp q)
    obtain ⟨en4, h4, q4⟩ := T.wp_ofOpt ((T.wp_bind _ _ _).mp q)
    have dz : Dz W S2 H2 v d := R1.top e2 ok
    unfold putO at h3
    split at h3
    · rename_i hl
      cases h3
      have R3 := R2.put hl dz
      refine ⟨v, u, rfl, fun H3 hk => late q4 (e1.trans e2) (OpOk.put (a := (b.1, _)) R3 ?_ h4) hk⟩
      obtain ⟨ob, enb⟩ := b
      cases ob with
      | v d2 => exact okb
      | fr d2 =>
        obtain ⟨dv, pp, uu, rfl, hf, hu⟩ := okb
        exact ⟨dv, pp, uu, rfl, hf.put R2.len hl (.inr rfl), hu⟩
      | b k =>
        unfold putO at h4
        split at h4 <;> cases h4
    · cases h3
  | fr d =>
    obtain ⟨dv, pp, uu, rfl, hf, hu⟩ := ok
    have Rg := R1.guard hf hu
    have nS1 : ¬ S1 pp := fun h => hf.1 (R1.sp pp h)
    refine ⟨S1, _, ena, Rg, T.wp_mono q fun b ⟨q, sb⟩ u H2 S2 P2 e2 R2 okb => ?_⟩
    obtain ⟨en3, h3, q⟩ := T.wp_ofOpt ((T.wp_bind _ _ _).mp q)
    obtain ⟨en4, h4, q4⟩ := T.wp_ofOpt ((T.wp_bind _ _ _).mp q)
    have pP2 : P2 pp := e2.p pp (.inr rfl)
    have nS2 : ¬ S2 pp := fun h => (e2.n pp h).elim nS1 fun z => z (.inr rfl)
    have hu2 : H2 pp = some uu := (e2.h pp (.inr rfl)).trans hu
    have same : upd H2 pp uu = H2 := by
      funext a
      by_cases h : a = pp
      · subst h; rw [upd_same, hu2]
      · exact upd_ne h
    obtain ⟨R3, f3⟩ := R2.turn (u := uu) pP2 nS2 (fun k d' e hv => by
      obtain ⟨d2, e'⟩ := sb k d' e
      exact hf.2.2.2 k .lk d2 e' (by decide) hv) (by rw [same]; exact R2.tb)
    rw [same] at R3
    have ext : Ext S1 P1 H1 S2 (fun a => P2 a ∧ a ≠ pp) H2 := ⟨e2.s, fun a h => ⟨e2.p a (.inl h), fun z => hf.1 (z ▸ h)⟩, fun a h => e2.h a (.inl h), fun a h => (e2.n a h).imp id fun z w => z (.inl w)⟩
    have dv2 : Dv W S2 H2 (.ref pp) d := dv.mono e2.s (fun a h => e2.h a (.inl (R1.sp a h))) (by
      have : H2 pp = H1 pp := e2.h pp (.inr rfl)
      cases d <;> first | exact trivial | exact this)
    unfold putO at h3
    split at h3
    · rename_i hl
      cases h3
      have R4 := R3.take hl dv2 f3 hu2
      refine ⟨.ref pp, u, rfl, fun H3 hk => late q4 (e1.trans ext) (OpOk.put (a := (b.1, _)) R4 ?_ h4) hk⟩
      obtain ⟨ob, enb⟩ := b
      cases ob with
      | v d2 => exact okb
      | fr d2 =>
        obtain ⟨dv', p2, u2, rfl, hf2, hu'⟩ := okb
        refine ⟨dv', p2, u2, rfl, Free.put ⟨fun h => hf2.1 h.1, hf2.2.1, hf2.2.2.1, hf2.2.2.2⟩ R3.len hl (.inl fun z => ?_), hu'⟩
        cases z
        exact hf2.1 pP2
      | b k =>
        unfold putO at h4
        split at h4 <;> cases h4
    · cases h3
theorem tvs_par [sh : ShRun rb] {i j : Nat} (h : TVS W (sPar i j ra rb) Dn σ H) : tPar i j (tCons (TV W ra) (tCons (TV W rb) tNil)) Dn σ H := by
  obtain ⟨S, P, en, R, w⟩ := tvs_par' h
  exact ⟨S, P, en, R, T.wp_mono w fun r q v H1 S1 P1 e1 R1 ok => by
    obtain ⟨S2, P2, en2, R2, w2⟩ := q v H1 S1 P1 e1 R1 ok
    exact ⟨S2, P2, en2, R2, T.wp_mono w2 fun r2 q2 u H2 S3 P3 e3 R3 ok2 => by
      obtain ⟨v', w', e, k⟩ := q2 u H2 S3 P3 e3 R3 ok2
      exact ⟨v', w', e, k _ fun _ _ h => h⟩⟩⟩
theorem tvs_parU [sh : ShRun rb] {i j : Nat} (h : TVS W (sPar i j ra rb) Dn σ H) : tAsg (tTup (tCons (TV W ra) (tCons (TV W rb) tNil))) (gTup W.K 2 (gCons (gName i) (gCons (gName j) gNil))) Dn σ H := by
  obtain ⟨S, P, en, R, w⟩ := tvs_par' h
  exact ⟨S, P, en, R, T.wp_mono w fun r q v H1 S1 P1 e1 R1 ok => by
    obtain ⟨S2, P2, en2, R2, w2⟩ := q v H1 S1 P1 e1 R1 ok
    exact ⟨S2, P2, en2, R2, T.wp_mono w2 fun r2 q2 u H2 S3 P3 e3 R3 ok2 => by
      obtain ⟨v', w', e, k⟩ := q2 u H2 S3 P3 e3 R3 ok2
      cases e
      exact ⟨by show 2 ≤ sizeLine; rw [sizeLine_eq]; decide, fun p hp => ⟨p, [v, u], rfl, SqT.of upd_same, rfl, v, [u], rfl, u, [], rfl, rfl, k _ (upd_keeps hp)⟩⟩⟩⟩
theorem s_parU {x y : Str} {a b : Expr} {px py pt pt2 : Pos} {kt k2 : Nat} [ShRun rb] (i j : Nat) (hNd : X.N.Nodup) (hK : X.K = W.K) (ha : PE X a (TV W ra)) (hb : PE X b (TV W rb)) (hc : X.calm = true := by rfl) (hi : X.N[i]? = some x := by rfl) (hj : X.N[j]? = some y := by rfl)
    (hx : Loc X.env.scope x := by first | exact Or.inl rfl | exact Or.inr rfl) (hy : Loc X.env.scope y := by first | exact Or.inl rfl | exact Or.inr rfl) (hfx : X.fn x = true ∨ X.env.scope.names.lookup x = some .local := by exact Or.inl rfl) (hfy : X.fn y = true ∨ X.env.scope.names.lookup y = some .local := by exact Or.inl rfl)
    (hs : swapsWithSole [.Tuple [.Name x px, .Name y py] kt pt] (.Tuple [a, b] k2 pt2) pos.line X.env = pure false := by rfl) (hw : swappedStores [.Tuple [.Name x px, .Name y py] kt pt] (.Tuple [a, b] k2 pt2) X.env = pure none := by rfl)
    (h1 : starEach [a, b] X.env = (false, eval a X.env) :: starEach [b] X.env := by rfl) (h2 : starEach [b] X.env = (false, eval b X.env) :: starEach [] X.env := by rfl)
    (t1 : (assignEach [.Tuple [.Name x px, .Name y py] kt pt] X.env).map (·.2) = [assign (.Tuple [.Name x px, .Name y py] kt pt) X.env] := by rfl)
    (t2 : (assignEach [.Name x px, .Name y py] X.env).map (·.2) = assign (.Name x px) X.env :: (assignEach [.Name y py] X.env).map (·.2) := by rfl) (t3 : (assignEach [.Name y py] X.env).map (·.2) = assign (.Name y py) X.env :: (assignEach [] X.env).map (·.2) := by rfl)
    (t4 : (assignEach [.Name x px, .Name y py] X.env).length = 2 := by rfl) (t5 : (assignEach [.Name x px, .Name y py] X.env).findIdx? (·.1) = none := by rfl) :
    PS X (.Assign [.Tuple [.Name x px, .Name y py] kt pt] (.Tuple [a, b] k2 pt2) pos) (TVS W (sPar i j ra rb)) :=
  ps_weak (ps_asg (pe_tup (pa_cons ha (pa_cons hb pa_nil h2) h1)) (pg_tup hc (pgs_cons (pg_name hNd hi hx hfx) (pgs_cons (pg_name hNd hj hy hfy) pgs_nil t3) t2) t4 t5) hs hw t1) fun _ _ _ h => by rw [hK]; exact tvs_parU h
theorem s_par {x y : Str} {a b : Expr} {px py pt pt2 : Pos} {kt k2 : Nat} [ShRun rb] (i j : Nat) (hNd : X.N.Nodup) (ha : PE X a (TV W ra)) (hb : PE X b (TV W rb)) (hc : X.calm = true := by rfl) (hi : X.N[i]? = some x := by rfl) (hj : X.N[j]? = some y := by rfl) (hij : i ≠ j := by decide)
    (hx : X.env.scope.names.lookup x = some .local := by rfl) (hy : X.env.scope.names.lookup y = some .local := by rfl) (hw : swappedStores [.Tuple [.Name x px, .Name y py] kt pt] (.Tuple [a, b] k2 pt2) X.env = pure (some [x, y]) := by rfl)
    (hs : swapsWithSole [.Tuple [.Name x px, .Name y py] kt pt] (.Tuple [a, b] k2 pt2) pos.line X.env = pure false := by rfl) (h1 : starEach [a, b] X.env = (false, eval a X.env) :: starEach [b] X.env := by rfl) (h2 : starEach [b] X.env = (false, eval b X.env) :: starEach [] X.env := by rfl) :
    PS X (.Assign [.Tuple [.Name x px, .Name y py] kt pt] (.Tuple [a, b] k2 pt2) pos) (TVS W (sPar i j ra rb)) :=
  ps_weak (ps_par hc hNd hi hj hij hx hy (pa_cons ha (pa_cons hb pa_nil h2) h1) hw hs) fun _ _ _ h => tvs_par h
/-! loops -/
theorem s_for {tg iter : Expr} {a : List Stmt} {ri : RunI} {g : TG} {t : Tg} {is : List Nat} {rb : RunS} (hi : PI X tg iter (TVI W ri none)) (hg : PG X tg g) (gk : GOk W g t is) (hb : PSs X a (TVS W rb)) (hp : PassesOwn (model X.prog X.w) X.A X.env X.xe := by exact PassesOwn.never) (hc : X.calm = true := by rfl) (hs : ∀ x, foldedSetIterable iter X.env x = pure x := by intro _; rfl) :
    PS X (.For tg iter a [] pos) (TVS W (sFor ri none t rb)) := z_for hp hc hi hg gk hb hs
theorem s_while {c : Expr} {a : List Stmt} {rc : RunT} {rb : RunS} (n : Nat) (hc : PT X c (TVT W rc)) (ha : PSs X a (TVS W rb)) (hp : PassesOwn (model X.prog X.w) X.A X.env X.xe := by exact PassesOwn.never) : PS X (.While c a [] pos) (TVS W (sWhile rc rb n)) := z_while hp hc ha
/-! comprehensions -/
theorem ts_nil : PTs X [] (TVT W rYes) := ⟨fun pins s σ H Q I h => pts_nil.run pins s σ H Q I (by
  obtain ⟨S, P, en, R, w⟩ := h
  exact w H S P .refl R)⟩
theorem sz4096 : (4096 : Nat) < sizeLine := by rw [sizeLine_eq]; decide
theorem e_lc {tg iter elt : Expr} {ifs : List Expr} {scope : Scope} {ri : RunI} {l : Option Nat} {g : TG} {t : Tg} {is : List Nat} {rt : RunT} [h1 : ShTg t is] [h2 : ShTst rt] [h3 : ShRun re] (own : List (Str × Nat)) (hNd : X.N.Nodup) (ok : BlkOk X.N X.env.scope scope own) (hi : PI X tg iter (TVI W ri l))
    (hg : ∀ (s : Shared) (H : Hp) (C : Addr) (cl : List (Str × Addr)) (fp : List Addr), PG (X.blk s H scope (compEnvC scope cl C X.env) fp) tg g) (gk : GOk W g t is)
    (ht : ∀ (s : Shared) (H : Hp) (C : Addr) (cl : List (Str × Addr)) (fp : List Addr), PTs (X.blk s H scope (compEnvC scope cl C X.env) fp) ifs (TVT W rt))
    (he : ∀ (s : Shared) (H : Hp) (C : Addr) (cl : List (Str × Addr)) (fp : List Addr), PE (X.blk s H scope (compEnvC scope cl C X.env) fp) elt (TV W re)) (his : ∀ i ∈ is, i ∈ own.map (·.2) := by decide) (hc : X.calm = true := by rfl) (hs : ∀ x, foldedSetIterable iter X.env x = pure x := by intro _; rfl) :
    PE X (.ListComp elt [⟨tg, iter, ifs, 0⟩] scope pos) (TV W (rLc ri l t rt re (own.map (·.2)))) :=
  pe_weak (pe_lc hc hNd hi ok hg ht he hs) fun σ H Q h => tv_lc gk h1.sh his h2.sh h3.sh sz4096 h
theorem s_setLc {tg iter elt : Expr} {ifs : List Expr} {scope : Scope} {ri : RunI} {l : Option Nat} {g : TG} {t : Tg} {is : List Nat} {rt : RunT} {y : Str} {py spos : Pos} [h1 : ShTg t is] [h2 : ShTst rt] [h3 : ShRun re] (i : Nat) (own : List (Str × Nat)) (hNd : X.N.Nodup) (ok : BlkOk X.N X.env.scope scope own) (hi : PI X tg iter (TVI W ri l))
    (hg : ∀ (s : Shared) (H : Hp) (C : Addr) (cl : List (Str × Addr)) (fp : List Addr), PG (X.blk s H scope (compEnvC scope cl C X.env) fp) tg g) (gk : GOk W g t is)
    (ht : ∀ (s : Shared) (H : Hp) (C : Addr) (cl : List (Str × Addr)) (fp : List Addr), PTs (X.blk s H scope (compEnvC scope cl C X.env) fp) ifs (TVT W rt))
    (he : ∀ (s : Shared) (H : Hp) (C : Addr) (cl : List (Str × Addr)) (fp : List Addr), PE (X.blk s H scope (compEnvC scope cl C X.env) fp) elt (TV W re)) (his : ∀ i ∈ is, i ∈ own.map (·.2) := by decide) (hc : X.calm = true := by rfl) (hs : ∀ x, foldedSetIterable iter X.env x = pure x := by intro _; rfl)
    (hy : X.N[i]? = some y := by rfl) (hyl : X.env.scope.names.lookup y = some .local := by rfl) (hsw : swapsWith (.ListComp elt [⟨tg, iter, ifs, 0⟩] scope pos) (some (.Name y py)) spos.line X.env = pure true := by rfl) :
    PS X (.Assign [.Name y py] (.ListComp elt [⟨tg, iter, ifs, 0⟩] scope pos) spos) (TVS W (sSet i (rLc ri l t rt re (own.map (·.2))))) :=
  ps_weak (ps_setLc hc hNd hy hyl hsw hi ok hg ht he hs) fun D σ H h => by
    have h := tvs_set h
    exact tv_lc gk h1.sh his h2.sh h3.sh sz4096 h
/-! calls -/
variable {cls : CT} {f : Addr} {fd : FuncData} {ps ks : List Str} {k : Nat} {kws : List Keyword}
theorem tv_call0 {fn : Fn} {Q : VK} (hcl : W.cls = cls) (h : TV W (rCall fn rNil) σ H Q) : tCall (spR W.K cls 0 fn) [] E0 tNil σ H Q := by
  have := tv_call (n := 0) (rs := rNil) hcl (fun en => (fun ds e => by cases e; rfl : ∀ ds, onlyV ([] : List Op) = some ds → ds.length = 0)) h
  obtain ⟨S, P, en, R, w⟩ := this
  exact w [] H S P .refl R trivial
theorem e_call0 {fn : Fn} (F : FnG X.prog X.w X.K X.mg X.base CX0 k f fd ps (spR X.K cls 0 fn)) (hcl : W.cls = cls) (hK : X.K = W.K) (hr : Room k X.A) (hg : NoG X.A) (hm : X.mg x = some (.ref f)) (hk : PySem.W.keepIn X.K (.ref f) = true) (hb : Binds X.K fd ps []) (gl : Gl X x := by rfl) (hdb : (x == ("__debug__" : Str)) = false := by decide) :
    PE X (.Call (.Name x p) [] [] pos) (TV W (rCall fn rNil)) := pe_weak (pe_callG0 F hr hg gl hm hk hb .nil pass0 hdb) fun _ _ _ h => by rw [hK]; exact tv_call0 hcl h
/-- a call with keywords: q puts the data in the parameters' order -/
def rCallK (f : Fn) (q : List D → List D → List D) (rs rs2 : Runs) : Run := fun en => (rs en).bind fun a => (rs2 a.2).bind fun b => (T.ofOpt (onlyV a.1)).bind fun ds => (T.ofOpt (onlyV b.1)).bind fun es => (f (q ds es)).bind fun c => .ret (mkO c, b.2)
instance {fn : Fn} {q : List D → List D → List D} [h : ShRuns rs] [g : ShRuns rs2] : ShRun (rCallK fn q rs rs2) := ⟨fun en => all_seq (h.sh en) fun _ => all_seq (g.sh _) fun _ => all_of fun _ _ => all_of fun _ _ => T.all_bind (T.all_triv fun _ => LkSub.refl _)⟩
def PermOk (W : Wd) (n : Nat) (gV : List V → List V → List V) (q : List D → List D → List D) : Prop := ∀ (S : Addr → Prop) (H : Hp) vs ds ws es, DvL W S H vs ds → DvL W S H ws es → DvL W S H (gV vs ws) (q ds es)
theorem tv_callK {n : Nat} {fn : Fn} {q : List D → List D → List D} {gV : List V → List V → List V} {Q : VK} (hcl : W.cls = cls) (hq : PermOk W n gV q) (hn : ∀ en, (rs en).all fun a => (rs2 a.2).all fun b => ∀ ds es, onlyV a.1 = some ds → onlyV b.1 = some es → (q ds es).length = n) (h : TV W (rCallK fn q rs rs2) σ H Q) :
    tCallK (spR W.K cls n fn) gV E0 (TVs W rs) (TVs W rs2) σ H Q := by
  obtain ⟨S, P, en, R, w⟩ := h
  have w := T.wp_all ((T.wp_bind _ _ _).mp w) (hn en)
  refine ⟨S, P, en, R, T.wp_mono w fun r ⟨qq, len⟩ vs H1 S1 P1 e1 R1 pe => ?_⟩
  have qq := T.wp_all ((T.wp_bind _ _ _).mp qq) len
  refine ⟨S1, P1, r.2, R1, T.wp_mono qq fun r2 ⟨qq, len⟩ ws H2 S2 P2 e2 R2 pe2 => ?_⟩
  obtain ⟨ds, hds, qq⟩ := T.wp_ofOpt ((T.wp_bind _ _ _).mp qq)
  obtain ⟨es, hes, qq⟩ := T.wp_ofOpt ((T.wp_bind _ _ _).mp qq)
  have d1 := (pe.ext R1 e2).only hds
  have d2 := pe2.only hes
  have dl := hq S2 H2 vs ds ws es d1 d2
  have qq := (T.wp_bind _ _ _).mp qq
  refine ⟨dl.len.trans (len ds es hds hes), W, S2, _, rfl, hcl, R2.dr, R2.tb, R2.dom, fun w => R2.drP.1 (R2.sp _ w), R2.drP.2.sub R2.sp, dl, T.wp_mono qq fun c qq v H' S' P' e ro ok => ?_⟩
  obtain ⟨e3, R3, ok3⟩ := R2.call e ro ok
  exact qq v H' S' _ ((e1.trans e2).trans e3) R3 ok3
theorem k_nil : PK X [] (TVs W rNil) := ⟨fun pos pins s σ H Q I h => pk_nil.run pos pins s σ H Q I (tvs_nil h)⟩
theorem k_cons {nm : Option Str} {kpos : Pos} (ha : PE X e (TV W ra)) (hr : PK X kws (TVs W rs)) : PK X (⟨nm, e, kpos⟩ :: kws) (TVs W (rCons ra rs)) := ⟨fun pos pins s σ H Q I h => (pk_cons ha hr).run pos pins s σ H Q I (tvs_cons h)⟩
variable {g : List Value → List Value → List Value} {gV : List V → List V → List V}
/-- keywords alone -/
theorem e_callK0 {n : Nat} {fn : Fn} {q : List D → List D → List D} (F : FnG X.prog X.w X.K X.mg X.base CX0 k f fd ps (spR X.K cls n fn)) (hcl : W.cls = cls) (hK : X.K = W.K) (hr : Room k X.A) (hg : NoG X.A) (hm : X.mg x = some (.ref f)) (hk : PySem.W.keepIn X.K (.ref f) = true) (hb : KBinds X.K fd ps ks g gV) (hq : PermOk W n gV q) (ha : PK X kws (TVs W rs2))
    (hn : ∀ en : En, (rs2 en).all fun b => ∀ ds, onlyV b.1 = some ds → (q [] ds).length = n) (hall : (backToKw pos (keywordEach kws X.env)).all (·.1.isSome) = true := by rfl) (hks : (backToKw pos (keywordEach kws X.env)).filterMap (·.1) = ks := by rfl) (gl : Gl X x := by rfl) (hdb : (x == ("__debug__" : Str)) = false := by decide)
    (hpl : ((backTo pos (starEach [] X.env)).any (·.1) || (backToKw pos (keywordEach kws X.env)).any (·.1.isNone)) = false := by rfl) : PE X (.Call (.Name x p) [] kws pos) (TV W (rCallK fn q rNil rs2)) :=
  pe_weak (pe_callGK0 F hr hg gl hm hk hb pass0 ha hall hks hdb hpl) fun σ H Q h => by
    rw [hK]
    have h := tv_callK (gV := gV) (rs := rNil) (n := n) hcl hq (fun en => show (rs2 en).all _ from T.all_mono (hn en) fun b hb ds es hd he => by cases hd; exact hb es he) h
    obtain ⟨S, P, en, R, w⟩ := h
    exact w [] H S P .refl R trivial
/-! methods of lists, texts -/
theorem m_join (hK : X.K = W.K) (ho : PE X o (TV W ra)) (he : PE X e (TV W re)) (hb : attributeBase o "join" X.env (eval o X.env) = eval o X.env := by rfl) (hf : few e X pos := by rfl) (hl : (apos.endLine == pos.line) = true := by rfl) (hs : starEach [e] X.env = (false, eval e X.env) :: starEach [] X.env := by rfl) (hp : (backTo pos (starEach [] X.env)).any (·.1) = false := by rfl) :
    PE X (.Call (.Attribute o "join" apos) [e] [] pos) (TV W (rStrM ra (rCons re rNil) fJoin)) := x_join hK ho he hb hf hl hs hp
theorem m_app (i : Nat) (hK : X.K = W.K) (ho : PE X o (tVar i)) (he : PE X e (TV W re)) (hb : attributeBase o "append" X.env (eval o X.env) = eval o X.env := by rfl) (hf : few e X pos := by rfl) (hl : (apos.endLine == pos.line) = true := by rfl) (hs : starEach [e] X.env = (false, eval e X.env) :: starEach [] X.env := by rfl) (hp : (backTo pos (starEach [] X.env)).any (·.1) = false := by rfl) :
    PE X (.Call (.Attribute o "append" apos) [e] [] pos) (TV W (rApp i re)) := x_app hK ho he hb hf hl hs hp
theorem m_popI (i : Nat) (hK : X.K = W.K) (ho : PE X o (tVar i)) (he : PE X e (TV W re)) (hb : attributeBase o "pop" X.env (eval o X.env) = eval o X.env := by rfl) (hf : few e X pos := by rfl) (hl : (apos.endLine == pos.line) = true := by rfl) (hs : starEach [e] X.env = (false, eval e X.env) :: starEach [] X.env := by rfl) (hp : (backTo pos (starEach [] X.env)).any (·.1) = false := by rfl) :
    PE X (.Call (.Attribute o "pop" apos) [e] [] pos) (TV W (rPopI i re)) := x_popI hK ho he hb hf hl hs hp
theorem m_pop0 (i : Nat) (hK : X.K = W.K) (ho : PE X o (tVar i)) (hb : attributeBase o "pop" X.env (eval o X.env) = eval o X.env := by rfl) (hl : (apos.endLine == pos.line) = true := by rfl) : PE X (.Call (.Attribute o "pop" apos) [] [] pos) (TV W (rPop0 i)) := x_pop0 hK ho hb hl
theorem m_clr (i : Nat) (hK : X.K = W.K) (ho : PE X o (tVar i)) (hb : attributeBase o "clear" X.env (eval o X.env) = eval o X.env := by rfl) (hl : (apos.endLine == pos.line) = true := by rfl) : PE X (.Call (.Attribute o "clear" apos) [] [] pos) (TV W (rClr i)) := x_clr hK ho hb hl
end
end Sx
set_option Elab.async false
set_option linter.all false
set_option maxRecDepth 100000
set_option maxHeartbeats 4000000
set_option autoImplicit false
namespace Sx
open PySem L2 PyProof.Rows
/-! ### how many different texts -/
def mStep (σ : List Str) (v : Str) : List Str := if σ.any (· == v) then σ else σ ++ [v]
def mets (xs : List Str) : List Str := xs.foldl mStep []
theorem mets_snoc (xs : List Str) (v : Str) : mets (xs ++ [v]) = mStep (mets xs) v := by
  unfold mets
  rw [List.foldl_append]
  rfl
theorem mStep_any (σ : List Str) (v k : Str) : (mStep σ v).any (· == k) = (σ.any (· == k) || decide (k = v)) := by
  unfold mStep
  split
  · rename_i h
    by_cases e : k = v
    · subst e; simp [h]
    · simp [e]
  · rw [List.any_append]
    by_cases e : k = v
    · subst e; simp
    · have : (v == k) = false := beq_eq_false_iff_ne.mpr fun z => e z.symm
      simp [this, e]
theorem mStep_len (σ : List Str) (v : Str) : (mStep σ v).length = if σ.any (· == v) then σ.length else σ.length + 1 := by
  unfold mStep; split <;> simp
theorem foldl_mStep_le : ∀ (xs σ : List Str), (xs.foldl mStep σ).length ≤ σ.length + xs.length
  | [], σ => Nat.le_refl _
  | x :: xs, σ => by
    have h := foldl_mStep_le xs (mStep σ x)
    have : (mStep σ x).length ≤ σ.length + 1 := by rw [mStep_len]; split <;> omega
    show (xs.foldl mStep (mStep σ x)).length ≤ _
    rw [List.length_cons]
    omega
theorem mets_le (xs : List Str) : (mets xs).length ≤ xs.length := by simpa [mets] using foldl_mStep_le xs []
section
variable {Pr : Program} {w : World} {A : Around} {R : Result → Shared → Prop} {I : Addr} {fp wr : List Addr} {G : Array GenState → Array GenState → Prop} {n : Nat} {Pv : Nat → Value → Prop} {St : Nat → Shared → Prop}
theorem take_snoc {xs : List Str} {i : Nat} (h : i < xs.length) : xs.take (i + 1) = xs.take i ++ [xs.getD i Str.empty] := by
  rw [List.take_succ, List.getElem?_eq_getElem h, List.getD_eq_getElem?_getD, List.getElem?_eq_getElem h]
  rfl
/-- the filling of a set by texts -/
theorem fillS (T : WalksS Pr w A.in1 I fp wr G n Pv St) (D0 : Addr) (out : D0 ∉ fp) (xs : List Str) (len : xs.length = n) (few : n < 4096) (at' : ∀ i v, Pv i v → ∃ t, v = .str (xs.getD i Str.empty) t) :
    ∀ (m i : Nat) (s : Shared), n - i = m → i ≤ n → St i s → s.heap.SetOf (strKind Pr w) D0 (fun y => (mets (xs.take i)).any (· == y)) (mets (xs.take i)).length →
      (∀ s2, Moved (D0 :: wr) G s s2 → s2.heap.SetOf (strKind Pr w) D0 (fun y => (mets xs).any (· == y)) (mets xs).length → R (.ok (.ret .none)) s2) → codeAny (model Pr w) A (.builtin "set.update.loop" ⟨[.ref D0, .ref I], []⟩) R s := by
  have notw : D0 ∉ wr := fun h => out (T.sub _ h)
  have keep : ∀ {s s2 : Shared} {S : Str → Bool} {c : Nat}, Moved wr G s s2 → s.heap.SetOf (strKind Pr w) D0 S c → s2.heap.SetOf (strKind Pr w) D0 S c := fun mv ⟨o, es, ep, tb, ho, z⟩ => ⟨o, es, ep, tb, mv.heap D0 _ notw ho, z⟩
  intro m
  induction m with
  | zero =>
    intro i s hm hi st hS fin
    obtain rfl : i = n := by omega
    refine codeAny_builtin (PyProof.Rows.F.entry_set_update_loop) ?_
    rw [Around.under_plainId PyProof.Rows.F.plain_set_update_loop]
    refine wpAny_bind (m := pyNext (.ref I)) (T.done s _ _ st fun s2 mv => wpAny_pure (fin s2 (mv.mono fun b hb => List.mem_cons_of_mem _ hb) ?_))
    rw [← len, List.take_length] at hS
    exact keep mv hS
  | succ m ih =>
    intro i s hm hi st hS fin
    have hlt : i < n := by omega
    refine codeAny_builtin (PyProof.Rows.F.entry_set_update_loop) ?_
    rw [Around.under_plainId PyProof.Rows.F.plain_set_update_loop]
    refine wpAny_bind (m := pyNext (.ref I)) (T.item i s _ _ hlt st fun v s2 hv st2 mv => ?_)
    obtain ⟨t, rfl⟩ := at' i v hv
    have room : (mets (xs.take i)).length + 1 < scanBound := by
      have h1 := mets_le (xs.take i)
      rw [List.length_take] at h1
      unfold scanBound
      omega
    have hS2 := keep mv hS
    refine wpAny_bind (m := holding _ (setAdd D0 _)) (wpAny_holding ?_)
    unfold setAdd
    refine wpAny_holding (wpAny_bind ((strKind Pr w).pyHash (k := xs.getD i Str.empty) (strKind_is _ _ _ _) (wpAny_setAddHashed_of (knd := strKind Pr w) (s := { s2 with toks := s2.toks + 1 }) (strKind_is _ _ _ _) rfl hS2 room fun h2 sb new => ?_)))
    have new2 : h2.SetOf (strKind Pr w) D0 (fun y => (mets (xs.take (i + 1))).any (· == y)) (mets (xs.take (i + 1))).length :=
      SetOf_congr new (fun y => by rw [take_snoc (by omega), mets_snoc, mStep_any]) (by rw [take_snoc (by omega), mets_snoc, mStep_len])
    refine wpAny_pure ⟨plainId_quiet PyProof.Rows.F.plain_set_update_loop _, ih (i + 1) _ (by omega) hlt (T.frame _ s2 _ _ st2 (Nat.le_succ _) fun b hb o e => (sb.2 b fun z => out (z ▸ hb)).trans e) new2 fun s3 mv3 S3 => fin s3 (Moved.trans T.gtrans ((mv.mono fun b hb => List.mem_cons_of_mem _ hb).then_heap (Nat.le_succ _) fun b o hb e => (sb.2 b fun z => hb (z ▸ List.mem_cons_self)).trans e) mv3) S3⟩
end
section
variable {Pr : Program} {w : World} {A : Around} {E : Value → Shared → Prop} {s : Shared}
/-- a list or a tuple, as set() reads it -/
structure Seqy (ty it : String) : Prop where
  s1 : isSubtype (.type ty) (.type "set") = pure false
  s2 : isSubtype (.type ty) (.type "frozenset") = pure false
  s3 : (Value.type ty == Value.type "dict") = false
theorem seqy_l : Seqy "list" "list_iterator" := ⟨PySem.F.sub_list_set, PySem.F.sub_list_frozenset, by decide⟩
theorem seqy_t : Seqy "tuple" "tuple_iterator" := ⟨PySem.F.sub_tuple_set, PySem.F.sub_tuple_frozenset, by decide⟩
abbrev fresh (led : Bool) : Obj := { cls := .type "set", dict := none, data := .set #[] 0 (.fresh 0 0 led) }
set_option maxHeartbeats 3200000 in
theorem call_setS {ty it : String} (Y : Seqy ty it) {l : Addr} {o : Obj} {items : Array Value} {nn : Nat} {xs : List Str} {Q : Value → Shared → Prop} (hh : A.handled = none) (ho : s.heap.get? l = some o) (hc : o.cls = .type ty) (hd : o.data = .seq items nn) (hi : StrsAre items.toList xs) (few : xs.length < 4096)
    (hit : ∀ {B : Around} {E' : Value → Shared → Prop} {z : Shared} {Q' : Value → Shared → Prop}, z.heap.get? l = some o → Q' (.ref z.heap.objs.size) { z with heap := z.heap.push { cls := .type it, data := .fields #[.ref l, .int 0 0] } } → wpAny (model Pr w) B (pyIter (.ref l)) Q' E' z)
    (walk : ∀ {B : Around}, B.handled = none → ∀ I : Addr, l ≠ I → ∃ St : Nat → Heap → Prop, PySem.Walks Pr w B I [I, l] [I] items.size (fun i v => items[i]? = some v) St ∧ ∀ h : Heap, h.get? I = some { cls := .type it, data := .fields #[.ref l, .int 0 0] } → h.get? l = some o → St 0 h)
    (q : ∀ (h2 : Heap) (tk : Nat), h2.SetOf (strKind Pr w) s.heap.objs.size (fun y => (mets xs).any (· == y)) (mets xs).length → (∀ b u, b < s.heap.objs.size → s.heap.get? b = some u → h2.get? b = some u) → Q (.ref s.heap.objs.size) { s with heap := h2, toks := tk }) :
    wpAny (model Pr w) A (call (.type "set") [.ref l]) Q E s := by
  have ⟨c0, tl0, mro0⟩ := PySem.F.called_set.mro
  have made0 := PySem.F.called_set.made
  have sub0 := PySem.F.called_set.sub
  have nt0 := PySem.F.called_set.notType
  have cc0 := PySem.F.called_set.canCreate
  have tc0 := PySem.F.typeCall_set_1 (.ref l)
  refine wpAny_call (codeAny_of_tree (show wpAny _ _ (callAny (.type "set") _) _ _ _ from wpAny_pure ⟨Code.quiet_builtin _ (by decide +kernel), codeAny_builtin PySem.F.entry_type_call ?_⟩))
  rw [Around.under_plain (weight_type_call_type "set" [Value.ref l] []) rfl]
  repeat (any_goals (first | wp_step | assumption))
  refine codeAny_mono (code_set_new_1 (.ref l) (E := E) (Q₁ := fun u z => ∃ led : Bool, u = .ref s.heap.objs.size ∧ z = { s with heap := s.heap.push (fresh led) }) fun led => ⟨led, rfl, rfl⟩) fun r z hr => ?_
  match r, hr with
  | .error e, hr => exact hr
  | .ok (.ret u), ⟨led, e1, e2⟩ =>
    subst e1; subst e2
    have g0 : (s.heap.push (fresh led)).get? s.heap.objs.size = some (fresh led) := Heap.get?_push_size _ rfl
    have ty0 : Shared.TypeIs { s with heap := s.heap.push (fresh led) } (.ref s.heap.objs.size) "set" := ⟨_, g0, rfl⟩
    have lk0 := PySem.F.called_set.init.lookup
    have bd0 := PySem.F.called_set.init.bind (.ref s.heap.objs.size)
    repeat (any_goals (first | wp_step | assumption))
    refine codeAny_mono (codeAny_call_builtin (R := wants (fun r z => r = .none ∧ ∃ h2 tk, z = { s with heap := h2, toks := tk } ∧ h2.SetOf (strKind Pr w) s.heap.objs.size (fun y => (mets xs).any (· == y)) (mets xs).length ∧ (∀ b u, b < s.heap.objs.size → s.heap.get? b = some u → h2.get? b = some u)) E)
      PySem.F.called_set.init.plain PySem.F.entry_set_init (check_set_init_1 ty0 ?_)) fun r2 z2 hr2 => ?_
    · obtain ⟨ocls, odict, odata, oslots⟩ := o
      simp only at hc hd
      subst hc; subst hd
      have gl := Heap.get?_push_of_some (fresh led) ho
      obtain ⟨y1, y2, y3⟩ := Y
      unfold Builtin.«set.__init__» noKeywords Builtin.Frozenset.updateFrom
      generalize hP : pyIter = P0
      wp_walk
      subst hP
      refine hit gl (wpAny_bind (wpAny_runValue ?_))
      have lo : l < s.heap.objs.size := Heap.lt_size ho
      obtain ⟨St, W, w0⟩ := walk (B := A.in1.in1.in1) (by simp [hh]) (s.heap.push (fresh led)).objs.size (by rw [Heap.size_push]; exact Nat.ne_of_lt (Nat.lt_succ_of_lt lo))
      refine fillS W.toS s.heap.objs.size (fun z => by
        rcases List.mem_cons.mp z with z | z
        · rw [Heap.size_push] at z; exact Nat.ne_of_lt (Nat.lt_succ_self _) z
        · exact Nat.ne_of_gt lo (List.mem_singleton.mp z)) xs (by rw [← StrsAre.len_eq hi, Array.length_toList]) (by rw [← Array.length_toList, StrsAre.len_eq hi]; exact few) (fun i v hv => SS.strs_at hi i v (by rw [Array.getElem?_toList]; exact hv)) (items.size - 0) 0 _ (by omega) (Nat.zero_le _) (w0 _ (Heap.get?_push_size _ rfl) (Heap.get?_push_of_some _ gl)) ?_ ?_
      · exact SetOf_congr ((setObjOf_fresh (knd := strKind Pr w) led).setOf (Heap.get?_push_of_some _ g0) (by unfold scanBound; omega)) (fun _ => rfl) rfl
      · rintro ⟨h2, g2, d2, tk2, os2⟩ mv S2
        obtain rfl : g2 = s.gens := mv.gens
        obtain rfl : d2 = s.drawn := mv.drawn
        obtain rfl : os2 = s.os := mv.os
        show wpAny _ _ _ _ _ _
        refine wpAny_pure (show wpAny _ _ (ret Value.none) _ _ _ from wpAny_pure ⟨rfl, h2, tk2, rfl, S2, fun b u hb e => mv.heap b u ?_ (Heap.get?_push_of_some _ (Heap.get?_push_of_some _ e))⟩)
        intro z
        rcases List.mem_cons.mp z with z | z
        · exact Nat.ne_of_lt hb z
        · rw [List.mem_singleton.mp z, Heap.size_push] at hb
          exact Nat.lt_irrefl _ (Nat.lt_trans hb (Nat.lt_succ_self _))
    · match r2, hr2 with
      | .error e, hr2 => exact hr2
      | .ok (.ret u), ⟨e1, h2, tk, e2, S2, k2⟩ =>
        subst e1; subst e2
        repeat (any_goals (first | wp_step | assumption))
        exact q _ _ S2 k2
end
end Sx
set_option Elab.async false
set_option linter.all false
set_option maxRecDepth 100000
set_option maxHeartbeats 4000000
set_option autoImplicit false
namespace Sx
open PySem L2 PyProof.Rows
section
variable {X : Cx} {W : Wd} {ra : Run}
def rLenS (K : PySem.W.Frag) : V → Hp → VK → Prop := fun x H Q => ∃ l, ∃ xs : List Str, x = .ref l ∧ (SqL K H l (xs.map V.str) ∨ SqT K H l (xs.map V.str)) ∧ xs.length < 4000 ∧ Q (.int (mets xs).length) H
def fLenS (d : D) : Option (Bool × D) := match d with
  | .lst ds => (strsOf ds).bind fun xs => if xs.length < 4000 then some (false, .int (mets xs).length) else none
  | .tup ds => (strsOf ds).bind fun xs => if xs.length < 4000 then some (false, .int (mets xs).length) else none
  | _ => none
theorem p_lenS : Pure1 W (rLenS W.K) fLenS := by
  intro S H x d c Q hd hx h r
  unfold fLenS at h
  split at h
  · obtain ⟨xs, hs, h⟩ := Option.bind_eq_some_iff.mp h
    split at h
    · cases h
      cases hx with
      | lst ha dl => 
        obtain rfl := dl.strs hs
        exact ⟨_, _, rfl, .inl (SqL.of ha), by assumption, r.int hd⟩
    · cases h
  · obtain ⟨xs, hs, h⟩ := Option.bind_eq_some_iff.mp h
    split at h
    · cases h
      cases hx with
      | tup ha dl => 
        obtain rfl := dl.strs hs
        exact ⟨_, _, rfl, .inr (tup_sq ha), by assumption, r.int hd⟩
    · cases h
  · cases h
theorem pe_lenS {a : Expr} {ta : TE} {p p2 q pos : Pos} (hc : X.calm = true) (hg : Gl X "len") (hm : X.mg "len" = none) (hg2 : Gl X "set") (hm2 : X.mg "set" = none) (ha : PE X a ta) (na : starEach [a] X.env = (false, eval a X.env) :: starEach [] X.env) :
    PE X (.Call (.Name "len" p) [.Call (.Name "set" p2) [a] [] q] [] pos) (fun σ H Q => ta σ H fun x H1 => rLenS X.K x H1 Q) := by
  refine ⟨fun pins s σ H Q I h => Call_ (ld_blt I hg hm boot_len (callWith_builtin1 (args_cons (Call_ (ld_blt I hg2 hm2 boot_set (callWith_type1 (args_cons (thn (ha.run pins s σ H _ I h) fun v s1 ⟨x, H1, I1, r1, l, xs, ex, hq, few, q1⟩ => args_nil ?_) na) na rfl))) rfl) rfl rfl))⟩
  subst ex
  cases r1
  have fin : ∀ (h2 : Heap) (tk : Nat), h2.SetOf (strKind X.prog X.w) s1.heap.objs.size (fun y => (mets xs).any (· == y)) (mets xs).length → (∀ b u, b < s1.heap.objs.size → s1.heap.get? b = some u → h2.get? b = some u) →
      wpAny (model X.prog X.w) X.A (spliced (backTo pos (starEach [] X.env))) (fun vs s₂ => wpAny (model X.prog X.w) X.A (call (.builtin "len") (Value.ref s1.heap.objs.size :: vs)) (EP X pins σ Q) X.xe s₂) X.xe { s1 with heap := h2, toks := tk } := fun h2 tk ⟨o, es, ep, t, ho, hex, hd, _, _, _, hf, hn⟩ k2 => by
    have I2 : Inv X pins σ H1 { s1 with heap := h2, toks := tk } := I1.kept fun b o e => k2 b o (Heap.lt_size e) e
    have := mets_le xs
    exact args_nil (call_len_set ho hex hd hf (by rw [hn]; omega) ⟨.int (mets xs).length, H1, I2.tok _, ⟨_, by rw [hn]⟩, q1⟩)
  rcases hq with hq | hq
  · obtain ⟨its, r, pl, hz⟩ := I1.list hq
    obtain ⟨o, ho, hc', nn, hd⟩ := pl.isList
    refine call_setS seqy_l (I1.ok.hd hc) ho hc' hd (by simpa using strsAre_of r) (by omega) (fun {B E' z Q'} g q' => wpAny_pyIter_list ⟨o, g, hc', nn, hd⟩ q') (fun {B} hB I hne => ⟨_, PySem.Walks.list hB I l hne its.toArray, fun h g1 g2 => ⟨⟨_, g1, rfl, rfl⟩, ⟨o, g2, hc', nn, hd⟩⟩⟩) fin
  · obtain ⟨its, r, ⟨o, ho, hc', nn, hd⟩, hz⟩ := I1.tuple hq
    refine call_setS seqy_t (I1.ok.hd hc) ho hc' hd (by simpa using strsAre_of r) (by omega) (fun {B E' z Q'} g q' => wpAny_pyIter_tuple ⟨o, g, hc', nn, hd⟩ q') (fun {B} hB I hne => ⟨_, PySem.Walks.tuple hB I l hne its.toArray, fun h g1 g2 => ⟨⟨_, g1, rfl, rfl⟩, ⟨o, g2, hc', nn, hd⟩⟩⟩) fin
theorem e_lenS {a : Expr} {p p2 q pos : Pos} (hK : X.K = W.K) (hm : X.mg "len" = none) (hm2 : X.mg "set" = none) (ha : PE X a (TV W ra)) (hc : X.calm = true := by rfl) (hg : Gl X "len" := by rfl) (hg2 : Gl X "set" := by rfl) (na : starEach [a] X.env = (false, eval a X.env) :: starEach [] X.env := by rfl) :
    PE X (.Call (.Name "len" p) [.Call (.Name "set" p2) [a] [] q] [] pos) (TV W (run1 ra fLenS)) := pe_weak (pe_lenS hc hg hm hg2 hm2 ha na) fun σ H Q h => by rw [hK]; exact tv1 p_lenS h
end
end Sx
set_option Elab.async false
set_option linter.all false
set_option maxRecDepth 100000
set_option maxHeartbeats 4000000
set_option autoImplicit false
namespace Sx
open PySem L2 PyProof.Rows
/-! ### repr -/
def shOk (p : PyData) : Bool := p.showable && !p.hasDict && p.leavesShort 1000 && decide (p.bulk ≤ 10000) && decide (p.depth ≤ 50)
def fRepr (ds : List D) : Option (Bool × D) := match ds with
  | [.lst xs] => (py (.lst xs)).bind fun p => if shOk p then some0 (.str p.shown) else none
  | [.tup xs] => (py (.tup xs)).bind fun p => if shOk p then some0 (.str p.shown) else none
  | _ => none
def rRepr (K : PySem.W.Frag) : List V → Hp → VK → Prop := fun vs H Q => ∃ a p, vs = [.ref a] ∧ Dp K H (.ref a) p ∧ shOk p = true ∧ Q (.str p.shown) H
theorem shOk_sz {p : PyData} (h : shOk p = true) : p.shown.length ≤ sizeLine := by
  unfold shOk at h
  simp only [Bool.and_eq_true, decide_eq_true_eq] at h
  have := PyData.shown_le_bulk 1000 (by decide) p h.1.1.2
  have h2 := h.1.2
  rw [sizeLine_eq]
  omega
section
variable {X : Cx} {W : Wd}
theorem cr_repr (hu : X.A.units + 64 < cLine) (hg : NoG X.A) : CallR X (.builtin "repr") (rRepr X.K) := by
  intro pins s σ H xs us Q I r h
  obtain ⟨a, p, rfl, hp, ok, q⟩ := h
  cases r with
  | cons r1 r2 =>
    cases r2
    cases r1
    obtain ⟨as, rd⟩ := Dp.reads I p _ _ hp rfl
    have ok' := ok
    unfold shOk at ok
    simp only [Bool.and_eq_true, Bool.not_eq_true', decide_eq_true_eq] at ok
    obtain ⟨⟨⟨⟨h1, h2⟩, h3⟩, h4⟩, h5⟩ := ok
    exact repr_of_reads' rd h1 (PyData.noDict_hsm h2) hg (by omega) (fun _ _ e => e) (fun h' u tk k => ⟨.str p.shown, H, I.kept k, ⟨_, rfl⟩, q⟩) (shOk_sz ok')
theorem p_repr : PureN W (rRepr W.K) fRepr := by
  intro S H vs ds c Q hd hv h r
  unfold fRepr at h
  split at h
  · obtain ⟨p, hp, h⟩ := Option.bind_eq_some_iff.mp h
    split at h
    · cases h
      match vs, hv with
      | [v], ⟨dv, _⟩ =>
        have := dv.dp hp
        cases dv with
        | lst ha dl => exact ⟨_, p, rfl, this, by assumption, r.str hd⟩
      | _ :: _ :: _, ⟨_, z⟩ => exact z.elim
      | [], z => exact z.elim
    · cases h
  · obtain ⟨p, hp, h⟩ := Option.bind_eq_some_iff.mp h
    split at h
    · cases h
      match vs, hv with
      | [v], ⟨dv, _⟩ =>
        have := dv.dp hp
        cases dv with
        | tup ha dl => exact ⟨_, p, rfl, this, by assumption, r.str hd⟩
      | _ :: _ :: _, ⟨_, z⟩ => exact z.elim
      | [], z => exact z.elim
    · cases h
  · cases h
end
end Sx
set_option Elab.async false
set_option linter.all false
set_option maxRecDepth 100000
set_option maxHeartbeats 4000000
set_option autoImplicit false
namespace Sx
open PySem L2
theorem bt_len : bootBuiltins "len" = some (.builtin "len") := by decide +kernel
theorem bt_all : bootBuiltins "all" = some (.builtin "all") := by decide +kernel
theorem bt_any : bootBuiltins "any" = some (.builtin "any") := by decide +kernel
theorem bt_isinstance : bootBuiltins "isinstance" = some (.builtin "isinstance") := by decide +kernel
theorem bt_sorted : bootBuiltins "sorted" = some (.builtin "sorted") := by decide +kernel
theorem bt_min : bootBuiltins "min" = some (.builtin "min") := by decide +kernel
theorem bt_repr : bootBuiltins "repr" = some (.builtin "repr") := by decide +kernel
theorem bt_abs : bootBuiltins "abs" = some (.builtin "abs") := by decide +kernel
theorem bt_list : bootBuiltins "list" = some (.type "list") := by decide +kernel
theorem bt_tuple : bootBuiltins "tuple" = some (.type "tuple") := by decide +kernel
theorem bt_dict : bootBuiltins "dict" = some (.type "dict") := by decide +kernel
theorem bt_int : bootBuiltins "int" = some (.type "int") := by decide +kernel
theorem bt_str : bootBuiltins "str" = some (.type "str") := by decide +kernel
theorem bt_bool : bootBuiltins "bool" = some (.type "bool") := by decide +kernel
/-- two keywords, exchanged -/
def sw10 {α : Type} (us ws : List α) : List α := match us, ws with
  | [], [a, b] => [b, a]
  | _, _ => []
theorem pm10 {W : Wd} : PermOk W 2 sw10 sw10 := by
  intro S H vs ds ws es h g
  cases h with
  | cons => exact .nil
  | nil =>
    cases g with
    | nil => exact .nil
    | cons t1 d1 r =>
      cases r with
      | nil => exact .nil
      | cons t2 d2 r2 =>
        cases r2 with
        | nil => exact .cons t2 d2 (.cons t1 d1 .nil)
        | cons => exact .nil
theorem q10_len {rs : Runs} (h : LenR rs 2) : ∀ en : En, (rs en).all fun b => ∀ ds, onlyV b.1 = some ds → (sw10 [] ds).length = 2 := fun en => T.all_mono (h en) fun a ha ds e => by
  have := (onlyV_len e).trans ha
  match ds, this with
  | [a, b], _ => rfl
section
variable {K : PySem.W.Frag}
theorem kb10 {x qual p1 p2 : Str} {st : Stmt} {f : Addr} {fd : FuncData} (F : Fun K x qual st f fd)
    (h : ∀ (kV doc pm : Value) (an : Option Addr) (cdv ct a b : Value), bindArgs (PySem.W.fnOf x qual (defArgs st) (defBody st) (defScope st) .none kV doc pm an cdv ct) ⟨[], [(p2, a), (p1, b)]⟩ = pure [(p1, b), (p2, a)]) : KBinds K fd [p1, p2] [p2, p1] sw10 sw10 := by
  obtain ⟨oc, od, kV, doc, pm, an, cdv, ct, osl, rfl, lk, hcd⟩ := F.ex
  refine ⟨fun s us ws kin hl => ?_, fun {vs us zs ws} r q => ?_⟩
  · match us, ws, hl with
    | [], [a, b], _ => exact .of_eq (h kV doc pm an cdv ct a b)
  · cases r with
    | cons => exact .nil
    | nil =>
      cases q with
      | nil => exact .nil
      | cons t1 r =>
        cases r with
        | nil => exact .nil
        | cons t2 r2 =>
          cases r2 with
          | nil => exact .cons t2 (.cons t1 .nil)
          | cons => exact .nil
end
end Sx
set_option Elab.async false
set_option linter.all false
set_option maxRecDepth 100000
set_option maxHeartbeats 4000000
set_option autoImplicit false
namespace Sx
open PySem L2
/-! ### the draws -/
def f_w_take : Fn := fun ds => match ds with
  | [.drw, .int n] => if 0 < n ∧ n ≤ 1073741824 then .ch n.toNat fun i => .ret (false, .int i) else .fail
  | _ => .fail
section
variable (K : PySem.W.Frag)
def tIxc (i : Nat) (k : Int) : TE := tOp (rIxL K) (tVar i) (tC (.int k))
def tInt (t : TE) : TE := tCB (fun xs H Q => (∃ i, xs = [V.int i] ∧ Q (V.int i) H) ∨ ∃ k, xs = [V.bl k] ∧ Q (V.int (if k = true then 1 else 0)) H) (tCons t tNil)
def tLenQ (t : TE) : TE := tCB (fun xs H Q => ∃ p ys, xs = [V.ref p] ∧ (SqL K H p ys ∨ SqT K H p ys) ∧ Q (V.int ys.length) H) (tCons t tNil)
def tAdd2 (a b : TE) : TE := tOp (rI0 fun i j => V.int (i + j)) a b
def tMod2 (a b : TE) : TE := tOp (rI (fun _ j => 0 < j) fun i j => V.int (i % j)) a b
def tMul2 (a b : TE) : TE := tOp (rI CMul fun i j => V.int (i * j)) a b
def tTake1 : TS := tIfS (tTest (tOp (rI0 fun i j => V.bl (decide (j ≤ i))) (tVar 4) (tOp (rI CPow fun i j => V.int (i ^ j.toNat)) (tC (V.int 10)) (tC (V.int 18)))))
    (tSeq (tAsg (tOp (rI CDivW fun i j => V.int (i / j)) (tVar 4) (tVar 1)) (gSub (tVar 2) (tVar 3) rSetL)) (tRet (tMod2 (tInt (tVar 4)) (tVar 1)))) tNext
def tTake2 : TS := tSeq (tAsg (tAdd2 (tIxc K 0 1) (tC (.int 1))) (gSub (tVar 0) (tC (.int 1)) rSetL)) (tSeq (tAsg (tAdd2 (tIxc K 0 3) (tC (.int 1))) (gSub (tVar 0) (tC (.int 3)) rSetL))
    (tSeq (tAsg (tMod2 (tInt (tAdd2 (tAdd2 (tAdd2 (tMul2 (tIxc K 0 2) (tC (.int 48271))) (tVar 4)) (tMul2 (tC (.int 7919)) (tIxc K 0 3))) (tC (.int 12345)))) (tC (.int 2147483647))) (gSub (tVar 0) (tC (.int 2)) rSetL))
      (tRet (tMod2 (tOp (rI CDiv fun i j => V.int (i / j)) (tMod2 (tInt (tMul2 (tIxc K 0 2) (tIxc K 0 2))) (tC (.int 2147483629))) (tC (.int 16))) (tVar 1)))))
def tTake : TS := tSeq (tAsg (tIxc K 0 0) (gName 2)) (tSeq (tAsg (tMod2 (tInt (tIxc K 0 1)) (tLenQ K (tVar 2))) (gName 3)) (tSeq (tAsg (tOp (rIxL K) (tVar 2) (tVar 3)) (gName 4)) (tSeq tTake1 (tTake2 K))))
end
theorem ixc {K : PySem.W.Frag} {σ : St} {H : Hp} {Q : VK} {i : Nat} {a : Addr} {xs : List V} {k : Int} {v : V} (h : σ[i]? = some (some (.ref a))) (ha : H a = some (.lst xs)) (hv : atI xs k = some v) (q : Q v H) : tIxc K i k σ H Q :=
  ⟨_, h, a, xs, k, v, rfl, rfl, SqL.of ha, hv, q⟩
theorem ix_nat {α : Type} {xs : List α} {k : Int} {v : α} (h0 : 0 ≤ k) (h : xs[k.toNat]? = some v) : atI xs k = some v ∧ ixN xs.length k = some k.toNat := by
  have hl := (List.getElem?_eq_some_iff.mp h).1
  have e : ixN xs.length k = some k.toNat := by
    unfold ixN
    rw [if_pos h0, if_pos (by omega)]
  exact ⟨by unfold atI; rw [e]; exact h, e⟩
theorem take_sem {K : PySem.W.Frag} {cls : CT} {vs : List V} {H : Hp} {Q : VK} {E : XK} {N : List Str} (hN : N.length = 5) (h : spR K cls 2 f_w_take vs H Q E) : tTake K { nx := fun _ H' => Q .non H', rt := Q } (L2.start N vs) H := by
  obtain ⟨hl, W, S, ds, hK, hc, dr, tb, dom, n1, n2, dl, wpq⟩ := h
  -- the arguments
  have key : ∃ n : Int, ds = [.drw, .int n] ∧ 0 < n ∧ n ≤ 1073741824 ∧ ∀ i : Nat, (i : Int) < n → ∀ v H' S' P', Ext S (Pall W H) H S' P' H' → RetOk W S' P' H' → ROk W S' P' H' v (false, .int i) → Q v H' := by
    unfold f_w_take at wpq
    split at wpq
    · rename_i n
      split at wpq
      · rename_i hn
        exact ⟨n, rfl, hn.1, hn.2, fun i hi => wpq i (by omega)⟩
      · exact wpq.elim
    · exact wpq.elim
  obtain ⟨n, rfl, hn0, hn1, q⟩ := key
  obtain ⟨v0, v1, rfl, d0, d1⟩ : ∃ v0 v1, vs = [v0, v1] ∧ Dv W S H v0 .drw ∧ Dv W S H v1 (.int n) := by
    cases dl with
    | cons t a r =>
      cases r with
      | cons t2 b r2 => cases r2; exact ⟨_, _, rfl, a, b⟩
  cases d0
  cases d1
  obtain ⟨ne, ns, i, j, k, hda, hdb, hns, hlen, hpos⟩ := dr
  have st : L2.start N [V.ref W.da, V.int n] = [some (.ref W.da), some (.int n), none, none, none] := by
    unfold L2.start
    rw [hN]
    rfl
  rw [st]
  -- the end
  have fin : ∀ (H' : Hp) (ns' : List Int) (a b c r : Int), H' W.da = some (.lst [.ref W.db, .int a, .int b, .int c]) → H' W.db = some (.lst (ns'.map V.int)) → ns'.length = ns.length → (∀ m ∈ ns', 0 ≤ m) → (∀ x, x ≠ W.da → x ≠ W.db → H' x = H x) → 0 ≤ r → r < n → Q (.int r) H' := by
    intro H' ns' a b c r g1 g2 g3 g4 g5 g6 g7
    have er : r = ((r.toNat : Nat) : Int) := by omega
    rw [er]
    have inP : ∀ x, S x → Pall W H x := fun x s => ⟨dom x s, fun z => n1 (z ▸ s), n2.nb s⟩
    have tb' : LamX.Tabs W.tb H' := fun x hx => by
      obtain ⟨ps, t1, t2, t3⟩ := tb x hx
      refine ⟨ps, by rw [g5 x.1 (fun z => by rw [z, hda] at t1; cases t1) (fun z => by rw [z, hdb] at t1; cases t1)]; exact t1, t2, fun pos cv hcv => ?_⟩
      obtain ⟨cc, e1, e2⟩ := t3 pos cv hcv
      refine ⟨cc, e1, by rw [g5 cc (fun z => by rw [z, hda] at e2; cases e2) (fun z => by rw [z, hdb] at e2; cases e2)]; exact e2⟩
    refine q r.toNat (by omega) _ H' S (Pall W H) ⟨fun _ h => h, fun _ h => h, fun x hx => g5 x hx.2.1 hx.2.2.1, fun _ h => .inl h⟩ ⟨inP, fun x s => ?_, ⟨ne, ns', a, b, c, g1, g2, fun z => ?_, by omega, g4⟩, ⟨fun z => z.2.1 rfl, ⟨fun z => z.2.2.1 rfl, fun x hx z => z.2.2.2 x hx rfl⟩⟩, tb'⟩ ⟨.int _, fun _ => trivial, fun z => by cases z⟩
    · have p := inP x s
      rw [g5 x p.2.1 p.2.2.1]
      exact dom x s
    · subst z
      exact hns (List.eq_nil_of_length_eq_zero g3.symm)
  have hlen0 : 0 < ns.length := List.length_pos_iff.mpr hns
  have ml : (ns.map V.int).length = ns.length := List.length_map ..
  generalize hm : i % (((ns.map V.int).length : Nat) : Int) = m
  have hm0 : 0 ≤ m := by rw [← hm]; exact Int.emod_nonneg _ (by omega)
  have hm1 : m < ns.length := by rw [← hm]; have := Int.emod_lt_of_pos i (b := (((ns.map V.int).length : Nat) : Int)) (by omega); omega
  obtain ⟨x, hx⟩ : ∃ x, ns[m.toNat]? = some x := ⟨_, List.getElem?_eq_getElem (by omega)⟩
  have hx0 : 0 ≤ x := hpos x (List.mem_of_getElem? hx)
  have hxv : (ns.map V.int)[m.toNat]? = some (.int x) := by rw [List.getElem?_map, hx]; rfl
  obtain ⟨at1, ix1⟩ := ix_nat hm0 hxv
  refine ixc (i := 0) rfl hda (v := .ref W.db) rfl ?_
  refine ixc (i := 0) rfl hda (v := .int i) rfl (.inl ⟨i, rfl, ?_⟩)
  refine ⟨.ref W.db, rfl, W.db, ns.map V.int, rfl, .inl (SqL.of hdb), i, _, rfl, rfl, by omega, ?_⟩
  show gName 3 (.int (i % (((ns.map V.int).length : Nat) : Int))) _ H _
  rw [hm]
  refine ⟨.ref W.db, rfl, .int m, rfl, W.db, _, m, .int x, rfl, rfl, SqL.of hdb, at1, ?_⟩
  refine ⟨.int x, rfl, 10, 18, rfl, rfl, ⟨by decide, by decide, by decide⟩, x, _, rfl, rfl, _, rfl, ?_⟩
  generalize decide ((10 : Int) ^ (18 : Int).toNat ≤ x) = big
  cases big
  case true =>
    refine ⟨.int x, rfl, .int n, rfl, x, n, rfl, rfl, ⟨hn0, ?_⟩, .ref W.db, rfl, .int m, rfl, W.db, _, m, m.toNat, rfl, rfl, hdb, ix1, ?_⟩
    · have : n.natAbs < 2 ^ 31 := by omega
      have := PySem.Flt.log2_lt_of (n := n.natAbs) (k := 31) (by decide) this
      omega
    · refine ⟨.int x, rfl, .inl ⟨x, rfl, .int n, rfl, x, n, rfl, rfl, hn0, ?_⟩⟩
      refine fin _ (ns.set m.toNat (x / n)) i j k (x % n) (by rw [upd_ne ne]; exact hda) (by rw [upd_same, List.map_set]) (List.length_set ..) (fun y hy => ?_) (fun y h1 h2 => upd_ne h2) (Int.emod_nonneg _ (by omega)) (Int.emod_lt_of_pos _ hn0)
      rcases List.mem_or_eq_of_mem_set hy with hy | rfl
      · exact hpos y hy
      · exact Int.ediv_nonneg hx0 (by omega)
  case false =>
    refine ixc (i := 0) rfl hda (v := .int i) rfl ⟨i, 1, rfl, rfl, .ref W.da, rfl, W.da, _, 1, 1, rfl, rfl, hda, rfl, ?_⟩
    refine ixc (i := 0) rfl upd_same (v := .int k) rfl ⟨k, 1, rfl, rfl, .ref W.da, rfl, W.da, _, 3, 3, rfl, rfl, upd_same, rfl, ?_⟩
    refine ixc (i := 0) rfl upd_same (v := .int j) rfl ⟨j, 48271, rfl, rfl, .inr ⟨by decide, by decide⟩, .int x, rfl, _, x, rfl, rfl, ?_⟩
    refine ixc (i := 0) rfl upd_same (v := .int (k + 1)) rfl ⟨7919, k + 1, rfl, rfl, .inl ⟨by decide, by decide⟩, _, _, rfl, rfl, _, _, rfl, rfl, .inl ⟨_, rfl, _, 2147483647, rfl, rfl, (by decide : (0 : Int) < 2147483647), .ref W.da, rfl, W.da, _, 2, 2, rfl, rfl, upd_same, rfl, ?_⟩⟩
    generalize hz : (j * 48271 + x + 7919 * (k + 1) + 12345) % (2147483647 : Int) = z
    have z0 : 0 ≤ z := by rw [← hz]; exact Int.emod_nonneg _ (by decide)
    have z1 : z < 2147483647 := by rw [← hz]; exact Int.emod_lt_of_pos _ (by decide)
    have hz' : atI ((([V.ref W.db, V.int i, V.int j, V.int k].set 1 (.int (i + 1))).set 3 (.int (k + 1))).set 2 (.int ((j * 48271 + x + 7919 * (k + 1) + 12345) % (2147483647 : Int)))) 2 = some (V.int z) := by rw [← hz]; rfl
    refine ixc (i := 0) rfl upd_same (v := .int z) hz' (ixc (i := 0) rfl upd_same (v := .int z) hz' ⟨z, z, rfl, rfl, .inl ⟨by omega, by omega⟩, .inl ⟨_, rfl, _, 2147483629, rfl, rfl, (by decide : (0 : Int) < 2147483629), _, 16, rfl, rfl, ⟨by decide, by decide⟩, .int n, rfl, _, n, rfl, rfl, hn0, ?_⟩⟩)
    refine fin _ ns (i + 1) z (k + 1) _ (by rw [← hz]; exact upd_same) ?_ rfl hpos (fun y h1 h2 => by rw [upd_ne h1, upd_ne h1, upd_ne h1]) (Int.emod_nonneg _ (by omega)) (Int.emod_lt_of_pos _ hn0)
    rw [upd_ne ne.symm, upd_ne ne.symm, upd_ne ne.symm]
    exact hdb
end Sx
set_option Elab.async false
set_option linter.all false
set_option maxRecDepth 100000
set_option maxHeartbeats 4000000
set_option autoImplicit false
namespace Sx
open PySem L2
/-- the promise of the draws' begin -/
def spBegin (K : PySem.W.Frag) : Sp := fun vs H Q _ => ∃ (a : Addr) (ns : List Int), vs = [V.ref a] ∧ SqL K H a (ns.map V.int) ∧ ns.length ≤ 63 ∧
  ∀ (da db : Addr) (ms : List Int) (H' : Hp), H da = none → H db = none → da ≠ db → ms ≠ [] → ms.length ≤ 100 → (∀ m ∈ ms, 0 ≤ m) → (∀ b o, H b = some o → H' b = some o) → H' da = some (.lst [.ref db, .int 0, .int 1, .int 0]) → H' db = some (.lst (ms.map V.int)) → Q (.ref da) H'
def tBegin (K : PySem.W.Frag) : TS := tRet (tLst (tCons (tOrT K (tLc (iList K (tSl (rSlL K) (tVar 0) tNoPart (tPart (tC (V.int 63))))) (gName 1) tYes (tCB (fun xs H Q => ∃ i, xs = [V.int i] ∧ Q (V.int (if i < 0 then -i else i)) H) (tCons (tVar 1) tNil)) [1])
  (tLst (tCons (tC (V.int 7)) tNil))) (tCons (tC (V.int 0)) (tCons (tC (V.int 1)) (tCons (tC (V.int 0)) tNil)))))
def iabs (i : Int) : Int := if i < 0 then -i else i
theorem iabs_nn (i : Int) : 0 ≤ iabs i := by unfold iabs; split <;> omega
theorem small_line {n : Nat} (h : n ≤ 4096) : n < sizeLine := by rw [sizeLine_eq]; omega
theorem begin_sem {K : PySem.W.Frag} {vs : List V} {H : Hp} {Q : VK} {E : XK} {N : List Str} (hN : N.length = 2) (h : spBegin K vs H Q E) : tBegin K { nx := fun _ H' => Q .non H', rt := Q } (L2.start N vs) H := by
  obtain ⟨a, ns, rfl, ha, hlen, k⟩ := h
  have st : L2.start N [V.ref a] = [some (.ref a), none] := by unfold L2.start; rw [hN]; rfl
  rw [st]
  obtain ⟨zs, hzs, hz⟩ : ∃ zs : List Int, cutV (ns.map V.int) none (some 63) = zs.map V.int ∧ zs.length ≤ 63 := by
    refine ⟨(ns.drop (HT.sIx (ns.map V.int).length 0 none)).take (HT.sIx (ns.map V.int).length (ns.map V.int).length (some 63) - HT.sIx (ns.map V.int).length 0 none), ?_, ?_⟩
    · unfold cutV
      rw [List.map_take, List.map_drop]
    · rw [List.length_take, List.length_drop]; omega
  -- the last step, for a list of numbers at b
  have fin : ∀ (b : Addr) (ms : List Int) (H2 : Hp), H b = none → ms ≠ [] → ms.length ≤ 100 → (∀ m ∈ ms, 0 ≤ m) → (∀ c o, H c = some o → H2 c = some o) → H2 b = some (.lst (ms.map V.int)) →
      [V.ref b, .int 0, .int 1, .int 0].length ≤ sizeLine ∧ ∀ p, H2 p = none → Q (.ref p) (upd H2 p (.lst [V.ref b, .int 0, .int 1, .int 0])) := by
    intro b ms H2 hb h1 h2 h3 h4 h5
    refine ⟨Nat.le_of_lt (small_line (by simp)), fun p hp => ?_⟩
    have np : p ≠ b := fun z => by rw [z, h5] at hp; cases hp
    refine k p b ms _ ?_ hb np h1 h2 h3 (fun c o e => ?_) upd_same (by rw [upd_ne np.symm]; exact h5)
    · cases e : H p with
      | none => rfl
      | some o => rw [h4 p o e] at hp; cases hp
    · rw [upd_ne (ne_of_none (h4 c o e) hp)]; exact h4 c o e
  refine ⟨.ref a, rfl, 63, rfl, a, _, rfl, ha, fun p hp => ⟨p, rfl, ⟨_, SqL.of upd_same⟩, fun Da hD => ?_⟩⟩
  rw [hzs]
  rw [hzs] at hD
  have npD : p ≠ Da := fun z => by rw [z, upd_same] at hD; cases hD
  have hD0 : H Da = none := by rw [upd_ne npD.symm] at hD; exact hD
  refine lc_list (K := K) (a := p) (xs := zs.map V.int) (fun i G => G p = some (.lst (zs.map V.int)) ∧ (∀ c o, H c = some o → G c = some o) ∧ G Da = some (.lst (((zs.take i).map iabs).map V.int)))
    ⟨by rw [upd_ne npD]; exact upd_same, fun c o e => by rw [upd_ne (ne_of_none e hD0), upd_ne (ne_of_none e hp)]; exact e, upd_same⟩ (fun i G _ g => SqL.of g.1) ?_ ?_
  · rintro i x G hx ⟨g1, g2, g3⟩
    obtain ⟨y, hy, rfl⟩ : ∃ y, zs[i]? = some y ∧ x = V.int y := by
      rw [List.getElem?_map] at hx
      cases e : zs[i]? with
      | none => rw [e] at hx; cases hx
      | some y => rw [e] at hx; exact ⟨y, rfl, (Option.some.inj hx).symm⟩
    refine ⟨rfl, V.int y, rfl, y, rfl, ((zs.take i).map iabs).map V.int, g3, small_line (by simp; omega), by rw [upd_ne npD]; exact g1, fun c o e => by rw [upd_ne (ne_of_none e hD0)]; exact g2 c o e, ?_⟩
    rw [upd_same, List.take_succ, hy]
    simp [iabs]
  · rintro G ⟨g1, g2, g3⟩
    rw [List.length_map, List.take_length] at g3
    refine ⟨!(zs.map iabs).isEmpty, .inl ⟨_, SqL.of g3, by simp⟩, ?_⟩
    cases zs with
    | nil => 
      refine ⟨Nat.le_of_lt (small_line (by simp)), fun q hq => ?_⟩
      have nq : H q = none := by
        cases e : H q with
        | none => rfl
        | some o => rw [g2 q o e] at hq; cases hq
      exact fin q [7] _ nq (by simp) (by simp) (fun m hm => by simp at hm; omega) (fun c o e => by rw [upd_ne (ne_of_none e nq)]; exact g2 c o e) upd_same
    | cons z zs =>
      exact fin Da ((z :: zs).map iabs) G hD0 (by simp) (by simp at hz ⊢; omega) (fun m hm => by obtain ⟨y, _, rfl⟩ := List.mem_map.mp hm; exact iabs_nn y) g2 g3
/-! ### the law -/
def lawEn (n m : Nat) : En := [some (.fz, .scr m), some (.fz, .drw)] ++ List.replicate (n - 2) none
def Yes (r : Fl × En) : Prop := ∃ f, flOf r.1 = some (f, .bl true)
def spLaw (K : PySem.W.Frag) (tb : List (Addr × Str)) (n : Nat) (run : RunS) : Sp := fun vs H Q _ => ∃ (a : Addr) (ns : List Int), vs = [V.ref a] ∧ SqL K H a (ns.map V.int) ∧ LamX.Tabs tb H ∧ (∀ x ∈ tb, x.1 ≠ a) ∧ ns.length ≤ 63 ∧ (run (lawEn n ns.length)).wp Yes ∧ ∀ H', Q (.bl true) H'
def TVX (K : PySem.W.Frag) (cls : CT) (run : RunS) : TS := fun D σ H => ∃ W : Wd, W.K = K ∧ W.cls = cls ∧ TVS W run D σ H
theorem law_rest {X : Cx} {sts : List Stmt} {K : PySem.W.Frag} {cls : CT} {run : RunS} (h : ∀ W : Wd, W.K = K → W.cls = cls → PSs X sts (TVS W run)) : PSs X sts (TVX K cls run) :=
  ⟨fun pins s σ H D I ⟨W, hK, hc, q⟩ => (h W hK hc).run pins s σ H D I q⟩
theorem law_sem {K : PySem.W.Frag} {cls : CT} {run : RunS} {vs : List V} {H : Hp} {Q : VK} {E : XK} {N : List Str} (hN : 2 ≤ N.length) (h : spLaw K cls.tb N.length run vs H Q E) :
    tSeq (tAsg (tCall (spBegin K) [] E0 (tCons (tVar 0) tNil)) (gName 1)) (TVX K cls run) { nx := fun _ H' => Q .non H', rt := Q } (L2.start N vs) H := by
  obtain ⟨a, ns, rfl, ha, tb, tna, hlen, hr, hq⟩ := h
  have st : L2.start N [V.ref a] = [some (.ref a), none] ++ List.replicate (N.length - 2) none := by
    unfold L2.start
    obtain ⟨m, e⟩ : ∃ m, N.length = m + 2 := ⟨N.length - 2, by omega⟩
    rw [e]
    show [some (V.ref a)] ++ List.replicate (m + 1) none = _
    rw [List.replicate_succ]
    rfl
  rw [st]
  refine ⟨.ref a, rfl, a, ns, rfl, ha, hlen, fun da db ms H' h1 h2 h3 h4 h5 h6 h7 h8 h9 => ?_⟩
  refine ⟨⟨K, da, db, cls⟩, rfl, rfl, fun b => b = a ∧ ∃ o, H b = some o, fun b => b = a ∧ ∃ o, H b = some o, lawEn N.length ns.length, ?_, ?_⟩
  · have scr : Dv ⟨K, da, db, cls⟩ (fun b => b = a ∧ ∃ o, H b = some o) H' (.ref a) (.scr ns.length) := by
      have e : ns.length = (ns.map V.int).length := (List.length_map ..).symm
      rw [e]
      rcases ha with ha | ha
      · obtain ⟨o, ho⟩ : ∃ o, H a = some o := by
          rcases ha with ha | ⟨o, ha⟩
          · exact ⟨_, ha⟩
          · exact ⟨_, ha⟩
        exact .scr (.inl ⟨⟨rfl, o, ho⟩, SqL.at (by rw [ho]; exact h7 a o ho) (.inl ha)⟩)
      · exact .scr (.inr fun G => .inr ha)
    refine ⟨fun _ h => h, fun b ⟨_, o, e⟩ => ⟨o, h7 b o e⟩, fun i f d e => ?_, fun i j f g d d' v e1 e2 e3 => ?_, ?_, ⟨h3, ms, 0, 1, 0, h8, h9, h4, h5, h6⟩, ⟨(fun ⟨_, o, e⟩ => by rw [h1] at e; cases e), ⟨(fun ⟨_, o, e⟩ => by rw [h2] at e; cases e), fun x hx ⟨e, _⟩ => ?_⟩⟩, tb.ext h7⟩
    · match i with
      | 0 => cases e; exact ⟨.ref a, rfl, scr, fun _ => trivial, fun z => absurd rfl z⟩
      | 1 => cases e; exact ⟨.ref da, rfl, .drw, fun _ => trivial, fun z => absurd rfl z⟩
      | i + 2 => 
        have : (List.replicate (N.length - 2) (none : Slot))[i]? = some (some (f, d)) := e
        have := List.eq_of_mem_replicate (List.mem_of_getElem? this)
        cases this
    · match i with
      | 0 => cases e1; exact absurd rfl e3
      | 1 => cases e1; exact absurd rfl e3
      | i + 2 => 
        have : (List.replicate (N.length - 2) (none : Slot))[i]? = some (some (f, d)) := e1
        have := List.eq_of_mem_replicate (List.mem_of_getElem? this)
        cases this
    · simp [lawEn]
    · exact tna x hx e
  · refine T.wp_mono hr fun r ⟨f, e⟩ => ?_
    obtain ⟨fl, en⟩ := r
    cases fl with
    | nx => cases e
    | bk => cases e
    | ct => cases e
    | rt c =>
      cases e
      intro v H2 S2 P2 _ _ ok
      rw [dv_bl ok.1]
      exact hq _
theorem law_ok {Pr : Program} {w : World} {K : PySem.W.Frag} {mg : Str → Option Value} {base : Heap} {cls : CT} {x qual : Str} {st s0 : Stmt} {rest : List Stmt} {f : Addr} {fd : FuncData} {N : List Str} {k : Nat} {run : RunS} {p : Str} (F : Fun K x qual st f fd) (Sc : FnScope N [p] (defScope st)) (hN : 2 ≤ N.length) (hs : defBody st = s0 :: rest)
    (h0 : ∀ (cdv : Value) (A : Around) (outer : List PySem.Env) (s : Shared) (H : Hp) (E : XK), Room k (A.deeper (PyProof.Rows.envOfC qual (defScope st) s.heap.objs.size f cdv)) → NoG (A.deeper (PyProof.Rows.envOfC qual (defScope st) s.heap.objs.size f cdv)) → PS (cxOf CX0 Pr w K mg base N qual (defScope st) f cdv A outer s H E).nox s0 (tAsg (tCall (spBegin K) [] E0 (tCons (tVar 0) tNil)) (gName 1)))
    (hb : ∀ (cdv : Value) (A : Around) (outer : List PySem.Env) (s : Shared) (H : Hp) (E : XK), Room k (A.deeper (PyProof.Rows.envOfC qual (defScope st) s.heap.objs.size f cdv)) → NoG (A.deeper (PyProof.Rows.envOfC qual (defScope st) s.heap.objs.size f cdv)) → ∀ W : Wd, W.K = K → W.cls = cls → PSs (cxOf CX0 Pr w K mg base N qual (defScope st) f cdv A outer s H E).nox rest (TVS W run)) :
    FnG Pr w K mg base CX0 (k + 1) f fd [p] (spLaw K cls.tb N.length run) := by
  refine fnG_of F Sc (fun vs H Q E h => by obtain ⟨a, ns, rfl, _⟩ := h; rfl) fun cdv A outer s H vs Q E hr hg h => ?_
  refine ⟨_, ?_, law_sem (cls := cls) hN h⟩
  rw [hs]
  exact (pss_cons (h0 cdv A outer s H E hr hg) (law_rest (hb cdv A outer s H E hr hg))).nox
def headS (st : Stmt) : Stmt := (defBody st).headD (.Pass ⟨0, 0, 0, 0⟩)
def restS (st : Stmt) : List Stmt := (defBody st).tail
end Sx
set_option Elab.async false
set_option linter.all false
set_option maxRecDepth 100000
set_option maxHeartbeats 4000000
set_option autoImplicit false
namespace Sx
open PySem L2
/-! ### plain data: whole numbers, texts, lists and tuples of them -/
mutual
def sp : PyData → Bool
  | .int _ => true
  | .str _ => true
  | .list xs => spL xs
  | .tuple xs => spL xs
  | _ => false
def spL : List PyData → Bool
  | [] => true
  | x :: xs => sp x && spL xs
end
mutual
theorem eqv_sp : ∀ (p q : PyData), sp p = true → sp q = true → (PyData.eqv p q = true ↔ p = q)
  | .int i, .int j, _, _ => by simp [PyData.eqv]
  | .str i, .str j, _, _ => by simp [PyData.eqv]
  | .list xs, .list ys, h, g => by
    rw [sp] at h g
    rw [PyData.eqv, PyData.list.injEq]
    exact eqvL_sp xs ys h g
  | .tuple xs, .tuple ys, h, g => by
    rw [sp] at h g
    rw [PyData.eqv, PyData.tuple.injEq]
    exact eqvL_sp xs ys h g
  | .int _, .str _, _, _ => by simp [PyData.eqv]
  | .int _, .list _, _, _ => by simp [PyData.eqv]
  | .int _, .tuple _, _, _ => by simp [PyData.eqv]
  | .str _, .int _, _, _ => by simp [PyData.eqv]
  | .str _, .list _, _, _ => by simp [PyData.eqv]
  | .str _, .tuple _, _, _ => by simp [PyData.eqv]
  | .list _, .int _, _, _ => by simp [PyData.eqv]
  | .list _, .str _, _, _ => by simp [PyData.eqv]
  | .list _, .tuple _, _, _ => by simp [PyData.eqv]
  | .tuple _, .int _, _, _ => by simp [PyData.eqv]
  | .tuple _, .str _, _, _ => by simp [PyData.eqv]
  | .tuple _, .list _, _, _ => by simp [PyData.eqv]
  | .none, _, h, _ => by simp [sp] at h
  | .bool _, _, h, _ => by simp [sp] at h
  | .dict _, _, h, _ => by simp [sp] at h
  | .int _, .none, _, h => by simp [sp] at h
  | .int _, .bool _, _, h => by simp [sp] at h
  | .int _, .dict _, _, h => by simp [sp] at h
  | .str _, .none, _, h => by simp [sp] at h
  | .str _, .bool _, _, h => by simp [sp] at h
  | .str _, .dict _, _, h => by simp [sp] at h
  | .list _, .none, _, h => by simp [sp] at h
  | .list _, .bool _, _, h => by simp [sp] at h
  | .list _, .dict _, _, h => by simp [sp] at h
  | .tuple _, .none, _, h => by simp [sp] at h
  | .tuple _, .bool _, _, h => by simp [sp] at h
  | .tuple _, .dict _, _, h => by simp [sp] at h
theorem eqvL_sp : ∀ (xs ys : List PyData), spL xs = true → spL ys = true → (PyData.eqvAll xs ys = true ↔ xs = ys)
  | [], [], _, _ => by simp [PyData.eqvAll]
  | x :: xs, y :: ys, h, g => by
    rw [spL, Bool.and_eq_true] at h g
    rw [PyData.eqvAll, Bool.and_eq_true, List.cons.injEq, eqv_sp x y h.1 g.1, eqvL_sp xs ys h.2 g.2]
  | [], _ :: _, _, _ => by simp [PyData.eqvAll]
  | _ :: _, [], _, _ => by simp [PyData.eqvAll]
end
mutual
theorem py_inj : ∀ (x y : D) (p : PyData), py x = some p → py y = some p → x = y
  | .non, y, p, h, g => by
    cases h
    cases y <;> simp [py, Option.bind_eq_some_iff] at g <;> rfl
  | .bl b, y, p, h, g => by
    cases h
    cases y <;> simp [py, Option.bind_eq_some_iff] at g <;> simp [g]
  | .int b, y, p, h, g => by
    cases h
    cases y <;> simp [py, Option.bind_eq_some_iff] at g <;> simp [g]
  | .str b, y, p, h, g => by
    cases h
    cases y <;> simp [py, Option.bind_eq_some_iff] at g <;> simp [g]
  | .lst xs, y, p, h, g => by
    rw [py] at h
    obtain ⟨ps, h1, h2⟩ := Option.bind_eq_some_iff.mp h
    cases h2
    cases y <;> simp [py, Option.bind_eq_some_iff] at g
    rw [pyL_inj xs _ ps h1 g]
  | .tup xs, y, p, h, g => by
    rw [py] at h
    obtain ⟨ps, h1, h2⟩ := Option.bind_eq_some_iff.mp h
    cases h2
    cases y <;> simp [py, Option.bind_eq_some_iff] at g
    rw [pyL_inj xs _ ps h1 g]
  | .dK _, _, _, h, _ => by simp [py] at h
  | .dT _, _, _, h, _ => by simp [py] at h
  | .obj _ _, _, _, h, _ => by simp [py] at h
  | .scr _, _, _, h, _ => by simp [py] at h
  | .drw, _, _, h, _ => by simp [py] at h
  | .ty _, _, _, h, _ => by simp [py] at h
  | .cl _, _, _, h, _ => by simp [py] at h
theorem pyL_inj : ∀ (xs ys : List D) (ps : List PyData), pyL xs = some ps → pyL ys = some ps → xs = ys
  | [], ys, ps, h, g => by
    cases h
    cases ys with
    | nil => rfl
    | cons y ys => rw [pyL] at g; simp [Option.bind_eq_some_iff] at g
  | x :: xs, ys, ps, h, g => by
    rw [pyL] at h
    obtain ⟨p, h1, h⟩ := Option.bind_eq_some_iff.mp h
    obtain ⟨qs, h2, h⟩ := Option.bind_eq_some_iff.mp h
    cases h
    cases ys with
    | nil => cases g
    | cons y ys =>
      rw [pyL] at g
      obtain ⟨p', g1, g⟩ := Option.bind_eq_some_iff.mp g
      obtain ⟨qs', g2, g⟩ := Option.bind_eq_some_iff.mp g
      cases g
      rw [py_inj x y p h1 g1, pyL_inj xs ys qs h2 g2]
end
/-- plain data of depth at most n -/
def Pd (n : Nat) (d : D) : Prop := ∃ p, py d = some p ∧ sp p = true ∧ p.depth ≤ n
def PdL (n : Nat) (ds : List D) : Prop := ∃ ps, pyL ds = some ps ∧ spL ps = true ∧ PyData.depthAll ps ≤ n
theorem Pd.int (i : Int) (n : Nat) : Pd n (.int i) := ⟨_, rfl, rfl, by simp [PyData.depth]⟩
theorem Pd.str (x : Str) (n : Nat) : Pd n (.str x) := ⟨_, rfl, rfl, by simp [PyData.depth]⟩
theorem PdL.of {n : Nat} : ∀ {ds : List D}, (∀ d ∈ ds, Pd n d) → PdL n ds
  | [], _ => ⟨[], rfl, rfl, by simp [PyData.depthAll]⟩
  | d :: ds, h => by
    obtain ⟨p, h1, h2, h3⟩ := h d List.mem_cons_self
    obtain ⟨ps, g1, g2, g3⟩ := PdL.of fun d hd => h d (List.mem_cons_of_mem _ hd)
    refine ⟨p :: ps, by rw [pyL, h1, g1]; rfl, by rw [spL, h2, g2]; rfl, ?_⟩
    simp only [PyData.depthAll]
    omega
theorem PdL.each {n : Nat} : ∀ {ds : List D}, PdL n ds → ∀ d ∈ ds, Pd n d
  | [], _, d, hd => by simp at hd
  | e :: ds, ⟨ps, g1, g2, g3⟩, d, hd => by
    rw [pyL] at g1
    obtain ⟨p, h1, g1⟩ := Option.bind_eq_some_iff.mp g1
    obtain ⟨qs, h2, g1⟩ := Option.bind_eq_some_iff.mp g1
    cases g1
    rw [spL, Bool.and_eq_true] at g2
    simp only [PyData.depthAll] at g3
    rcases List.mem_cons.mp hd with rfl | hd
    · exact ⟨p, h1, g2.1, by omega⟩
    · exact PdL.each ⟨qs, h2, g2.2, by omega⟩ d hd
theorem Pd.lst {n : Nat} {ds : List D} (h : ∀ d ∈ ds, Pd n d) : Pd (n + 1) (.lst ds) := by
  obtain ⟨ps, h1, h2, h3⟩ := PdL.of h
  exact ⟨.list ps, by rw [py, h1]; rfl, h2, by simp only [PyData.depth]; omega⟩
theorem Pd.tup {n : Nat} {ds : List D} (h : ∀ d ∈ ds, Pd n d) : Pd (n + 1) (.tup ds) := by
  obtain ⟨ps, h1, h2, h3⟩ := PdL.of h
  exact ⟨.tuple ps, by rw [py, h1]; rfl, h2, by simp only [PyData.depth]; omega⟩
theorem Pd.mono {n m : Nat} {d : D} (h : Pd n d) (hm : n ≤ m) : Pd m d := by
  obtain ⟨p, h1, h2, h3⟩ := h
  exact ⟨p, h1, h2, Nat.le_trans h3 hm⟩
/-! ### the rules by plain data -/
theorem eqv_pd {n m : Nat} {x y : D} {p q : PyData} (hx : py x = some p) (sx : sp p = true) (hy : py y = some q) (sy : sp q = true) : PyData.eqv p q = true ↔ x = y :=
  (eqv_sp p q sx sy).trans ⟨fun e => py_inj x y p hx (by rw [hy, e]), fun e => by subst e; exact Option.some.inj (hx.symm.trans hy)⟩
open Classical in
theorem fEq_pd {n m : Nat} {x y : D} (hx : Pd n x) (hy : Pd m y) (hn : n ≤ 60) : fEq x y = some0 (.bl (decide (x = y))) := by
  obtain ⟨p, h1, h2, h3⟩ := hx
  obtain ⟨q, g1, g2, g3⟩ := hy
  unfold fEq
  rw [h1, g1]
  show (if p.depth ≤ 60 then _ else _) = _
  rw [if_pos (by omega)]
  congr 2
  rw [Bool.eq_iff_iff, eqv_pd (n := n) (m := m) h1 h2 g1 g2, decide_eq_true_eq]
open Classical in
theorem fNe_pd {n m : Nat} {x y : D} (hx : Pd n x) (hy : Pd m y) (hn : n ≤ 60) : fNe x y = some0 (.bl (decide (x ≠ y))) := by
  obtain ⟨p, h1, h2, h3⟩ := hx
  obtain ⟨q, g1, g2, g3⟩ := hy
  unfold fNe
  rw [h1, g1]
  show (if p.depth ≤ 60 then _ else _) = _
  rw [if_pos (by omega)]
  congr 2
  rw [Bool.eq_iff_iff, decide_eq_true_eq, Bool.not_eq_true', ← Bool.not_eq_true, eqv_pd (n := n) (m := m) h1 h2 g1 g2]
open Classical in
theorem any_pd {n : Nat} {x : D} {p : PyData} (h1 : py x = some p) (h2 : sp p = true) : ∀ {ds : List D} {ps : List PyData}, pyL ds = some ps → spL ps = true → (ps.any fun z => PyData.eqv z p) = decide (x ∈ ds)
  | [], ps, g, _ => by cases g; simp
  | d :: ds, ps, g, s => by
    rw [pyL] at g
    obtain ⟨q, e1, g⟩ := Option.bind_eq_some_iff.mp g
    obtain ⟨qs, e2, g⟩ := Option.bind_eq_some_iff.mp g
    cases g
    rw [spL, Bool.and_eq_true] at s
    rw [List.any_cons, any_pd (n := n) h1 h2 e2 s.2, Bool.eq_iff_iff, Bool.or_eq_true, eqv_pd (n := n) (m := n) e1 s.1 h1 h2, decide_eq_true_eq, decide_eq_true_eq, List.mem_cons]
    exact or_congr eq_comm Iff.rfl
open Classical in
theorem fIn_lst {n m : Nat} {x : D} {ds : List D} (neg : Bool) (hx : Pd n x) (hy : ∀ d ∈ ds, Pd m d) (hn : n ≤ 60) : fInG neg x (.lst ds) = some0 (.bl (if neg then decide (x ∉ ds) else decide (x ∈ ds))) := by
  obtain ⟨p, h1, h2, h3⟩ := hx
  obtain ⟨ps, g1, g2, g3⟩ := PdL.of hy
  have : fInG neg x (.lst ds) = (py x).bind fun p => (pyL ds).bind fun ps => if p.depth ≤ 60 then some0 (.bl (if neg then !ps.any fun z => PyData.eqv z p else ps.any fun z => PyData.eqv z p)) else none := by
    unfold fInG
    cases x <;> rfl
  rw [this, h1, g1]
  show (if p.depth ≤ 60 then _ else _) = _
  rw [if_pos (by omega), any_pd (n := n) h1 h2 g1 g2]
  cases neg <;> simp
open Classical in
theorem fIn_tup {n m : Nat} {x : D} {ds : List D} (neg : Bool) (hx : Pd n x) (hy : ∀ d ∈ ds, Pd m d) (hn : n ≤ 60) : fInG neg x (.tup ds) = some0 (.bl (if neg then decide (x ∉ ds) else decide (x ∈ ds))) := by
  obtain ⟨p, h1, h2, h3⟩ := hx
  obtain ⟨ps, g1, g2, g3⟩ := PdL.of hy
  have : fInG neg x (.tup ds) = (py x).bind fun p => (pyL ds).bind fun ps => if p.depth ≤ 60 then some0 (.bl (if neg then !ps.any fun z => PyData.eqv z p else ps.any fun z => PyData.eqv z p)) else none := by
    unfold fInG
    cases x <;> rfl
  rw [this, h1, g1]
  show (if p.depth ≤ 60 then _ else _) = _
  rw [if_pos (by omega), any_pd (n := n) h1 h2 g1 g2]
  cases neg <;> simp
theorem fIn_sign {c : Nat} {z : Str} (neg : Bool) : fInG neg (.str ⟨#[c]⟩) (.str z) = some0 (.bl (if neg then !decide (c ∈ z.cps.toList) else decide (c ∈ z.cps.toList))) := rfl
theorem fLe_int (i j : Int) : fLe (.int i) (.int j) = some0 (.bl (decide (i ≤ j))) := by
  show some0 (.bl (!PySem.W.dataLt (.int j) (.int i))) = _
  rw [PySem.W.dataLt_int, ← decide_not]
  congr 2
  exact decide_eq_decide.mpr Int.not_lt
theorem fLt_int (i j : Int) : fLt (.int i) (.int j) = some0 (.bl (decide (i < j))) := by
  show some0 (.bl (PySem.W.dataLt (.int i) (.int j))) = _
  rw [PySem.W.dataLt_int]
theorem fLt_str (i j : Str) : fLt (.str i) (.str j) = some0 (.bl (decide (i.cps.toList < j.cps.toList))) := by
  show some0 (.bl (PySem.W.dataLt (.str i) (.str j))) = _
  rw [PySem.W.dataLt_str]
end Sx
set_option Elab.async false
set_option linter.all false
set_option maxRecDepth 100000
set_option maxHeartbeats 4000000
set_option autoImplicit false
namespace Sx
open PySem L2
/-! ### runs that draw nothing -/
theorem rLcL_pure {t : Tg} {rt : RunT} {re : Run} {vs : List Nat} {e0 : En} (p : D → Bool) (y : D → D) : ∀ (ds : List D) (acc : List D),
    (∀ d ∈ ds, ∃ e2 e3, t d e0 = some e2 ∧ rt e2 = .ret (p d, e3) ∧ (p d = false → wip e3 vs = e0) ∧ (p d = true → ∃ o e4, re e3 = .ret (o, e4) ∧ valO o = some (y d) ∧ wip e4 vs = e0)) →
    rLcL t rt re vs ds e0 acc = .ret (acc ++ (ds.filter p).map y, e0)
  | [], acc, _ => by simp [rLcL]
  | d :: ds, acc, h => by
    obtain ⟨e2, e3, h1, h2, h3, h4⟩ := h d List.mem_cons_self
    have ih := fun acc => rLcL_pure (t := t) (rt := rt) (re := re) (vs := vs) (e0 := e0) p y ds acc fun d hd => h d (List.mem_cons_of_mem _ hd)
    rw [rLcL, h1]
    show (rt e2).bind _ = _
    rw [h2]
    cases hp : p d with
    | false =>
      show rLcL t rt re vs ds (wip e3 vs) acc = _
      rw [h3 hp, ih, List.filter_cons, hp]
      rfl
    | true =>
      obtain ⟨o, e4, g1, g2, g3⟩ := h4 hp
      show (re e3).bind _ = _
      rw [g1]
      show (T.ofOpt (valO o)).bind _ = _
      rw [g2]
      show rLcL t rt re vs ds (wip e4 vs) (acc ++ [y d]) = _
      rw [g3, ih, List.filter_cons, hp]
      simp
theorem rLc_pure {ri : RunI} {l : Option Nat} {t : Tg} {rt : RunT} {re : Run} {vs : List Nat} {en en1 : En} {ds : List D} (p : D → Bool) (y : D → D) (hi : ri en = .ret (ds, en1)) (hl : ds.length ≤ 4096)
    (h : ∀ d ∈ ds, ∃ e2 e3, t d (wip en1 vs) = some e2 ∧ rt e2 = .ret (p d, e3) ∧ (p d = false → wip e3 vs = wip en1 vs) ∧ (p d = true → ∃ o e4, re e3 = .ret (o, e4) ∧ valO o = some (y d) ∧ wip e4 vs = wip en1 vs)) :
    rLc ri l t rt re vs en = .ret (.fr (.lst ((ds.filter p).map y)), unl l (back (wip en1 vs) en1 vs)) := by
  unfold rLc
  rw [hi]
  show (if ds.length ≤ 4096 then _ else _) = _
  rw [if_pos hl, rLcL_pure p y ds [] h]
  rfl
theorem rLcL_map {α : Type} {g : α → D} {t : Tg} {rt : RunT} {re : Run} {vs : List Nat} {e0 : En} (p : α → Bool) (y : α → D) : ∀ (xs : List α) (acc : List D),
    (∀ d ∈ xs, ∃ e2 e3, t (g d) e0 = some e2 ∧ rt e2 = .ret (p d, e3) ∧ (p d = false → wip e3 vs = e0) ∧ (p d = true → ∃ o e4, re e3 = .ret (o, e4) ∧ valO o = some (y d) ∧ wip e4 vs = e0)) →
    rLcL t rt re vs (xs.map g) e0 acc = .ret (acc ++ (xs.filter p).map y, e0)
  | [], acc, _ => by simp [rLcL]
  | d :: ds, acc, h => by
    obtain ⟨e2, e3, h1, h2, h3, h4⟩ := h d List.mem_cons_self
    have ih := fun acc => rLcL_map (g := g) (t := t) (rt := rt) (re := re) (vs := vs) (e0 := e0) p y ds acc fun d hd => h d (List.mem_cons_of_mem _ hd)
    rw [List.map_cons, rLcL, h1]
    show (rt e2).bind _ = _
    rw [h2]
    cases hp : p d with
    | false =>
      show rLcL t rt re vs (ds.map g) (wip e3 vs) acc = _
      rw [h3 hp, ih, List.filter_cons, hp]
      rfl
    | true =>
      obtain ⟨o, e4, g1, g2, g3⟩ := h4 hp
      show (re e3).bind _ = _
      rw [g1]
      show (T.ofOpt (valO o)).bind _ = _
      rw [g2]
      show rLcL t rt re vs (ds.map g) (wip e4 vs) (acc ++ [y d]) = _
      rw [g3, ih, List.filter_cons, hp]
      simp
theorem rLc_map {α : Type} {g : α → D} {ri : RunI} {l : Option Nat} {t : Tg} {rt : RunT} {re : Run} {vs : List Nat} {en en1 : En} {xs : List α} (p : α → Bool) (y : α → D) (hi : ri en = .ret (xs.map g, en1)) (hl : xs.length ≤ 4096)
    (h : ∀ d ∈ xs, ∃ e2 e3, t (g d) (wip en1 vs) = some e2 ∧ rt e2 = .ret (p d, e3) ∧ (p d = false → wip e3 vs = wip en1 vs) ∧ (p d = true → ∃ o e4, re e3 = .ret (o, e4) ∧ valO o = some (y d) ∧ wip e4 vs = wip en1 vs)) :
    rLc ri l t rt re vs en = .ret (.fr (.lst ((xs.filter p).map y)), unl l (back (wip en1 vs) en1 vs)) := by
  unfold rLc
  rw [hi]
  show (if (xs.map g).length ≤ 4096 then _ else _) = _
  rw [if_pos (by rw [List.length_map]; exact hl), rLcL_map p y xs [] h]
  rfl
end Sx
set_option Elab.async false
set_option linter.all false
set_option maxRecDepth 100000
set_option maxHeartbeats 4000000
set_option autoImplicit false
namespace Sx
open PySem L2
/-! ### runs that draw: one step each -/
section
variable {en e1 : En} {ra rb : Run} {rs : Runs} {a b : RunS} {f : Fn} {i n : Nat}
theorem wp_fn {run : RunS} {ds : List D} {Q : Bool × D → Prop} (h : (run (en0 n ds)).wp fun r => ∃ c, flOf r.1 = some c ∧ Q c) : (runFn n run ds).wp Q :=
  (T.wp_bind _ _ _).mpr (T.wp_mono h fun r ⟨c, e, q⟩ => by rw [e]; exact q)
theorem wp_seq {Q : Fl × En → Prop} (h : (a en).wp fun r => (∃ e, r = (.nx, e) ∧ (b e).wp Q) ∨ (r.1 ≠ .nx ∧ Q r)) : (sSeq a b en).wp Q :=
  (T.wp_bind _ _ _).mpr (T.wp_mono h fun r hr => by
    rcases hr with ⟨e, rfl, q⟩ | ⟨ne, q⟩
    · exact q
    · obtain ⟨fl, e⟩ := r
      cases fl with
      | nx => exact absurd rfl ne
      | bk => exact q
      | ct => exact q
      | rt c => exact q)
theorem wp_set {Q : Fl × En → Prop} (h : (ra en).wp fun x => ∃ e, putO i x = some e ∧ Q (.nx, e)) : (sSet i ra en).wp Q :=
  (T.wp_bind _ _ _).mpr (T.wp_mono h fun r ⟨e, h1, q⟩ => by rw [h1]; exact q)
theorem wp_ret {Q : Fl × En → Prop} (h : (ra en).wp fun x => ∃ c, retO x.1 = some c ∧ Q (.rt c, x.2)) : (sRet ra en).wp Q :=
  (T.wp_bind _ _ _).mpr (T.wp_mono h fun r ⟨e, h1, q⟩ => by rw [h1]; exact q)
theorem wp_drop {Q : Fl × En → Prop} (h : (ra en).wp fun x => Q (.nx, x.2)) : (sDrop ra en).wp Q :=
  (T.wp_bind _ _ _).mpr h
theorem wp_cons {Q : List Op × En → Prop} (h : (ra en).wp fun x => (rs x.2).wp fun y => Q (x.1.fz :: y.1, y.2)) : (rCons ra rs en).wp Q :=
  (T.wp_bind _ _ _).mpr (T.wp_mono h fun r q => (T.wp_bind _ _ _).mpr q)
theorem wp_call {Q : Op × En → Prop} (h : (rs en).wp fun x => ∃ ds, onlyV x.1 = some ds ∧ (f ds).wp fun c => Q (mkO c, x.2)) : (rCall f rs en).wp Q :=
  (T.wp_bind _ _ _).mpr (T.wp_mono h fun r ⟨ds, h1, q⟩ => by
    show ((T.ofOpt (onlyV r.1)).bind _).wp Q
    rw [h1]
    show ((f ds).bind fun c => T.ret (mkO c, r.2)).wp Q
    exact (T.wp_bind (f ds) (fun c => T.ret (mkO c, r.2)) Q).mpr q)
theorem wp_disp {c : List D → Option (Bool × D)} {Q : Op × En → Prop} (h : (rs en).wp fun x => ∃ r, (onlyV x.1).bind c = some r ∧ Q (mkO r, x.2)) : (rDisp c rs en).wp Q :=
  (T.wp_bind _ _ _).mpr (T.wp_mono h fun r ⟨d, h1, q⟩ => by
    show (ret1 ((onlyV r.1).bind c) r.2).wp Q
    rw [h1]
    exact q)
theorem wp_runN {g : List D → Option (Bool × D)} {Q : Op × En → Prop} (h : (rs en).wp fun x => ∃ r, (frcs x.2 x.1).bind g = some r ∧ Q (mkO r, x.2)) : (runN rs g en).wp Q :=
  (T.wp_bind _ _ _).mpr (T.wp_mono h fun r ⟨d, h1, q⟩ => by
    show (ret1 _ r.2).wp Q
    rw [h1]
    exact q)
theorem wp_eq {α : Type} {t : T α} {x : α} {Q : α → Prop} (h : t = .ret x) (q : Q x) : t.wp Q := by rw [h]; exact q
end
end Sx
set_option Elab.async false
set_option linter.all false
set_option maxRecDepth 100000
set_option maxHeartbeats 4000000
set_option autoImplicit false
namespace Sx
open PySem L2
/-! ### a call that is lent what names own: its result is plain, and nothing of it stays -/
def flat : D → Bool
  | .non => true
  | .bl _ => true
  | .int _ => true
  | .str _ => true
  | _ => false
def rLend (f : Fn) (rs : Runs) : Run := fun en => (rs en).bind fun a => (T.ofOpt (frcs a.2 a.1)).bind fun ds => (f ds).bind fun c => if flat c.2 then .ret (.v c.2, a.2) else .fail
section
variable {W : Wd} {S P S' P' : Addr → Prop} {en : En} {σ : St} {H H' : Hp} {X : Cx} {v : V} {c : Bool × D} {d : D}
theorem flat_tin (h : flat d = true) (dv : Dv W S H v d) : Dz W S' H' v d := by
  cases dv <;> first | cases h | skip
  · exact ⟨trivial, .non⟩
  · exact ⟨trivial, .bl _⟩
  · exact ⟨trivial, .int _⟩
  · exact ⟨trivial, .str _⟩
/-- behind such a call all is as it was -/
theorem Rel.lent {S2 : Addr → Prop} (R : Rel W S P en σ H) (e : Ext S2 (Pall W H) H S' P' H') (ro : RetOk W S' P' H') :
    Ext S P H S P H' ∧ Rel W S P en σ H' := by
  have inA : ∀ a, P a → Pall W H a := fun a h => ⟨R.pd a h, fun z => R.drP.1 (z ▸ h), R.drP.2.nb h⟩
  have hA : ∀ a, Pall W H a → H' a = H a := e.h
  refine ⟨⟨fun _ h => h, fun _ h => h, fun a h => hA a (inA a h), fun _ h => .inl h⟩, ⟨R.sp, fun a h => by obtain ⟨o, q⟩ := R.pd a h; exact ⟨o, (hA a (inA a h)).trans q⟩, fun i f d q => ?_, R.inj, R.len, ro.dr, R.drP, ro.tb⟩⟩
  obtain ⟨v, hv, dv, t, ow⟩ := R.slot i f d q
  refine ⟨v, hv, dv.mono (fun _ h => h) (fun a h => hA a (inA a (R.sp a h))) ?_, t, fun z => ?_⟩
  · by_cases hf : f = .fz
    · exact (t hf).mono fun a h => hA a (inA a (R.sp a h))
    · obtain ⟨p, o, ev, _, _, _, h1, h2, h3⟩ := ow hf
      subst ev
      have : H' p = H p := hA p ⟨⟨o, h3⟩, h1, h2⟩
      cases d <;> first | exact trivial | exact this
  · obtain ⟨p, o, ev, hs, hq, hl, h1, h2, h3⟩ := ow z
    exact ⟨p, o, ev, hs, hq, hl, h1, h2, (hA p ⟨⟨o, h3⟩, h1, h2⟩).trans h3⟩
/-- what is lent, and what is frozen -/
def lentS (W : Wd) (S : Addr → Prop) (H : Hp) : Addr → Prop := fun a => S a ∨ (a ≠ W.da ∧ NB W a ∧ ∃ o, H a = some o)
theorem Pend.lent {o : Op} (R : Rel W S P en σ H) (h : Pend W S σ H v o) (q : frc en o = some d) : Dz W (lentS W S H) H v d := by
  have dv := h.now R q
  have up : Tin (lentS W S H) v d := by
    cases o with
    | v d' => cases q; exact h.1.mono fun a s => .inl s
    | fr d => exact h.elim
    | b i =>
      cases e : en[i]? with
      | none => simp only [frc, e] at q; cases q
      | some s =>
        cases s with
        | none => simp only [frc, e] at q; cases q
        | some fd =>
          obtain ⟨f, d'⟩ := fd
          simp only [frc, e] at q
          cases q
          obtain ⟨v', e', dv', t, ow⟩ := R.slot i f d e
          have h' : σ[i]? = some (some v) := h
          rw [h'] at e'
          cases e'
          by_cases hf : f = .fz
          · exact (t hf).mono fun a s => .inl s
          · obtain ⟨p, o, ev, _, _, _, h1, h2, h3⟩ := ow hf
            subst ev
            have : lentS W S H p := .inr ⟨h1, h2, o, h3⟩
            cases d <;> first | exact trivial | exact this
  exact ⟨up, dv.mono (fun a s => .inl s) (fun _ _ => rfl) (by cases v <;> cases d <;> first | exact trivial | exact rfl)⟩
theorem PendL.lent (R : Rel W S P en σ H) : ∀ {vs : List V} {os : List Op} {ds : List D}, PendL W S σ H vs os → frcs en os = some ds → DvL W (lentS W S H) H vs ds
  | [], [], ds, _, q => by cases q; exact .nil
  | v :: vs, o :: os, ds, h, q => by
    obtain ⟨d, h1, q⟩ := Option.bind_eq_some_iff.mp q
    obtain ⟨ds', h2, q⟩ := Option.bind_eq_some_iff.mp q
    cases q
    have z := Pend.lent R h.1 h1
    exact .cons z.1 z.2 (PendL.lent R h.2 h2)
  | [], _ :: _, _, h, _ => h.elim
  | _ :: _, [], _, h, _ => h.elim
theorem frcs_len : ∀ {os : List Op} {ds : List D}, frcs en os = some ds → ds.length = os.length
  | [], ds, h => by cases h; rfl
  | o :: os, ds, h => by
    obtain ⟨d, e1, h⟩ := Option.bind_eq_some_iff.mp h
    obtain ⟨es, e, h⟩ := Option.bind_eq_some_iff.mp h
    cases h
    simp [frcs_len e]
theorem tv_lend {n : Nat} {f : Fn} {rs : Runs} {cls : CT} (hcl : W.cls = cls) {Q : VK} (hn : LenR rs n) (h : TV W (rLend f rs) σ H Q) : tCall (spR W.K cls n f) [] E0 (TVs W rs) σ H Q := by
  obtain ⟨S, P, en, R, w⟩ := h
  have w := T.wp_all ((T.wp_bind _ _ _).mp w) (hn en)
  refine ⟨S, P, en, R, T.wp_mono w fun r ⟨q, len⟩ vs H1 S1 P1 e1 R1 pe => ?_⟩
  obtain ⟨ds, hds, q⟩ := T.wp_ofOpt ((T.wp_bind _ _ _).mp q)
  have dl := PendL.lent R1 pe hds
  have q := (T.wp_bind _ _ _).mp q
  rw [List.append_nil]
  refine ⟨dl.len.trans ((frcs_len hds).trans len), W, lentS W S1 H1, ds, rfl, hcl, R1.dr, R1.tb, fun a h => h.elim (R1.dom a) fun z => z.2.2, fun w => w.elim (fun w => R1.drP.1 (R1.sp _ w)) fun z => z.1 rfl, ⟨fun w => w.elim (fun w => R1.drP.2.1 (R1.sp _ w)) fun z => z.2.1.1 rfl, fun x hx w => w.elim (fun w => R1.drP.2.2 x hx (R1.sp _ w)) fun z => z.2.1.2 x hx rfl⟩, dl, T.wp_mono q fun c q v H' S' P' e ro ok => ?_⟩
  obtain ⟨e2, R2⟩ := R1.lent e ro
  cases hf : flat c.2 with
  | false =>
    rw [hf] at q
    exact q.elim
  | true =>
    rw [hf] at q
    exact q v H' S1 P1 (e1.trans e2) R2 (flat_tin hf ok.1)
end
instance {f : Fn} {rs : Runs} [g : ShRuns rs] : ShRun (rLend f rs) := ⟨fun en => all_seq (g.sh en) fun _ => all_of fun _ _ => T.all_bind (T.all_triv fun _ => by
  split
  · exact LkSub.refl _
  · trivial)⟩
section
variable {W : Wd} {X : Cx} {e : Expr} {es : List Expr} {rs : Runs} {k : Nat} {x : Str} {p pos : Pos}
theorem e_lend {f : Addr} {fd : FuncData} {ps : List Str} {n : Nat} {fn : Fn} {cls : CT} (F : FnG X.prog X.w X.K X.mg X.base CX0 k f fd ps (spR X.K cls n fn)) (hcl : W.cls = cls) (hK : X.K = W.K) (hr : Room k X.A) (hg : NoG X.A) (hm : X.mg x = some (.ref f)) (hk : PySem.W.keepIn X.K (.ref f) = true)
    (hb : Binds X.K fd ps []) (ha : PA X (e :: es) (TVs W rs)) (hn : LenR rs n) (gl : Gl X x := by rfl) (hdb : (x == ("__debug__" : Str)) = false := by decide)
    (he : starEach (e :: es) X.env = (false, eval e X.env) :: starEach es X.env := by rfl) (hpl : (backTo pos (starEach es X.env)).any (·.1) = false := by rfl) : PE X (.Call (.Name x p) (e :: es) [] pos) (TV W (rLend fn rs)) :=
  pe_weak (pe_callG F hr hg gl hm hk hb .nil pass0 ha hdb he hpl) fun _ _ _ h => by rw [hK]; exact tv_lend hcl hn h
end
end Sx
set_option Elab.async false
set_option linter.all false
set_option maxRecDepth 100000
set_option maxHeartbeats 4000000
set_option autoImplicit false
namespace Sx
open PySem L2 PyProof.Rows
/-! ### objects of own classes, by defs that know that no repr runs -/
section
variable {X : Cx} {CX : CXT} {k : Nat} {f C p g : Addr} {fd : FuncData} {ps : List Str} {sp : Sp} {dvs : List V} {ds : List Value} {E : XK} {x m : Str} {q pos apos : Pos} {e o : Expr} {es : List Expr} {ta : TE} {t : TA}
/-- the callee, its arguments filled up -/
theorem runD {pins : List (Addr × Obj)} {σ : L2.St} {H : Hp} {s : Shared} {Q : VK} {us : List Value} {vs : List V} (F : FnG X.prog X.w X.K X.mg X.base CX k f fd ps sp) (hr : Room k X.A) (hg : NoG X.A) (hb : Binds X.K fd ps ds) (hd : Vals dvs ds) (hx : Passes CX X E)
    (I : Inv X pins σ H s) (r : Vals vs us) (h : sp (vs ++ dvs) H Q E) : wpAny (model X.prog X.w) X.A (PySem.call (.ref f) us) (EP X pins σ Q) X.xe s := by
  have r2 : Vals (vs ++ dvs) (us ++ ds) := r.append hd
  exact runG (kw := []) F hr hg hx I (hb s us I.kIn (by rw [← r2.length]; exact F.len _ _ _ _ h)) r2 h
theorem pe_methG {pl : Sem Bool} (he : PE X o ta) (c : Cls X.K C) (hm : Meth X.K C m f) (F : FnG X.prog X.w X.K X.mg X.base CX k f fd ps sp) (hr : Room k X.A) (hg : NoG X.A) (hb : Binds X.K fd ps ds) (hd : Vals dvs ds) (hx : Passes CX X E) (ha : PA X (e :: es) t)
    (h1 : starEach (e :: es) X.env = (false, eval e X.env) :: starEach es X.env := by rfl) (h2 : (backTo pos (starEach es X.env)).any (·.1) = false := by rfl)
    (h3 : eval (.Call (.Attribute o m apos) (e :: es) [] pos) X.env = (do
      let y ← eval o X.env
      standAt apos.atName
      let (z, first) ← holding [y] (getMethod y m pl)
      callWith pos z first (backTo pos (starEach (e :: es) X.env)) (backToKw pos (keywordEach [] X.env))) := by rfl) :
    PE X (.Call (.Attribute o m apos) (e :: es) [] pos) (tMeth C m sp dvs E ta t) := ⟨fun pins s σ H Q I h => by
  refine PySem.W.methodCall_KW (pl := pl) (thn (he.run pins s σ H _ I h) fun u s1 ⟨y, H1, I1, ry, a, dx, fs, ey, ea, l, w⟩ => ?_) h3
  subst ey
  cases (show u = Value.ref a from ry)
  refine getmeth_ok I1 ea c hm l (PySem.W.callWith_K (first := [.ref a]) (h₀ := X.base) I.ok.mod.kin hm.kp (thn (ha.run pos pins s1 σ H1 _ I1 w) fun us s2 ⟨vs, H2, I2, r, w2⟩ => ⟨I2.kIn, ?_⟩) h1 h2)
  exact runD (us := .ref a :: us) (vs := .ref a :: vs) F hr hg hb hd hx I2 (.cons rfl r) w2⟩
theorem pe_methG0 {pl : Sem Bool} (he : PE X o ta) (c : Cls X.K C) (hm : Meth X.K C m f) (F : FnG X.prog X.w X.K X.mg X.base CX k f fd ps sp) (hr : Room k X.A) (hg : NoG X.A) (hb : Binds X.K fd ps ds) (hd : Vals dvs ds) (hx : Passes CX X E)
    (h3 : eval (.Call (.Attribute o m apos) [] [] pos) X.env = (do
      let y ← eval o X.env
      standAt apos.atName
      let (z, first) ← holding [y] (getMethod y m pl)
      callWith pos z first (backTo pos (starEach [] X.env)) (backToKw pos (keywordEach [] X.env))) := by rfl) :
    PE X (.Call (.Attribute o m apos) [] [] pos) (tMeth C m sp dvs E ta tNil) := ⟨fun pins s σ H Q I h => by
  refine PySem.W.methodCall_KW (pl := pl) (thn (he.run pins s σ H _ I h) fun u s1 ⟨y, H1, I1, ry, a, dx, fs, ey, ea, l, w⟩ => ?_) h3
  subst ey
  cases (show u = Value.ref a from ry)
  exact getmeth_ok I1 ea c hm l (PySem.W.callWith_K0 (first := [.ref a]) I1.kIn hm.kp (runD (us := [.ref a]) (vs := [.ref a]) F hr hg hb hd hx I1 (.cons rfl .nil) w))⟩
/-- C(..) -/
theorem runMake {pins : List (Addr × Obj)} {σ : L2.St} {H : Hp} {s : Shared} {Q : VK} {us : List Value} {vs : List V} (M : Mk X.K C f) (F : FnG X.prog X.w X.K X.mg X.base CX k f fd ps sp) (hr : Room (k + 1) X.A) (hg : NoG X.A) (hb : Binds X.K fd ps ds) (hd : Vals dvs ds)
    (hx : Passes CX X E) (I : Inv X pins σ H s) (r : Vals vs us) (h : ∀ y dx, H y = none → H dx = none → dx ≠ y → sp (.ref y :: (vs ++ dvs)) (upd (upd H dx (.own y)) y (.ins C dx [])) (fun v H2 => v = .non ∧ Q (.ref y) H2) E) :
    wpAny (model X.prog X.w) X.A (PySem.call (.ref C) us) (EP X pins σ Q) X.xe s := by
  have w := h (s.heap.objs.size + 1) s.heap.objs.size (I.hok.fresh (Nat.le_succ _)) (I.hok.fresh (Nat.le_refl _)) (Nat.ne_of_lt (Nat.lt_succ_self _))
  have I2 := Inv.made (C := C) I
  have r2 : Vals (V.ref (s.heap.objs.size + 1) :: (vs ++ dvs)) (Value.ref (s.heap.objs.size + 1) :: (us ++ ds)) := .cons rfl (r.append hd)
  have hl : (Value.ref (s.heap.objs.size + 1) :: us ++ ds).length = ps.length := by
    have z := F.len _ _ _ _ w
    rw [r2.length] at z
    exact z
  refine wpAny_call (make_map (f := f) I.kIn M.makes M.init (beq_iff_eq.mp M.fn) (codeAny_mono (F.go (hr.make C us []) hg (I2.env0.make C us []) (hb _ (Value.ref (s.heap.objs.size + 1) :: us) I2.kIn hl) r2 w) fun fl s' z => ?_))
  cases fl with
  | error er => exact hx pins σ _ _ er s' I2 z
  | ok fl => cases fl with
    | ret u =>
      obtain ⟨v, H', I3, rv, ev, w3⟩ := I2.after z
      subst ev
      exact ⟨rv, ⟨V.ref (s.heap.objs.size + 1), H', I3, rfl, w3⟩⟩
    | _ => exact False.elim z
theorem pe_makeG (M : Mk X.K C f) (F : FnG X.prog X.w X.K X.mg X.base CX k f fd ps sp) (hr : Room (k + 1) X.A) (hg : NoG X.A) (gl : Gl X x) (hm : X.mg x = some (.ref C)) (hb : Binds X.K fd ps ds) (hd : Vals dvs ds) (hx : Passes CX X E)
    (ha : PA X (e :: es) t) (hdb : (x == ("__debug__" : Str)) = false := by decide) (h1 : starEach (e :: es) X.env = (false, eval e X.env) :: starEach es X.env := by rfl) (h2 : (backTo pos (starEach es X.env)).any (·.1) = false := by rfl) :
    PE X (.Call (.Name x q) (e :: es) [] pos) (tMake C sp dvs E t) := ⟨fun pins s σ H Q I h =>
  wpAny_Call_Name_kw (ld_glob I gl hm (PySem.W.callWith_K (h₀ := X.base) I.ok.mod.kin M.kp (thn (ha.run pos pins s σ H _ I h) fun us s1 ⟨vs, H1, I1, r, w⟩ => ⟨I1.kIn, runMake M F hr hg hb hd hx I1 r w⟩) h1 h2) hdb)⟩
/-- a property -/
theorem getpropG {a dx : Addr} {fs : List (Str × V)} {y : Str} {pins : List (Addr × Obj)} {σ : L2.St} {H : Hp} {s : Shared} {Q : VK} {b : Bool} {E' : Value → Shared → Prop} (I : Inv X pins σ H s) (ea : H a = some (.ins C dx fs)) (c : Cls X.K C) (hp : PropOf X.K C y p g)
    (F : FnG X.prog X.w X.K X.mg X.base CX k g fd ps sp) (hr : Room (k + 1) X.A) (hg : NoG X.A) (hb : Binds X.K fd ps ds) (hd : Vals dvs ds) (hx : Passes CX X.nox E) (h : sp (.ref a :: dvs) H Q E) :
    wpAny (model X.prog X.w) X.A (getAttr (.ref a) y b) (EP X pins σ Q) E' s := by
  obtain ⟨mA, O, _, _, _, _⟩ := ins_get I.hok ea
  obtain ⟨od, J, _⟩ := O.look
  obtain ⟨rest, hrec⟩ := hp.rec_
  have hl : ([Value.ref a] ++ ds).length = ps.length := by
    have z := F.len _ _ _ _ h
    rw [← z]
    exact congrArg Nat.succ hd.length.symm
  have hc : (PySem.W.clsIn X.K C).isSome = true := by
    obtain ⟨cd, hc, _⟩ := PySem.W.any_some c.hd
    rw [hc]
    rfl
  have pg := PySem.W.plainGet_of (c.get y)
  refine PySem.W.get_bind I.kIn J pg.1 (PySem.W.findObj_data hc hp.at_ hp.get hp.tak) pg.2 (wpAny_call (PySem.W.prop_get (s := { s with toks := s.toks + 1 }) I.kIn hrec ?_))
  refine codeAny_mono (F.go (A := X.A.in1) (vs := V.ref a :: dvs) (us := Value.ref a :: ds) hr.in1 hg (I.tok (s.toks + 1)).env0.in1 (hb _ [.ref a] (I.tok (s.toks + 1)).kIn hl) (.cons rfl hd) h) fun fl s' z => ?_
  cases fl with
  | error er => exact False.elim (hx pins σ H { s with toks := s.toks + 1 } er s' ((I.tok (s.toks + 1)).wish _) z)
  | ok fl => cases fl with
    | ret u =>
      obtain ⟨v, H', I3, rv, w3⟩ := (I.tok (s.toks + 1)).after z
      show wpAny _ _ (handedOut u) _ _ _
      rw [PySem.W.handedOut_of (handed_of rv)]
      exact wpAny_pure ⟨v, H', I3, rv, w3⟩
    | _ => exact False.elim z
theorem pe_propG {y : Str} (he : PE X e ta) (c : Cls X.K C) (hp : PropOf X.K C y p g) (F : FnG X.prog X.w X.K X.mg X.base CX k g fd ps sp) (hr : Room (k + 1) X.A) (hg : NoG X.A) (hb : Binds X.K fd ps ds) (hd : Vals dvs ds) (hx : Passes CX X.nox E)
    (hab : attributeBase e y X.env (eval e X.env) = eval e X.env := by rfl) : PE X (.Attribute e y pos) (tProp C sp dvs E ta) := ⟨fun pins s σ H Q I h => attr_of hab (thn (he.run pins s σ H _ I h) fun u s1 ⟨z, H1, I1, rz, a, dx, fs, ez, ea, w⟩ => by
  subst ez
  cases (show u = Value.ref a from rz)
  exact getpropG I1 ea c hp F hr hg hb hd hx w)⟩
/-- len(o) by an own __len__ -/
def rLenO (C : Addr) (sp : Sp) : List V → Hp → VK → Prop := fun vs H Q => ∃ a dx fs, vs = [.ref a] ∧ H a = some (.ins C dx fs) ∧ sp [.ref a] H (fun v H' => ∃ n : Nat, v = .int n ∧ n < 4611686018427387904 ∧ Q (.int n) H') E0
theorem cr_lenO (hs : PySem.W.findIn X.K (.ref C) "__len__" = some (some (.ref f))) (hf : PySem.W.isFn X.K (.ref f) = true) (F : FnG X.prog X.w X.K X.mg X.base CX0 k f fd ps sp) (hr : Room (k + 1) X.A) (hg : NoG X.A) (hb : Binds X.K fd ps []) : CallR X (.builtin "len") (rLenO C sp) := by
  intro pins s σ H xs us Q I r h
  obtain ⟨a, dx, fs, rfl, ea, w⟩ := h
  obtain ⟨u, rfl, ru⟩ := vals1 r
  cases (show u = Value.ref a from ru)
  obtain ⟨mA, O, _, _, _, _⟩ := ins_get I.hok ea
  obtain ⟨od, J, _⟩ := O.look
  obtain ⟨m, hF⟩ := I.fr
  refine PySem.W.len_K hF I.ok.mod.kin J hs hf (wpAny_call ?_)
  have hl : ([Value.ref a] ++ []).length = ps.length := (F.len _ _ _ _ w)
  refine codeAny_mono (F.go (A := X.A.in1) (vs := [V.ref a]) (us := [Value.ref a]) hr.in1 hg I.env0.in1 (hb s [.ref a] I.kIn hl) (.cons rfl .nil) w) fun fl s' z => ?_
  cases fl with
  | error er => exact z.elim
  | ok fl => cases fl with
    | ret u =>
      obtain ⟨v, H', I3, rv, n, ev, hn, w3⟩ := I.after z
      subst ev
      obtain ⟨tk, eu⟩ := (show ∃ t, u = Value.int n t from rv)
      cases eu
      exact ⟨⟨by omega, by omega⟩, .int n, H', I3.tok _, ⟨_, rfl⟩, w3⟩
    | _ => exact False.elim z
/-- x == y by an own __eq__ -/
def rEqO (C : Addr) (sp : Sp) : R2 := fun x y H Q => ∃ a dx fs, x = .ref a ∧ H a = some (.ins C dx fs) ∧ sp [.ref a, y] H (fun v H' => (∃ b, v = .bl b) ∧ Q v H') E0
end
end Sx
set_option Elab.async false
set_option linter.all false
set_option maxRecDepth 100000
set_option maxHeartbeats 4000000
set_option autoImplicit false
namespace Sx
open PySem L2 PyProof.Rows
section
variable {W : Wd} {S P S' P' : Addr → Prop} {H H' : Hp} {en : En} {σ : L2.St} {v : V} {d : D}
/-! ### fields -/
theorem DvP.get {f : Str} : ∀ {fs : List (Str × V)} {ds : List (Str × D)}, DvP W S H fs ds → (∀ d, ds.lookup f = some d → ∃ v, fs.lookup f = some v ∧ Dz W S H v d) ∧ (ds.lookup f = none → fs.lookup f = none)
  | [], _, h => by
    cases h
    exact ⟨fun d e => (by cases e), fun _ => rfl⟩
  | (k, v) :: fs, _, h => by
    cases h with
    | cons t dv r =>
      obtain ⟨h1, h2⟩ := DvP.get (f := f) r
      rw [List.lookup_cons, List.lookup_cons]
      cases hk : f == k with
      | true => exact ⟨fun d e => (by cases e; exact ⟨v, rfl, t, dv⟩), fun e => (by cases e)⟩
      | false => exact ⟨h1, h2⟩
theorem DvP.put {f : Str} {y : D} (hz : Dz W S H v y) : ∀ {fs : List (Str × V)} {ds : List (Str × D)}, DvP W S H fs ds → ds.lookup f = none → DvP W S H (putF f v fs) (ds ++ [(f, y)])
  | [], _, h, _ => by
    cases h
    exact .cons hz.1 hz.2 .nil
  | (k, x) :: fs, _, h, hn => by
    cases h with
    | cons t dv r =>
      rw [List.lookup_cons] at hn
      cases hk : f == k with
      | true => rw [hk] at hn; cases hn
      | false =>
        rw [hk] at hn
        have ne : ¬ k = f := fun e => by rw [e] at hk; simp at hk
        show DvP W S H (if k = f then _ else _) _
        rw [if_neg ne]
        exact .cons t dv (DvP.put hz r hn)
theorem DvP.len : ∀ {fs : List (Str × V)} {ds : List (Str × D)}, DvP W S H fs ds → fs.length = ds.length
  | [], _, h => by cases h; rfl
  | (k, x) :: fs, _, h => by
    cases h with
    | cons _ _ r => simp [DvP.len r]
def clsN (c0 : Nat) : D → Option (List (Str × D))
  | .obj c fs => if c = c0 then some fs else none
  | _ => none
theorem clsN_some {c0 : Nat} {fs : List (Str × D)} (h : clsN c0 d = some fs) : d = .obj c0 fs := by
  unfold clsN at h
  split at h
  · split at h
    · rename_i e; cases h; rw [e]
    · cases h
  · cases h
theorem Dv.obj_at {c0 : Nat} {fs : List (Str × D)} (h : Dv W S H v (.obj c0 fs)) : ∃ a dx fv, v = .ref a ∧ H a = some (.ins (W.cls c0) dx fv) ∧ DvP W S H fv fs := by
  cases h with
  | obj ha dp => exact ⟨_, _, _, rfl, ha, dp⟩
def fFld (c0 : Nat) (f : Str) (d : D) : Option (Bool × D) := (clsN c0 d).bind fun fs => (fs.lookup f).map fun x => (false, x)
theorem p_fld {c0 : Nat} {f : Str} (c : Cls W.K (W.cls c0)) (n : NoAttr W.K (W.cls c0) f) : Pure1 W (fun x H Q => ∃ a C dx fs v, x = .ref a ∧ H a = some (.ins C dx fs) ∧ Cls W.K C ∧ NoAttr W.K C f ∧ fs.lookup f = some v ∧ Q v H) (fFld c0 f) := by
  intro S H x d r Q hd hx h q
  obtain ⟨fs, e1, h⟩ := Option.bind_eq_some_iff.mp h
  obtain ⟨y, e2, rfl⟩ := Option.map_eq_some_iff.mp h
  cases clsN_some e1
  obtain ⟨a, dx, fv, rfl, ha, dp⟩ := hx.obj_at
  obtain ⟨v, e3, dz⟩ := (dp.get (f := f)).1 y e2
  exact ⟨a, _, dx, fv, v, rfl, ha, c, n, e3, q.old hd dz⟩
theorem e_fld {X : Cx} {c0 : Nat} {f : Str} {e : Expr} {pos : Pos} {ra : Run} (hK : X.K = W.K) (c : Cls W.K (W.cls c0)) (n : NoAttr W.K (W.cls c0) f) (ha : PE X e (TV W ra)) (hb : attributeBase e f X.env (eval e X.env) = eval e X.env := by rfl) : PE X (.Attribute e f pos) (TV W (run1 ra (fFld c0 f))) :=
  pe_weak (pe_fld ha hb) fun _ _ _ h => by rw [hK]; exact tv1 (p_fld c n) h
/-! ### methods, properties -/
def rMeth (c0 : Nat) (m : Str) (f : Fn) (ro : Run) (rs : Runs) : Run := fun en => (ro en).bind fun o => match o.1.fz with
  | .v d => if ((clsN c0 d).map fun fs => (fs.lookup m).isNone) = some true then (rs o.2).bind fun a => (T.ofOpt (onlyV a.1)).bind fun ds => (f (d :: ds)).bind fun c => .ret (mkO c, a.2) else .fail
  | _ => .fail
def rProp (c0 : Nat) (f : Fn) (ro : Run) : Run := fun en => (ro en).bind fun o => match o.1.fz with
  | .v d => if (clsN c0 d).isSome then (f [d]).bind fun c => .ret (mkO c, o.2) else .fail
  | _ => .fail
theorem tv_meth {c0 n : Nat} {m : Str} {f : Fn} {ro : Run} {rs : Runs} {cls : CT} {Q : VK} (hcl : W.cls = cls) (hn : LenR rs n) (h : TV W (rMeth c0 m f ro rs) σ H Q) : tMeth (W.cls c0) m (spR W.K cls (n + 1) f) [] E0 (TV W ro) (TVs W rs) σ H Q := by
  obtain ⟨S, P, en, R, w⟩ := h
  refine TV.use R w fun o v H1 S1 P1 e1 R1 pe q => ?_
  generalize ho : o.1.fz = o' at pe q
  cases o' with
  | fr d => exact pe.elim
  | b i => exact q.elim
  | v d =>
    have q : (if ((clsN c0 d).map fun fs => (fs.lookup m).isNone) = some true then _ else _ : T (Op × En)).wp _ := q
    by_cases hc : ((clsN c0 d).map fun fs => (fs.lookup m).isNone) = some true
    · rw [if_pos hc] at q
      obtain ⟨fs, e2, e3⟩ := Option.map_eq_some_iff.mp hc
      cases clsN_some e2
      obtain ⟨a, dx, fv, rfl, ha, dp⟩ := pe.2.obj_at
      refine ⟨a, dx, fv, rfl, ha, (dp.get (f := m)).2 (Option.isNone_iff_eq_none.mp e3), S1, P1, o.2, R1, ?_⟩
      have q := T.wp_all ((T.wp_bind _ _ _).mp q) (hn o.2)
      refine T.wp_mono q fun r ⟨q, len⟩ vs H2 S2 P2 e4 R2 pe2 => ?_
      obtain ⟨ds, hds, q⟩ := T.wp_ofOpt ((T.wp_bind _ _ _).mp q)
      have dl := pe2.only hds
      have q := (T.wp_bind _ _ _).mp q
      have dz := R1.top e4 pe
      rw [List.append_nil]
      refine ⟨by rw [List.length_cons, dl.len, onlyV_len hds, len], W, S2, .obj c0 fs :: ds, rfl, hcl, R2.dr, R2.tb, R2.dom, fun w => R2.drP.1 (R2.sp _ w), R2.drP.2.sub R2.sp, .cons dz.1 dz.2 dl, T.wp_mono q fun c q v H' S' P' e ro ok => ?_⟩
      obtain ⟨e5, R5, ok5⟩ := R2.call e ro ok
      exact q v H' S' _ (e1.trans (e4.trans e5)) R5 ok5
    · rw [if_neg hc] at q
      exact q.elim
theorem tv_prop {c0 : Nat} {f : Fn} {ro : Run} {cls : CT} {Q : VK} (hcl : W.cls = cls) (h : TV W (rProp c0 f ro) σ H Q) : tProp (W.cls c0) (spR W.K cls 1 f) [] E0 (TV W ro) σ H Q := by
  obtain ⟨S, P, en, R, w⟩ := h
  refine TV.use R w fun o v H1 S1 P1 e1 R1 pe q => ?_
  generalize ho : o.1.fz = o' at pe q
  cases o' with
  | fr d => exact pe.elim
  | b i => exact q.elim
  | v d =>
    have q : (if (clsN c0 d).isSome then _ else _ : T (Op × En)).wp _ := q
    by_cases hc : (clsN c0 d).isSome = true
    · rw [if_pos hc] at q
      obtain ⟨fs, e2⟩ := Option.isSome_iff_exists.mp hc
      cases clsN_some e2
      obtain ⟨a, dx, fv, rfl, ha, dp⟩ := pe.2.obj_at
      have q := (T.wp_bind _ _ _).mp q
      refine ⟨a, dx, fv, rfl, ha, rfl, W, S1, [.obj c0 fs], rfl, hcl, R1.dr, R1.tb, R1.dom, fun w => R1.drP.1 (R1.sp _ w), R1.drP.2.sub R1.sp, .cons pe.1 pe.2 .nil, T.wp_mono q fun c q v H' S' P' e ro ok => ?_⟩
      obtain ⟨e5, R5, ok5⟩ := R1.call e ro ok
      exact q v H' S' _ (e1.trans e5) R5 ok5
    · rw [if_neg hc] at q
      exact q.elim
/-! ### __init__: its statements leave all names as they are -/
abbrev RunK := En → T En
def TSt (W : Wd) (run : RunK) : TS := fun D σ H => ∃ S P en, Rel W S P en σ H ∧ (run en).wp fun e => ∀ H' S' P', Ext S P H S' P' H' → Rel W S' P' e σ H' → D.nx σ H'
def kNx : RunK := fun en => .ret en
def kSeq (a b : RunK) : RunK := fun en => (a en).bind b
/-- if t: raise .. -/
def kGd (rt : RunT) : RunK := fun en => (rt en).bind fun b => if b.1 then .fail else .ret b.2
/-- self.f = e -/
def kFld (i c0 : Nat) (f : Str) (re : Run) : RunK := fun en => (re en).bind fun o => (T.ofOpt (valO o.1)).bind fun y => match o.2[i]? with
  | some (some (.ow, d)) => (T.ofOpt (clsN c0 d)).bind fun fs => if fs.length < 900 ∧ fs.lookup f = none then .ret (o.2.set i (some (.ow, .obj c0 (fs ++ [(f, y)])))) else .fail
  | _ => .fail
variable {X : Cx}
theorem kk_nil : PSs X [] (TSt W kNx) := pss_weak pss_nil fun D σ H h => by
  obtain ⟨S, P, en, R, w⟩ := h
  exact w H S P .refl R
theorem kk_cons {st : Stmt} {sts : List Stmt} {a b : RunK} (h1 : PS X st (TSt W a)) (h2 : PSs X sts (TSt W b)) : PSs X (st :: sts) (TSt W (kSeq a b)) := pss_weak (pss_cons h1 h2) fun D σ H h => by
  obtain ⟨S, P, en, R, w⟩ := h
  refine ⟨S, P, en, R, T.wp_mono ((T.wp_bind _ _ _).mp w) fun e q H' S' P' e1 R1 => ?_⟩
  exact ⟨S', P', e, R1, T.wp_mono q fun e2 q H2 S2 P2 e3 R2 => q H2 S2 P2 (e1.trans e3) R2⟩
theorem kk_gd {c : Expr} {a : List Stmt} {pos : Pos} {rt : RunT} (hc : PT X c (TVT W rt)) : PS X (.If c a [] pos) (TSt W (kGd rt)) := ps_weak (ps_if hc pss_never pss_nil) fun D σ H h => by
  obtain ⟨S, P, en, R, w⟩ := h
  refine ⟨S, P, en, R, T.wp_mono ((T.wp_bind _ _ _).mp w) fun r q H' S' P' e R' => ?_⟩
  obtain ⟨b, e2⟩ := r
  cases b with
  | true => exact q.elim
  | false => exact q H' S' P' e R'
theorem kk_fld {i c0 : Nat} {f : Str} {x : Str} {e : Expr} {pos p1 p2 : Pos} {re : Run} (hK : X.K = W.K) (c : Cls W.K (W.cls c0)) (n : NoAttr W.K (W.cls c0) f) (hN : X.N[i]? = some x) (hx : Vis X.env.scope x) (he : PE X e (TV W re)) (hd : (x == ("__debug__" : Str)) = false := by decide) (hcd : (x == ("__classdict__" : Str)) = false := by decide)
    (hs : swapsWith e (some (.Attribute (.Name x p1) f p2)) pos.line X.env = pure false := by rfl) : PS X (.Assign [.Attribute (.Name x p1) f p2] e pos) (TSt W (kFld i c0 f re)) := ps_weak (ps_fld (pe_var (i := i) hN hx hd hcd) he hs) fun D σ H h => by
  obtain ⟨S, P, en, R, w⟩ := h
  refine ⟨S, P, en, R, T.wp_mono ((T.wp_bind _ _ _).mp w) fun o q v H1 S1 P1 e1 R1 ok => ?_⟩
  obtain ⟨y, hy, q⟩ := T.wp_ofOpt ((T.wp_bind _ _ _).mp q)
  obtain ⟨S2, P2, e2, R2, dz⟩ := ok.valz R1 hy
  cases hs : o.2[i]? with
  | none => rw [hs] at q; exact q.elim
  | some sl =>
    cases sl with
    | none => rw [hs] at q; exact q.elim
    | some fd =>
      obtain ⟨fg, d⟩ := fd
      cases fg with
      | fz => rw [hs] at q; exact q.elim
      | lk => rw [hs] at q; exact q.elim
      | ow =>
        rw [hs] at q
        obtain ⟨fs, hf, q3⟩ := T.wp_ofOpt ((T.wp_bind _ _ _).mp q)
        by_cases hc : fs.length < 900 ∧ fs.lookup f = none
        · rw [if_pos hc] at q3
          cases clsN_some hf
          obtain ⟨u, hu, du, _, ow⟩ := R2.slot i .ow _ hs
          obtain ⟨a, dx, fv, rfl, ha, dp⟩ := du.obj_at
          obtain ⟨p', _, ep, nS, _⟩ := ow (by decide)
          cases ep
          refine ⟨.ref a, hu, a, _, dx, fv, rfl, ha, by rw [hK]; exact c, by rw [hK]; exact n, by rw [dp.len]; omega, ?_⟩
          have keep : ∀ b, S2 b → upd H1 a (.ins (W.cls c0) dx (putF f v fv)) b = H1 b := fun b h => upd_ne fun e => nS (e ▸ h)
          have dp2 := DvP.put dz dp hc.2
          obtain ⟨e3, R3⟩ := R2.mut (u := .ins (W.cls c0) dx (putF f v fv)) (d' := .obj c0 (fs ++ [(f, y)])) hs hu (.obj upd_same (dp2.mono (fun _ h => h) keep)) ⟨_, ha, nx_ins _ _ _⟩
          exact q3 _ S2 P2 (e1.trans (e2.trans e3)) R3
        · rw [if_neg hc] at q3
          exact q3.elim
def enI (N c0 : Nat) (ds : List D) : En := some (.ow, .obj c0 []) :: (ds.map (fun d => some (.fz, d)) ++ List.replicate (N - 1 - ds.length) none)
/-- the promise of an __init__ -/
def spI (K : PySem.W.Frag) (cls : CT) (n N c0 : Nat) (run : RunK) : Sp := fun vs H Q _ => ∃ y dx ws W S ds, vs = .ref y :: ws ∧ ws.length = n ∧ W.K = K ∧ W.cls = cls ∧ DrawOk W H ∧ LamX.Tabs W.tb H ∧ DomS S H ∧ ¬ S W.da ∧ NPb W S ∧ DvL W S H ws ds ∧ H y = some (.ins (cls c0) dx []) ∧ ¬ S y ∧ y ≠ W.da ∧ NB W y ∧
  (run (enI N c0 ds)).wp fun e => ∀ H' S' P', Ext S (fun a => Pall W H a ∧ a ≠ y) H S' P' H' → Rel W S' P' e (some (.ref y) :: (ws.map some ++ List.replicate (N - 1 - n) none)) H' → Q .non H'
theorem enI_get {N c0 : Nat} {ds : List D} {i : Nat} {f : Fg} {d : D} (h : (enI N c0 ds)[i]? = some (some (f, d))) : (i = 0 ∧ f = .ow ∧ d = .obj c0 []) ∨ ∃ j, i = j + 1 ∧ f = .fz ∧ ds[j]? = some d := by
  cases i with
  | zero => cases h; exact .inl ⟨rfl, rfl, rfl⟩
  | succ j =>
    refine .inr ⟨j, rfl, ?_⟩
    have h : (ds.map (fun d => (some (Fg.fz, d) : Slot)) ++ List.replicate (N - 1 - ds.length) none)[j]? = some (some (f, d)) := h
    by_cases hl : j < ds.length
    · rw [List.getElem?_append_left (by simpa using hl), List.getElem?_map] at h
      cases e : ds[j]? with
      | none => rw [e] at h; cases h
      | some x => rw [e] at h; cases h; exact ⟨rfl, rfl⟩
    · rw [List.getElem?_append_right (by simpa using hl)] at h
      have := List.eq_of_mem_replicate (List.mem_of_getElem? h)
      cases this
theorem fnI_ok {Pr : Program} {w : World} {K : PySem.W.Frag} {mg : Str → Option Value} {base : Heap} {cls : CT} {x qual : Str} {st : Stmt} {f : Addr} {fd : FuncData} {N ps : List Str} {k c0 n : Nat} {run : RunK} (F : Fun K x qual st f fd) (Sc : FnScope N ps (defScope st)) (hn : ps.length = n + 1)
    (hb : ∀ (cdv : Value) (A : Around) (outer : List PySem.Env) (s : Shared) (H : Hp) (E : XK), Room k (A.deeper (envOfC qual (defScope st) s.heap.objs.size f cdv)) → NoG (A.deeper (envOfC qual (defScope st) s.heap.objs.size f cdv)) → ∀ W : Wd, W.K = K → W.cls = cls →
      PSs (cxOf CX0 Pr w K mg base N qual (defScope st) f cdv A outer s H E).nox (defBody st) (TSt W run)) : FnG Pr w K mg base CX0 (k + 1) f fd ps (spI K cls n N.length c0 run) := by
  refine fnG_of F Sc (fun vs H Q E h => by obtain ⟨y, dx, ws, W, S, ds, rfl, hl, _⟩ := h; rw [hn, List.length_cons, hl]) fun cdv A outer s H vs Q E hr hg h => ?_
  obtain ⟨y, dx, ws, W, S, ds, rfl, hl, hK, hc, dr, tb, dom, n1, n2, dl, hy, nS, m1, m2, wpq⟩ := h
  have len : ds.length = n := dl.len.symm.trans hl
  have st0 : L2.start N (.ref y :: ws) = some (.ref y) :: (ws.map some ++ List.replicate (N.length - 1 - n) none) := by
    unfold L2.start
    rw [List.map_cons, List.length_cons, hl]
    show some (V.ref y) :: (ws.map some ++ List.replicate (N.length - (n + 1)) none) = _
    congr 3
    omega
  refine ⟨_, (hb cdv A outer s H E hr hg W hK hc).nox, S, (fun a => Pall W H a ∧ a ≠ y), enI N.length c0 ds, ?_, ?_⟩
  · rw [st0]
    refine ⟨fun a h => ⟨⟨dom a h, fun z => n1 (z ▸ h), n2.nb h⟩, fun z => nS (z ▸ h)⟩, fun a h => h.1.1, fun i f d e => ?_, fun i j f g d e v h1 h2 h3 h4 _ _ => ?_, ?_, dr, ⟨fun h => h.1.2.1 rfl, ⟨fun h => h.1.2.2.1 rfl, fun x hx h => h.1.2.2.2 x hx rfl⟩⟩, tb⟩
    · rcases enI_get e with ⟨rfl, rfl, rfl⟩ | ⟨j, rfl, rfl, hd⟩
      · exact ⟨.ref y, rfl, .obj (by rw [hc]; exact hy) .nil, (fun z => by cases z), fun _ => ⟨y, _, rfl, nS, fun _ h => h.2 rfl, (fun z => by cases z), m1, m2, hy⟩⟩
      · obtain ⟨v, hv, dz⟩ := (dl.at (i := j)).2 d hd
        refine ⟨v, ?_, dz.2, fun _ => dz.1, fun z => absurd rfl z⟩
        show (ws.map some ++ List.replicate (N.length - 1 - n) none)[j]? = _
        rw [List.getElem?_append_left (by simpa using lt_of_get hv), List.getElem?_map, hv]
        rfl
    · rcases enI_get h1 with ⟨rfl, _⟩ | ⟨_, _, z, _⟩
      · rcases enI_get h2 with ⟨rfl, _⟩ | ⟨_, _, z, _⟩
        · rfl
        · exact absurd z h4
      · exact absurd z h3
    · unfold enI
      simp only [List.length_cons, List.length_append, List.length_map, List.length_replicate, len, hl]
  · rw [st0]
    exact wpq
/-- a new object, handed out -/
def rMake (N c0 : Nat) (run : RunK) (rs : Runs) : Run := fun en => (rs en).bind fun a => (T.ofOpt (onlyV a.1)).bind fun ds => (run (enI N c0 ds)).bind fun (e : En) => match (e[(0 : Nat)]? : Option Slot) with
  | some (some (.ow, d)) => .ret (.fr d, a.2)
  | _ => .fail
theorem tv_make {n N c0 : Nat} {run : RunK} {rs : Runs} {cls : CT} {Q : VK} (hcl : W.cls = cls) (hn : LenR rs n) (h : TV W (rMake N c0 run rs) σ H Q) : tMake (cls c0) (spI W.K cls n N c0 run) [] E0 (TVs W rs) σ H Q := by
  obtain ⟨S, P, en, R, w⟩ := h
  have w := T.wp_all ((T.wp_bind _ _ _).mp w) (hn en)
  refine ⟨S, P, en, R, T.wp_mono w fun r ⟨q, len⟩ vs H1 S1 P1 e1 R1 pe y dx hy hdx ne => ?_⟩
  obtain ⟨ds, hds, q⟩ := T.wp_ofOpt ((T.wp_bind _ _ _).mp q)
  have dl := pe.only hds
  have q := (T.wp_bind _ _ _).mp q
  have old : ∀ a o, H1 a = some o → upd (upd H1 dx (.own y)) y (.ins (cls c0) dx []) a = some o := fun a o e => by
    rw [upd_ne (ne_of_none e hy), upd_ne (ne_of_none e hdx)]; exact e
  have oldS : ∀ a, S1 a → upd (upd H1 dx (.own y)) y (.ins (cls c0) dx []) a = H1 a := fun a s => by
    obtain ⟨o, e⟩ := R1.dom a s
    rw [e]; exact old a o e
  have nS : ¬ S1 y := fun s => by obtain ⟨o, e⟩ := R1.dom y s; rw [hy] at e; cases e
  obtain ⟨⟨oa, ea⟩, ⟨ob, eb⟩⟩ := R1.dr.at
  have na : y ≠ W.da := fun z => by rw [z, ea] at hy; cases hy
  have nb : NB W y := NB.of_none ⟨_, eb⟩ R1.tb hy
  rw [List.append_nil]
  refine ⟨y, dx, vs, W, S1, ds, rfl, by rw [dl.len, onlyV_len hds, len], rfl, hcl, ?_, R1.tb.ext old, fun a s => by obtain ⟨o, e⟩ := R1.dom a s; exact ⟨o, old a o e⟩, fun w => R1.drP.1 (R1.sp _ w), R1.drP.2.sub R1.sp, dl.mono (fun _ h => h) oldS, upd_same, nS, na, nb, T.wp_mono q fun e q H' S' P' ex R' => ⟨rfl, ?_⟩⟩
  · obtain ⟨nd, ns, i, j, k, h1, h2, h3⟩ := R1.dr
    exact ⟨nd, ns, i, j, k, old _ _ h1, old _ _ h2, h3⟩
  · cases hs : e[0]? with
    | none => rw [hs] at q; exact q.elim
    | some sl =>
      cases sl with
      | none => rw [hs] at q; exact q.elim
      | some fd =>
        obtain ⟨fg, d⟩ := fd
        cases fg with
        | fz => rw [hs] at q; exact q.elim
        | lk => rw [hs] at q; exact q.elim
        | ow =>
          rw [hs] at q
          obtain ⟨u, hu, du, _, ow⟩ := R'.slot 0 .ow d hs
          cases hu
          obtain ⟨p', o', ep, n1, n2, _, n3, n4, n5⟩ := ow (by decide)
          cases ep
          have toP : ∀ a, Pall W H1 a → Pall W (upd (upd H1 dx (.own y)) y (.ins (cls c0) dx [])) a ∧ a ≠ y := fun a ⟨⟨o, e⟩, h1, h2⟩ => ⟨⟨⟨o, old a o e⟩, h1, h2⟩, ne_of_none e hy⟩
          have ex2 : Ext S1 (Pall W H1) H1 S' P' H' := ⟨ex.s, fun a h => ex.p a (toP a h), fun a h => (ex.h a (toP a h)).trans (by obtain ⟨⟨o, e⟩, _⟩ := h; rw [e]; exact old a o e), fun a h => (ex.n a h).imp id fun z w => z (toP a w)⟩
          obtain ⟨e5, R5, ok5⟩ := R1.call ex2 ⟨R'.sp, R'.dom, R'.dr, R'.drP, R'.tb⟩ (v := .ref y) (c := (true, d)) ⟨du, (fun z => by cases z), fun _ => ⟨y, o', rfl, n2 rfl, n3, n4, n5⟩⟩
          exact q _ H' S' _ (e1.trans e5) R5 ok5
end
end Sx
set_option Elab.async false
set_option linter.all false
set_option maxRecDepth 100000
set_option maxHeartbeats 4000000
set_option autoImplicit false
namespace Sx
open PySem L2 PyProof.Rows
section
variable {W : Wd} {S P S' P' : Addr → Prop} {H H' : Hp} {en : En} {σ : L2.St} {v : V} {d : D} {X : Cx} {k n c0 : Nat} {f C p g : Addr} {fd : FuncData} {ps : List Str} {fn : Fn} {cls : CT} {x m : Str} {q pos apos : Pos} {e o : Expr} {es : List Expr} {ro ra rb : Run} {rs : Runs}
theorem e_meth {pl : Sem Bool} (F : FnG X.prog X.w X.K X.mg X.base CX0 k f fd ps (spR X.K cls (n + 1) fn)) (c : Cls X.K (cls c0)) (hm : Meth X.K (cls c0) m f) (hcl : W.cls = cls) (hK : X.K = W.K) (hr : Room k X.A) (hg : NoG X.A) (hb : Binds X.K fd ps []) (ho : PE X o (TV W ro)) (ha : PA X (e :: es) (TVs W rs)) (hn : LenR rs n)
    (h1 : starEach (e :: es) X.env = (false, eval e X.env) :: starEach es X.env := by rfl) (h2 : (backTo pos (starEach es X.env)).any (·.1) = false := by rfl)
    (h3 : eval (.Call (.Attribute o m apos) (e :: es) [] pos) X.env = (do
      let y ← eval o X.env
      standAt apos.atName
      let (z, first) ← holding [y] (getMethod y m pl)
      callWith pos z first (backTo pos (starEach (e :: es) X.env)) (backToKw pos (keywordEach [] X.env))) := by rfl) : PE X (.Call (.Attribute o m apos) (e :: es) [] pos) (TV W (rMeth c0 m fn ro rs)) := by
  subst hcl
  exact pe_weak (pe_methG (pl := pl) ho c hm F hr hg hb .nil pass0 ha h1 h2 h3) fun _ _ _ h => by rw [hK]; exact tv_meth rfl hn h
theorem e_prop {y : Str} (F : FnG X.prog X.w X.K X.mg X.base CX0 k g fd ps (spR X.K cls 1 fn)) (c : Cls X.K (cls c0)) (hp : PropOf X.K (cls c0) y p g) (hcl : W.cls = cls) (hK : X.K = W.K) (hr : Room (k + 1) X.A) (hg : NoG X.A) (hb : Binds X.K fd ps []) (ho : PE X e (TV W ro))
    (hab : attributeBase e y X.env (eval e X.env) = eval e X.env := by rfl) : PE X (.Attribute e y pos) (TV W (rProp c0 fn ro)) := by
  subst hcl
  exact pe_weak (pe_propG ho c hp F hr hg hb .nil pass0 hab) fun _ _ _ h => by rw [hK]; exact tv_prop rfl h
theorem e_make {N : Nat} {run : RunK} (M : Mk X.K (cls c0) f) (F : FnG X.prog X.w X.K X.mg X.base CX0 k f fd ps (spI X.K cls n N c0 run)) (hcl : W.cls = cls) (hK : X.K = W.K) (hr : Room (k + 1) X.A) (hg : NoG X.A) (hm : X.mg x = some (.ref (cls c0))) (hb : Binds X.K fd ps []) (ha : PA X (e :: es) (TVs W rs)) (hn : LenR rs n)
    (gl : Gl X x := by rfl) (hdb : (x == ("__debug__" : Str)) = false := by decide) (h1 : starEach (e :: es) X.env = (false, eval e X.env) :: starEach es X.env := by rfl) (h2 : (backTo pos (starEach es X.env)).any (·.1) = false := by rfl) :
    PE X (.Call (.Name x q) (e :: es) [] pos) (TV W (rMake N c0 run rs)) :=
  pe_weak (pe_makeG M F hr hg gl hm hb .nil pass0 ha hdb h1 h2) fun _ _ _ h => by rw [hK]; exact tv_make hcl hn h
instance [h : ShRun ro] [t : ShRuns rs] : ShRun (rMeth c0 m fn ro rs) := ⟨fun en => all_seq (h.sh en) fun o => by
  split
  · split
    · exact all_seq (t.sh _) fun _ => all_of fun _ _ => T.all_bind (T.all_triv fun _ => LkSub.refl _)
    · trivial
  · trivial⟩
instance [h : ShRun ro] : ShRun (rProp c0 fn ro) := ⟨fun en => all_seq (h.sh en) fun o => by
  split
  · split
    · exact T.all_bind (T.all_triv fun _ => LkSub.refl _)
    · trivial
  · trivial⟩
instance {N : Nat} {run : RunK} [t : ShRuns rs] : ShRun (rMake N c0 run rs) := ⟨fun en => all_seq (t.sh en) fun _ => all_of fun _ _ => T.all_bind (T.all_triv fun _ => by
  split
  · exact LkSub.refl _
  · trivial)⟩
/-! a class by its name, isinstance of it -/
theorem e_cl {c0 : Nat} (hm : X.mg x = some (.ref (W.cls c0))) (gl : Gl X x := by rfl) (hd : (x == ("__debug__" : Str)) = false := by decide) : PE X (.Name x pos) (TV W (rC (.cl c0))) := pe_weak (pe_glob gl hm (v := .ref (W.cls c0)) rfl hd) fun σ H Q h => by
  obtain ⟨S, P, en, R, w⟩ := h
  exact w _ H S P .refl R ⟨trivial, .cl c0⟩
def fIsC (c0 : Nat) (ds : List D) : Option (Bool × D) := match ds with
  | [.obj c _, .cl c'] => if c = c0 ∧ c' = c0 then some0 (.bl true) else none
  | _ => none
theorem p_isC (c0 : Nat) : PureN W (fun xs H Q => ∃ a dx fs, xs = [.ref a, .ref (W.cls c0)] ∧ H a = some (.ins (W.cls c0) dx fs) ∧ Q (.bl true) H) (fIsC c0) := by
  intro S H vs ds c Q hd h hf r
  unfold fIsC at hf
  split at hf
  · split at hf
    · rename_i e
      obtain ⟨rfl, rfl⟩ := e
      obtain ⟨v, u, rfl, dv, du⟩ := h.two
      cases hf
      obtain ⟨a, dx, fv, rfl, ha, dp⟩ := dv.obj_at
      cases du
      exact ⟨a, dx, fv, rfl, ha, r.bl hd⟩
    · cases hf
  · cases hf
/-! len by an own __len__ -/
def rLenOb (c0 : Nat) (f : Fn) (ro : Run) : Run := fun en => (ro en).bind fun o => match o.1.fz with
  | .v d => if (clsN c0 d).isSome then (f [d]).bind fun c => match c.2 with
      | .int i => if 0 ≤ i ∧ i < 4611686018427387904 then .ret (.v (.int i), o.2) else .fail
      | _ => .fail
    else .fail
  | _ => .fail
theorem tv_lenO {Q : VK} (hcl : W.cls = cls) (h : TV W (rLenOb c0 fn ro) σ H Q) : TVs W (rCons ro rNil) σ H fun vs H1 => rLenO (W.cls c0) (spR W.K cls 1 fn) vs H1 Q := by
  obtain ⟨S, P, en, R, w⟩ := h
  refine ⟨S, P, en, R, (T.wp_bind _ _ _).mpr (T.wp_mono ((T.wp_bind _ _ _).mp w) fun o q => ?_)⟩
  intro vs H1 S1 P1 e1 R1 pe
  obtain ⟨v, rfl⟩ : ∃ v, vs = [v] := by
    match vs, pe with
    | [v], _ => exact ⟨v, rfl⟩
  have pe : Pend W S1 σ H1 v o.1.fz := pe.1
  generalize ho : o.1.fz = o' at pe q
  cases o' with
  | fr d => exact pe.elim
  | b i => exact q.elim
  | v d =>
    have q : (if (clsN c0 d).isSome then _ else _ : T (Op × En)).wp _ := q
    by_cases hc : (clsN c0 d).isSome = true
    · rw [if_pos hc] at q
      obtain ⟨fs, e2⟩ := Option.isSome_iff_exists.mp hc
      cases clsN_some e2
      obtain ⟨a, dx, fv, rfl, ha, dp⟩ := pe.2.obj_at
      refine ⟨a, dx, fv, rfl, ha, rfl, W, S1, [.obj c0 fs], rfl, hcl, R1.dr, R1.tb, R1.dom, fun w => R1.drP.1 (R1.sp _ w), R1.drP.2.sub R1.sp, .cons pe.1 pe.2 .nil, T.wp_mono ((T.wp_bind _ _ _).mp q) fun c q v H' S' P' e ro ok => ?_⟩
      obtain ⟨e5, R5, ok5⟩ := R1.call e ro ok
      obtain ⟨fl, d⟩ := c
      cases d with
      | int i =>
        have q : (if 0 ≤ i ∧ i < 4611686018427387904 then _ else _ : T (Op × En)).wp _ := q
        by_cases hi : 0 ≤ i ∧ i < 4611686018427387904
        · rw [if_pos hi] at q
          have dv := ok.1
          cases dv
          refine ⟨i.toNat, by rw [Int.toNat_of_nonneg hi.1], by omega, ?_⟩
          rw [Int.toNat_of_nonneg hi.1]
          exact q _ H' S' _ (e1.trans e5) R5 ⟨trivial, .int i⟩
        · rw [if_neg hi] at q
          exact q.elim
      | _ => exact q.elim
    · rw [if_neg hc] at q
      exact q.elim
theorem e_lenO (hs : PySem.W.findIn X.K (.ref (cls c0)) "__len__" = some (some (.ref f))) (hf : PySem.W.isFn X.K (.ref f) = true) (F : FnG X.prog X.w X.K X.mg X.base CX0 k f fd ps (spR X.K cls 1 fn)) (hcl : W.cls = cls) (hK : X.K = W.K) (hr : Room (k + 1) X.A) (hg : NoG X.A) (hb : Binds X.K fd ps []) (hm : X.mg "len" = none) (hv : bootBuiltins "len" = some (.builtin "len"))
    (ho : PE X e (TV W ro)) (hg2 : Gl X "len" := by rfl) (he : starEach [e] X.env = (false, eval e X.env) :: starEach [] X.env := by rfl) : PE X (.Call (.Name "len" q) [e] [] pos) (TV W (rLenOb c0 fn ro)) := by
  subst hcl
  exact pe_weak (pe_callB (cr_lenO hs hf F hr hg hb) hg2 hm hv (a_cons ho a_nil he) (by decide) (by decide) he rfl) fun _ _ _ h => by rw [hK]; exact tv_lenO rfl h
instance [h : ShRun ro] : ShRun (rLenOb c0 fn ro) := ⟨fun en => all_seq (h.sh en) fun o => by
  split
  · split
    · refine T.all_bind (T.all_triv fun c => ?_)
      split
      · split
        · exact LkSub.refl _
        · trivial
      · trivial
    · trivial
  · trivial⟩
/-! == by an own __eq__ -/
def rEqI (C : Addr) (sp : Sp) : R2 := fun x y H Q => ∃ a b dx dy fs gs, x = .ref a ∧ y = .ref b ∧ H a = some (.ins C dx fs) ∧ H b = some (.ins C dy gs) ∧ sp [.ref a, .ref b] H (fun v H' => (∃ b, v = .bl b) ∧ Q v H') E0
theorem op_eqI {sp : Sp} (hs : PySem.W.findIn X.K (.ref C) "__eq__" = some (some (.ref f))) (hf : PySem.W.isFn X.K (.ref f) = true) (F : FnG X.prog X.w X.K X.mg X.base CX0 k f fd ps sp) (hr : Room k X.A) (hg : NoG X.A) (hb : Binds X.K fd ps []) : OpR X (compareOp .Eq) (rEqI C sp) := by
  intro pins s σ H x y v u Q I rx ry h
  obtain ⟨a, b, dx, dy, fs, gs, rfl, rfl, ha, hb', w⟩ := h
  cases (show v = Value.ref a from rx)
  cases (show u = Value.ref b from ry)
  obtain ⟨mA, O, _⟩ := ins_get I.hok ha
  obtain ⟨mB, O2, _⟩ := ins_get I.hok hb'
  obtain ⟨od, J, _⟩ := O.look
  obtain ⟨od2, J2, _⟩ := O2.look
  obtain ⟨m, hF⟩ := I.fr
  show wpAny (model X.prog X.w) X.A (richCompare .Eq (.ref a) (.ref b)) (EP X pins σ Q) X.xe s
  refine PySem.W.cmp_K (op := .Eq) (tb := .ref C) hr.units0 hF I.ok.mod.kin J J2.type (by simp [PySem.W.notFirst]) hs hf (wpAny_call ?_)
  have hl := F.len _ _ _ _ w
  have bd := hb s [.ref a, .ref b] I.kIn (by simpa using hl)
  refine codeAny_mono (F.go (A := X.A) (vs := [V.ref a, V.ref b]) (us := [Value.ref a, Value.ref b]) hr hg I.env0 bd (.cons rfl (.cons rfl .nil)) w) fun fl s' z => ?_
  cases fl with
  | error er => exact z.elim
  | ok fl => cases fl with
    | ret u =>
      obtain ⟨v, H', I3, rv, ⟨t, ev⟩, w3⟩ := I.after z
      subst ev
      cases (show u = Value.bool t from rv)
      exact ⟨.bl t, H', I3, rfl, w3⟩
    | _ => exact False.elim z
/-- == of two such objects, or of plain data -/
def rEqU (c0 : Nat) (f : Fn) (ra rb : Run) : Run := fun en => (ra en).bind fun a => (rb a.2).bind fun b => match a.1.fz, b.1.fz with
  | .v (.obj c fs), .v (.obj c' gs) => if c = c0 ∧ c' = c0 then (f [.obj c fs, .obj c' gs]).bind fun r => (match r.2 with
      | .bl k => .ret (.v (.bl k), b.2)
      | _ => .fail) else .fail
  | _, _ => ret1 ((frc b.2 a.1.fz).bind fun x => (frc b.2 b.1.fz).bind fun y => fEq x y) b.2
end
end Sx
set_option Elab.async false
set_option linter.all false
set_option maxRecDepth 100000
set_option maxHeartbeats 4000000
set_option autoImplicit false
namespace Sx
open PySem L2 PyProof.Rows
/-! ### dicts whose keys are texts and whole numbers -/
def keyOf : D → Option Key
  | .str s => some (.inr s)
  | .int i => some (.inl i)
  | _ => none
def kD : Key → D
  | .inl i => .int i
  | .inr s => .str s
def valD (ds : List (Key × D)) (k : Key) : Option D := (ds.find? fun kv => decide (kv.1 = k)).map (·.2)
def putD (ds : List (Key × D)) (k : Key) (d : D) : List (Key × D) := if (ds.any fun kv => decide (kv.1 = k)) = true then ds.map (fun kv => if kv.1 = k then (kv.1, d) else kv) else ds ++ [(k, d)]
section
variable {W : Wd} {S P S' P' : Addr → Prop} {H H' : Hp} {en : En} {σ : L2.St} {v : V} {d : D} {X : Cx}
theorem keyOf_v {k : Key} (h : Dv W S H v d) (e : keyOf d = some k) : v = kV k := by
  unfold keyOf at e
  split at e
  · cases e; cases h; rfl
  · cases e; cases h; rfl
  · cases e
theorem kD_dv (k : Key) : Dz W S H (kV k) (kD k) := by
  cases k with
  | inl i => exact ⟨trivial, .int i⟩
  | inr s => exact ⟨trivial, .str s⟩
theorem DvP.keys : ∀ {vs : List (Key × V)} {ds : List (Key × D)}, DvP W S H vs ds → vs.map (·.1) = ds.map (·.1)
  | [], _, h => by cases h; rfl
  | (k, x) :: vs, _, h => by
    cases h with
    | cons _ _ r => rw [List.map_cons, List.map_cons, DvP.keys r]
theorem DvP.lenK : ∀ {vs : List (Key × V)} {ds : List (Key × D)}, DvP W S H vs ds → vs.length = ds.length
  | [], _, h => by cases h; rfl
  | (k, x) :: vs, _, h => by
    cases h with
    | cons _ _ r => rw [List.length_cons, List.length_cons, DvP.lenK r]
theorem DvP.val {k : Key} : ∀ {vs : List (Key × V)} {ds : List (Key × D)}, DvP W S H vs ds → (∀ d, valD ds k = some d → ∃ v, valV vs k = some v ∧ Dz W S H v d) ∧ (valD ds k = none → valV vs k = none)
  | [], _, h => by
    cases h
    exact ⟨fun d e => (by cases e), fun _ => rfl⟩
  | (j, x) :: vs, _, h => by
    cases h with
    | @cons _ _ _ _ dd ds t dv r =>
      obtain ⟨h1, h2⟩ := DvP.val (k := k) r
      by_cases hj : j = k
      · rw [valV_pos (p := (j, x)) hj]
        have : valD ((j, dd) :: ds) k = some dd := by simp [valD, List.find?_cons, hj]
        rw [this]
        exact ⟨fun d e => (by cases e; exact ⟨x, rfl, t, dv⟩), fun e => (by cases e)⟩
      · rw [valV_neg (p := (j, x)) hj]
        have : valD ((j, dd) :: ds) k = valD ds k := by simp [valD, List.find?_cons, hj]
        rw [this]
        exact ⟨h1, h2⟩
theorem DvP.any {k : Key} {vs : List (Key × V)} {ds : List (Key × D)} (h : DvP W S H vs ds) : (vs.any fun kv => decide (kv.1 = k)) = ds.any fun kv => decide (kv.1 = k) := by
  have e1 : (vs.any fun kv => decide (kv.1 = k)) = (vs.map (·.1)).any fun j => decide (j = k) := by rw [List.any_map]; rfl
  have e2 : (ds.any fun kv => decide (kv.1 = k)) = (ds.map (·.1)).any fun j => decide (j = k) := by rw [List.any_map]; rfl
  rw [e1, e2, h.keys]
theorem DvP.mapK {k : Key} (hz : Dz W S H v d) : ∀ {vs : List (Key × V)} {ds : List (Key × D)}, DvP W S H vs ds → DvP W S H (vs.map fun kv => if kv.1 = k then (kv.1, v) else kv) (ds.map fun kv => if kv.1 = k then (kv.1, d) else kv)
  | [], _, h => by cases h; exact .nil
  | (j, x) :: vs, _, h => by
    cases h with
    | cons t dv r =>
      rw [List.map_cons, List.map_cons]
      by_cases hj : j = k
      · simp only [hj, if_true]
        exact .cons hz.1 hz.2 (DvP.mapK hz r)
      · simp only [hj, if_false]
        exact .cons t dv (DvP.mapK hz r)
theorem DvP.app {κ : Type} : ∀ {vs us : List (κ × V)} {ds es : List (κ × D)}, DvP W S H vs ds → DvP W S H us es → DvP W S H (vs ++ us) (ds ++ es)
  | _, _, _, _, .nil, g => g
  | _, _, _, _, .cons t dv r, g => .cons t dv (DvP.app r g)
theorem DvP.putK {k : Key} {vs : List (Key × V)} {ds : List (Key × D)} (hz : Dz W S H v d) (h : DvP W S H vs ds) : DvP W S H (putK vs k v) (putD ds k d) := by
  unfold L2.putK putD
  rw [h.any (k := k)]
  split
  · exact h.mapK hz
  · exact h.app (.cons hz.1 hz.2 .nil)
theorem Dv.dK_at {ds : List (Key × D)} (h : Dv W S H v (.dK ds)) : ∃ a vs, v = .ref a ∧ Rd H a (.dK vs) ∧ DvP W S H vs ds := by
  cases h with
  | dK ha dp => exact ⟨_, _, rfl, ha, dp⟩
/-! in, not in -/
def rInD (f : Bool → Bool) : R2 := fun y x H Q => ∃ a o, x = .ref a ∧ DGet H a y o ∧ Q (.bl (f o.isSome)) H
theorem op_inD (hu : X.A.units + 1 < cLine) : OpR X (compareOp .In) (rInD id) := by
  intro pins s σ H y x u v Q I ry rx h
  obtain ⟨a, o, rfl, g, q⟩ := h
  cases (show v = Value.ref a from rx)
  exact d_in hu I g ry fun s' I' => ⟨.bl o.isSome, H, I', rfl, q⟩
theorem op_ninD (hu : X.A.units + 1 < cLine) : OpR X (compareOp .NotIn) (rInD not) := by
  intro pins s σ H y x u v Q I ry rx h
  obtain ⟨a, o, rfl, g, q⟩ := h
  cases (show v = Value.ref a from rx)
  exact d_notIn hu I g ry fun s' I' => ⟨.bl (!o.isSome), H, I', rfl, q⟩
def fInDG (f : Bool → Bool) (x y : D) : Option (Bool × D) := match y with
  | .dK ds => (keyOf x).map fun k => (false, .bl (f (valD ds k).isSome))
  | _ => none
theorem p_inD (f : Bool → Bool) : Pure2 W (rInD f) (fInDG f) := by
  intro S H x y d e c Q hd hx hy h r
  unfold fInDG at h
  split at h
  · rename_i ds
    obtain ⟨k, hk, rfl⟩ := Option.map_eq_some_iff.mp h
    obtain ⟨a, vs, rfl, ha, dp⟩ := hy.dK_at
    obtain ⟨h1, h2⟩ := dp.val (k := k)
    refine ⟨a, valV vs k, rfl, .inl ⟨vs, k, ha, keyOf_v hx hk, rfl⟩, ?_⟩
    have : (valV vs k).isSome = (valD ds k).isSome := by
      cases e : valD ds k with
      | none => rw [h2 e]; rfl
      | some d => obtain ⟨v, hv, _⟩ := h1 d e; rw [hv]; rfl
    rw [this]
    exact r.bl hd
  · cases h
/-! d[k] -/
def rIxD : R2 := fun x y H Q => ∃ a v, x = .ref a ∧ DGet H a y (some v) ∧ Q v H
theorem ix_dict (hu : X.A.units + 1 < cLine) : IxR X rIxD := by
  intro value slice pins s σ H x y v u Q I rx ry h hs
  obtain ⟨a, z, rfl, g, q⟩ := h
  cases (show v = Value.ref a from rx)
  have hT := dict_typeIs I g
  unfold subscriptTail
  refine wpAny_bind ?_
  rw [getitemInPython_of_ne hT.not_modules]
  refine wpAny_bind (wpAny_specialOf hT PySem.F.slot_dict_getitem.lookup ?_)
  have fin : wpAny (model X.prog X.w) X.A (subscripted slice false (.ref a) u) (fun r s₃ => wpAny (model X.prog X.w) X.A (letTemporaryGo value (.ref a) r >>= fun _ => pure r) (EP X pins σ Q) X.xe s₃) X.xe s := by
    rw [hs]
    exact wpAny_operating (d_getItem hu I g ry fun w' s3 I3 rw' => wpAny_bind (wpAny_letTemporaryGo (wpAny_pure ⟨z, H, I3, rw', q⟩)))
  first
    | exact wpAny_pure (wpAny_bind fin)
    | exact wpAny_bind (wpAny_pure (wpAny_bind fin))
    | exact wpAny_bind fin
def fIxD (x y : D) : Option (Bool × D) := match x with
  | .dK ds => (keyOf y).bind fun k => (valD ds k).map fun d => (false, d)
  | _ => none
theorem p_ixD : Pure2 W rIxD fIxD := by
  intro S H x y d e c Q hd hx hy h r
  unfold fIxD at h
  split at h
  · obtain ⟨k, hk, h⟩ := Option.bind_eq_some_iff.mp h
    obtain ⟨z, hz, rfl⟩ := Option.map_eq_some_iff.mp h
    obtain ⟨a, vs, rfl, ha, dp⟩ := hx.dK_at
    obtain ⟨v, hv, dz⟩ := (dp.val (k := k)).1 z hz
    exact ⟨a, v, rfl, .inl ⟨vs, k, ha, keyOf_v hy hk, hv.symm⟩, r.old hd dz⟩
  · cases h
/-! len, list, tuple, sorted of a dict -/
def rLenD : List V → Hp → VK → Prop := fun xs H Q => ∃ a kvs, xs = [V.ref a] ∧ Rd H a (.dK kvs) ∧ Q (.int kvs.length) H
theorem cr_lenD : CallR X (.builtin "len") rLenD := by
  intro pins s σ H xs us Q I r h
  obtain ⟨a, kvs, rfl, ha, q⟩ := h
  obtain ⟨u, rfl, ru⟩ := vals1 r
  cases (show u = Value.ref a from ru)
  exact d_len I ha fun t s' I' => ⟨.int kvs.length, H, I', ⟨t, rfl⟩, q⟩
def fLenD (ds : List D) : Option (Bool × D) := match ds with
  | [.dK kvs] => some0 (.int kvs.length)
  | _ => none
theorem p_lenD : PureN W rLenD fLenD := by
  intro S H vs ds c Q hd h hf r
  unfold fLenD at hf
  split at hf
  · cases hf
    obtain ⟨v, rfl, dv⟩ := h.one
    obtain ⟨a, ws, rfl, ha, dp⟩ := dv.dK_at
    refine ⟨a, ws, rfl, ha, ?_⟩
    rw [dp.lenK]
    exact r.int hd
  · cases hf
theorem keysL : ∀ {vs : List (Key × V)} {ds : List (Key × D)}, DvP W S H vs ds → DvL W S H (vs.map fun kv => kV kv.1) (ds.map fun kv => kD kv.1)
  | [], _, h => by cases h; exact .nil
  | (k, x) :: vs, _, h => by
    cases h with
    | cons _ _ r =>
      have z : Dz W S H (kV k) (kD k) := kD_dv k
      exact .cons z.1 z.2 (keysL r)
def fListD (ds : List D) : Option (Bool × D) := match ds with
  | [.dK kvs] => some1 (.lst (kvs.map fun kv => kD kv.1))
  | _ => none
theorem p_listD : PureN W (fun xs H Q => ∃ (a : Addr) (kvs : List (Key × V)), xs = [.ref a] ∧ Rd H a (.dK kvs) ∧ ∀ p, H p = none → Q (.ref p) (upd H p (.lst (kvs.map fun kv => kV kv.1)))) fListD := by
  intro S H vs ds c Q hd h hf r
  unfold fListD at hf
  split at hf
  · cases hf
    obtain ⟨v, rfl, dv⟩ := h.one
    obtain ⟨a, ws, rfl, ha, dp⟩ := dv.dK_at
    exact ⟨a, ws, rfl, ha, PRes.lst hd (keysL dp) r⟩
  · cases hf
end
/-! tuple(d) -/
section
variable {prog : Program} {w : World} {A : Around} {E : Value → Shared → Prop} {s : Shared} {r d : Addr} {n : Nat} {P : Nat → Value → Prop} {OK : Heap → Prop}
theorem code_tupleD {Q₁ : Value → Shared → Prop} (K : PySem.W.KdlSrc prog w "dict" r d n P OK) (hh : A.handled = none) (hok : OK s.heap) (hn : n ≤ sizeLine)
    (h : ∀ (h' : Heap) (tk : Nat) (acc : Array Value), (∀ b o, s.heap.get? b = some o → h'.get? b = some o) → ItemsOf P acc n →
      Q₁ (.ref h'.objs.size) { s with heap := h'.push { cls := .type "tuple", data := .seq acc }, toks := tk }) :
    codeAny (model prog w) A (.call (.builtin "tuple.__new__") ⟨[.type "tuple", .ref r], []⟩) (wants Q₁ E) s := by
  refine codeAny_of_tree ?_
  show wpAny _ A.in1 (do checkBuiltinCall "tuple.__new__" ⟨[.type "tuple", .ref r], []⟩; again (.builtin "tuple.__new__" ⟨[.type "tuple", .ref r], []⟩)) _ _ s
  refine wpAny_bind (wpAny_of_eq (F.newCall_tuple_1 _) (wpAny_pure ⟨plainId_quiet F.plain_tuple_new _, codeAny_builtin F.entry_tuple_new ?_⟩))
  rw [Around.under_plainId F.plain_tuple_new _]
  have a1 := sub_tuple_self
  have a2 := init_tuple_lookup
  have a3 := madeHere_tuple
  have a4 : s.TypeIs (.ref r) "dict" := K.type _ hok
  have a5 : A.in1.handled = none := hh
  wp_walk using wpAny_typeOf a4, PySem.W.kdu_collect (A := A.in1) K a5 hok hn
  intro h' tk acc hk hacc
  show wpAny _ _ (Builtin.Tuple.tupleExact acc.toList.toArray >>= fun v => ret v) _ _ _
  unfold Builtin.Tuple.tupleExact
  refine wpAny_bind (wpAny_newObj_type ?_ (by show acc.toList.toArray.size ≤ sizeLine; simp only [Array.toArray_toList]; rw [hacc.1]; exact hn))
  refine wpAny_pure ?_
  have e : acc.toList.toArray = acc := by simp
  rw [e]
  exact h h' tk acc hk hacc
theorem call_tupleD {Q : Value → Shared → Prop} (K : PySem.W.KdlSrc prog w "dict" r d n P OK) (hh : A.handled = none) (hok : OK s.heap) (hn : n ≤ sizeLine)
    (h : ∀ (h' : Heap) (tk : Nat) (acc : Array Value), (∀ b o, s.heap.get? b = some o → h'.get? b = some o) → ItemsOf P acc n →
      Q (.ref h'.objs.size) { s with heap := h'.push { cls := .type "tuple", data := .seq acc }, toks := tk }) :
    wpAny (model prog w) A (PySem.call (.type "tuple") [.ref r]) Q E s := by
  refine callType_codes (Q₁ := fun obj s₁ => s₁.TypeIs obj "tuple" ∧ Q obj s₁) F.called_tuple (F.typeCall_tuple_1 _) F.entry_object_init
    (code_tupleD (A := A.in1) K hh hok hn fun h' tk acc hk hacc => ⟨⟨_, Heap.get?_push_size _ rfl, rfl⟩, h h' tk acc hk hacc⟩) fun obj s₁ z => ?_
  exact ⟨z.1, F.args_object_init_2 obj _, object_init_meets F.called_tuple.init.lookup F.called_tuple.made (by decide) prog w A.in1 _ s₁ ⟨z.1, rfl, z.2⟩⟩
end
section
variable {W : Wd} {S : Addr → Prop} {H : Hp} {X : Cx}
def rTupD : List V → Hp → VK → Prop := fun xs H Q => ∃ (a : Addr) (kvs : List (Key × V)), xs = [.ref a] ∧ Rd H a (.dK kvs) ∧ ∀ p, H p = none → Q (.ref p) (upd H p (.tup (kvs.map fun kv => kV kv.1)))
theorem cr_tupleD (hc : X.calm = true) : CallR X (.type "tuple") rTupD := by
  intro pins s σ H xs us Q I r q
  obtain ⟨a, kvs, rfl, hd, q⟩ := q
  obtain ⟨u, rfl, rx⟩ := vals1 r
  cases (show u = Value.ref a from rx)
  obtain ⟨z, lo, vs, rel, dd⟩ := dk_rd I.hok hd
  obtain ⟨ep, hat⟩ := dd.dictAt
  have ek : (kvs.map fun kv => kV kv.1) = vs.map fun p => kV p.1 := by
    have e := congrArg (List.map kV) rel.keys
    rw [List.map_map, List.map_map] at e
    exact e
  refine call_tupleD (PySem.W.kdl_dict (knd := mixKind X.prog X.w) (kvs := vs) (ep := ep) lo) (I.ok.hd hc) hat (by rw [← rel.length]; exact z) fun h' tk acc hk hacc => ?_
  have hv : Vals (vs.map fun p => kV p.1) acc.toList := keys_at (by rw [Array.length_toList]; exact hacc.1) fun j v e => hacc.2 j v (by rw [← Array.getElem?_toList]; exact e)
  have I1 : Inv X pins σ H { s with heap := h', toks := tk } := I.kept hk
  refine ⟨.ref h'.objs.size, upd H h'.objs.size (.tup (kvs.map fun kv => kV kv.1)), I1.laid (t' := tk) (fun b o e => Heap.get?_push_of_some _ e) (Nat.le_refl _)
    (show ObjOk X.prog X.w _ _ _ (.tup (kvs.map fun kv => kV kv.1)) from ⟨by rw [List.length_map]; exact z, acc.toList, by rw [ek]; exact hv, ?_⟩), rfl, q _ (I1.hok.fresh (Nat.le_refl _))⟩
  have := IsTup.new h' acc
  simpa using this
def fTupleD (ds : List D) : Option (Bool × D) := match ds with
  | [.dK kvs] => some0 (.tup (kvs.map fun kv => kD kv.1))
  | _ => none
theorem p_tupleD : PureN W rTupD fTupleD := by
  intro S H vs ds c Q hd h hf r
  unfold fTupleD at hf
  split at hf
  · cases hf
    obtain ⟨v, rfl, dv⟩ := h.one
    obtain ⟨a, ws, rfl, ha, dp⟩ := dv.dK_at
    exact ⟨a, ws, rfl, ha, PRes.tup hd (keysL dp) r⟩
  · cases hf
end
end Sx
set_option Elab.async false
set_option linter.all false
set_option maxRecDepth 100000
set_option maxHeartbeats 4000000
set_option autoImplicit false
namespace Sx
open PySem L2
/-! texts in order -/
def Sl (xs : List Str) : List D := xs.map D.str
def Lt (a b : Str) : Prop := a.cps.toList < b.cps.toList
/-! order -/
theorem Lt.irr (a : Str) : ¬ Lt a a := List.lt_irrefl _
theorem Lt.trans {a b c : Str} (h : Lt a b) (g : Lt b c) : Lt a c := List.lt_trans h g
theorem Lt.tri {a b : Str} (h : ¬ Lt a b) (g : ¬ Lt b a) : a = b := PySem.W.str_of_cps (List.le_antisymm (List.not_lt.mp g) (List.not_lt.mp h))
instance (a b : Str) : Decidable (Lt a b) := inferInstanceAs (Decidable (_ < _))
def leS (a b : Str) : Bool := !decide (Lt b a)
def srt (xs : List Str) : List Str := xs.mergeSort leS
theorem leS_trans (a b c : Str) (h : leS a b = true) (g : leS b c = true) : leS a c = true := by
  unfold leS at *
  simp only [Bool.not_eq_true', decide_eq_false_iff_not] at *
  intro z
  by_cases e : Lt b a
  · exact h e
  · by_cases e2 : Lt a b
    · exact g (Lt.trans z e2)
    · have := Lt.tri e e2
      subst this
      exact g z
theorem leS_total (a b : Str) : (leS a b || leS b a) = true := by
  unfold leS
  rw [Bool.or_eq_true, Bool.not_eq_true', Bool.not_eq_true', decide_eq_false_iff_not, decide_eq_false_iff_not]
  by_cases e : Lt b a
  · exact .inr fun z => Lt.irr _ (Lt.trans z e)
  · exact .inl e
theorem srt_mem {x : Str} {xs : List Str} : x ∈ srt xs ↔ x ∈ xs := List.mem_mergeSort
theorem srt_perm (xs : List Str) : (srt xs).Perm xs := List.mergeSort_perm xs leS
theorem srt_lt {xs : List Str} (h : xs.Nodup) : (srt xs).Pairwise Lt := by
  have so := List.pairwise_mergeSort (le := leS) leS_trans leS_total xs
  have nd : (srt xs).Nodup := (srt_perm xs).nodup_iff.mpr h
  refine (so.and nd).imp fun {a b} ⟨h1, h2⟩ => ?_
  unfold leS at h1
  simp only [Bool.not_eq_true', decide_eq_false_iff_not] at h1
  exact Classical.byContradiction fun z => h2 (Lt.tri z h1)
theorem lt_unique : ∀ {l m : List Str}, l.Pairwise Lt → m.Pairwise Lt → (∀ x, x ∈ l ↔ x ∈ m) → l = m
  | [], [], _, _, _ => rfl
  | [], y :: m, _, _, h => by have := (h y).mpr List.mem_cons_self; simp at this
  | x :: l, [], _, _, h => by have := (h x).mp List.mem_cons_self; simp at this
  | x :: l, y :: m, hl, hm, h => by
    obtain ⟨l1, l2⟩ := List.pairwise_cons.mp hl
    obtain ⟨m1, m2⟩ := List.pairwise_cons.mp hm
    have e : x = y := by
      rcases List.mem_cons.mp ((h x).mp List.mem_cons_self) with e | hx
      · exact e
      · rcases List.mem_cons.mp ((h y).mpr List.mem_cons_self) with e | hy
        · exact e.symm
        · exact absurd (Lt.trans (m1 x hx) (l1 y hy)) (Lt.irr _)
    subst e
    rw [lt_unique l2 m2 fun z => ⟨fun hz => ?_, fun hz => ?_⟩]
    · rcases List.mem_cons.mp ((h z).mp (List.mem_cons_of_mem _ hz)) with e | hz'
      · exact absurd (e ▸ l1 z hz) (Lt.irr _)
      · exact hz'
    · rcases List.mem_cons.mp ((h z).mpr (List.mem_cons_of_mem _ hz)) with e | hz'
      · exact absurd (e ▸ m1 z hz) (Lt.irr _)
      · exact hz'
theorem srt_of_lt {xs : List Str} (h : xs.Pairwise Lt) : srt xs = xs := by
  have nd : xs.Nodup := h.imp fun {a b} l => by rintro rfl; exact Lt.irr _ l
  exact lt_unique (srt_lt nd) h fun x => srt_mem
theorem leD_str (a b : Str) : leD (.str a) (.str b) = leS a b := by
  show (!PySem.W.dataLt (.str b) (.str a)) = _
  rw [PySem.W.dataLt_str]
  rfl
theorem pyL_Sl (xs : List Str) : pyL (Sl xs) = some (xs.map PyData.str) := by
  induction xs with
  | nil => rfl
  | cons x xs ih => show (pyL (Sl xs)).bind _ = _; rw [ih]; rfl
theorem sorted_Sl {xs : List Str} (h : xs.length ≤ 4096) : fSorted [.lst (Sl xs)] = some1 (.lst (Sl (srt xs))) := by
  have e : (Sl xs).mergeSort leD = Sl (srt xs) := by
    unfold srt Sl
    exact (List.map_mergeSort fun a _ b _ => (leD_str a b).symm).symm
  have so : sortOk (xs.map PyData.str) = true := by
    unfold sortOk pairsAll
    simp only [Bool.and_eq_true, Bool.or_eq_true, List.all_eq_true, List.mem_map]
    refine ⟨⟨?_, ?_⟩, .inr ?_⟩
    · rintro p ⟨x, _, rfl⟩; rfl
    · rintro p ⟨x, _, rfl⟩ q ⟨y, _, rfl⟩; rfl
    · rintro p ⟨x, _, rfl⟩; rfl
  unfold fSorted
  have len : (Sl xs).length ≤ 4096 := by unfold Sl; rw [List.length_map]; exact h
  simp only [pyL_Sl, Option.bind_some, so, len, decide_true, Bool.and_self, if_true, e]
end Sx
set_option Elab.async false
set_option linter.all false
set_option maxRecDepth 100000
set_option maxHeartbeats 4000000
set_option autoImplicit false
namespace Sx
open PySem L2 PyProof.Rows
section
variable {W : Wd} {S P S' P' : Addr → Prop} {H H' : Hp} {en : En} {σ : L2.St} {v : V} {d : D} {X : Cx}
/-! sorted(d) of a dict whose keys are texts -/
theorem rising_le : ∀ {ys : List Str} {p : Str}, PyProof.Rows.risingS p ys = true → (p :: ys).Pairwise fun a b => leS a b = true
  | [], p, _ => List.pairwise_singleton _ _
  | x :: r, p, h => by
    unfold PyProof.Rows.risingS at h
    rw [Bool.and_eq_true] at h
    have ih := rising_le h.2
    have px : leS p x = true := by
      have z := h.1
      have q : leS p x = !Spec.ltCps x.cps.toList p.cps.toList := PyProof.Rows.le_meets p x
      rw [q]
      exact z
    refine List.pairwise_cons.mpr ⟨fun a ha => ?_, ih⟩
    rcases List.mem_cons.mp ha with rfl | ha
    · exact px
    · exact leS_trans _ _ _ px ((List.pairwise_cons.mp ih).1 a ha)
theorem sorted_one {ys ks : List Str} (hp : ys.Perm ks) (hs : PyProof.Rows.sortedS ys = true) : ys = srt ks := by
  have p1 : ys.Pairwise fun a b => leS a b = true := by
    cases ys with
    | nil => exact .nil
    | cons y ys => exact rising_le hs
  have p2 : (srt ks).Pairwise fun a b => leS a b = true := List.pairwise_mergeSort (le := leS) leS_trans leS_total ks
  exact List.Perm.eq_of_pairwise (fun a b _ _ h1 h2 => by
    unfold leS at h1 h2
    simp only [Bool.not_eq_true', decide_eq_false_iff_not] at h1 h2
    exact (Lt.tri h2 h1)) p1 p2 (hp.trans (srt_perm ks).symm)
def strKs : List (Key × D) → Option (List Str)
  | [] => some []
  | (.inr x, _) :: r => (strKs r).bind fun ks => some (x :: ks)
  | _ => none
theorem strKs_keys : ∀ {ds : List (Key × D)} {ks : List Str}, strKs ds = some ks → ds.map (·.1) = ks.map Sum.inr
  | [], ks, h => by cases h; rfl
  | (.inr x, _) :: r, ks, h => by
    obtain ⟨js, h1, h2⟩ := Option.bind_eq_some_iff.mp h
    cases h2
    rw [List.map_cons, List.map_cons, strKs_keys h1]
  | (.inl i, _) :: r, ks, h => by cases h
def rSortD : List V → Hp → VK → Prop := fun xs H Q => ∃ (a : Addr) (kvs : List (Key × V)) (ks : List Str), xs = [.ref a] ∧ Rd H a (.dK kvs) ∧ kvs.map (·.1) = ks.map Sum.inr ∧ ks.length < 64 ∧
    ∀ ys p, ys.Perm ks → PyProof.Rows.sortedS ys = true → H p = none → Q (.ref p) (upd H p (.lst (ys.map V.str)))
def fSortedD (ds : List D) : Option (Bool × D) := match ds with
  | [.dK kvs] => (strKs kvs).bind fun ks => if ks.length < 64 then some1 (.lst (Sl (srt ks))) else none
  | _ => none
theorem strL_dv : ∀ xs : List Str, DvL W S H (xs.map V.str) (Sl xs)
  | [] => .nil
  | x :: xs => .cons trivial (.str x) (strL_dv xs)
theorem p_sortD : PureN W rSortD fSortedD := by
  intro S H vs ds c Q hd h hf r
  unfold fSortedD at hf
  split at hf
  · obtain ⟨ks, hk, hf⟩ := Option.bind_eq_some_iff.mp hf
    split at hf
    · rename_i hl
      cases hf
      obtain ⟨v, rfl, dv⟩ := h.one
      obtain ⟨a, ws, rfl, ha, dp⟩ := dv.dK_at
      refine ⟨a, ws, ks, rfl, ha, dp.keys.trans (strKs_keys hk), hl, fun ys p hp hs hn => ?_⟩
      rw [sorted_one hp hs]
      exact PRes.lst hd (strL_dv _) r p hn
    · cases hf
  · cases hf
/-! ### displays of dicts -/
def prRuns : List (Run × Run) → Runs
  | [] => rNil
  | (k, v) :: r => rCons k (rCons v (prRuns r))
def unfl {α : Type} : List α → List (α × α)
  | a :: b :: r => (a, b) :: unfl r
  | _ => []
theorem tv_pairs : ∀ (l : List (Run × Run)) {σ : L2.St} {H : Hp} {Q : List (V × V) → Hp → Prop}, TVs W (prRuns l) σ H (fun vs H' => Q (unfl vs) H') → tPairs (l.map fun p => (TV W p.1, TV W p.2)) σ H Q
  | [], σ, H, Q, h => tvs_nil (Q := fun vs H' => Q (unfl vs) H') h
  | (k, v) :: r, σ, H, Q, h => by
    have h1 := tvs_cons h
    show TV W k σ H fun x H1 => TV W v σ H1 fun y H2 => tPairs _ σ H2 fun ps H3 => Q ((x, y) :: ps) H3
    obtain ⟨S, P, en, R, w⟩ := h1
    refine ⟨S, P, en, R, T.wp_mono w fun a q x H1 S1 P1 e1 R1 ok => ?_⟩
    have q := tvs_cons (Q := fun vs H3 => Q (unfl (x :: vs)) H3) (q x H1 S1 P1 e1 R1 ok)
    obtain ⟨S, P, en, R, w⟩ := q
    refine ⟨S, P, en, R, T.wp_mono w fun b q y H2 S2 P2 e2 R2 ok2 => ?_⟩
    exact tv_pairs r (Q := fun ps H3 => Q ((x, y) :: ps) H3) (q y H2 S2 P2 e2 R2 ok2)
def keysOf : List D → Option (List (Key × D))
  | [] => some []
  | a :: b :: r => (keyOf a).bind fun k => (keysOf r).bind fun ks => some ((k, b) :: ks)
  | _ => none
def mergeD (kvs more : List (Key × D)) : List (Key × D) := more.foldl (fun acc kv => putD acc kv.1 kv.2) kvs
def mkDK (ds : List D) : Option (Bool × D) := (keysOf ds).bind fun ks => if ks.length ≤ 15 then some (true, .dK (mergeD [] ks)) else none
theorem keysOf_dv : ∀ {ds : List D} {vs : List V} {ks : List (Key × D)}, DvL W S H vs ds → keysOf ds = some ks → ∃ kvs : List (Key × V), unfl vs = kvs.map (fun kv => (kV kv.1, kv.2)) ∧ DvP W S H kvs ks ∧ kvs.length = ks.length
  | [], vs, ks, h, e => by
    cases e
    cases h
    exact ⟨[], rfl, .nil, rfl⟩
  | [a], vs, ks, h, e => by cases e
  | a :: b :: r, vs, ks, h, e => by
    obtain ⟨k, hk, e⟩ := Option.bind_eq_some_iff.mp e
    obtain ⟨js, hj, e⟩ := Option.bind_eq_some_iff.mp e
    cases e
    cases h with
    | cons t1 d1 h => cases h with
      | cons t2 d2 h =>
        obtain ⟨kvs, e1, e2, e3⟩ := keysOf_dv h hj
        have := keyOf_v d1 hk
        subst this
        exact ⟨(k, _) :: kvs, by show _ :: unfl _ = _; rw [e1]; rfl, .cons t2 d2 e2, by simp [e3]⟩
theorem merge_dv : ∀ {kvs acc : List (Key × V)} {ks acd : List (Key × D)}, DvP W S H acc acd → DvP W S H kvs ks → DvP W S H (mergeK acc kvs) (mergeD acd ks)
  | [], acc, _, acd, h, g => by cases g; exact h
  | (k, v) :: kvs, acc, _, acd, h, g => by
    cases g with
    | @cons _ _ _ _ d ds t dv r =>
      show DvP W S H (mergeK (putK acc k v) kvs) (mergeD (putD acd k d) ds)
      exact merge_dv (DvP.putK ⟨t, dv⟩ h) r
/-- a new object, guarded while other things are made -/
theorem Rel.born {p : Addr} {u : HO} (R : Rel W S P en σ H) (hp : H p = none) : Rel W S P en σ (upd H p u) ∧ Free W P en σ p ∧ Ext S P H S P (upd H p u) ∧ ¬ S p ∧ ¬ P p := by
  have nP : ¬ P p := fun h => by obtain ⟨o, e⟩ := R.pd p h; rw [hp] at e; cases e
  have dd : p ≠ W.da ∧ NB W p := by
    obtain ⟨ne, ns, i, j, k, h1, h2, h3⟩ := R.dr
    exact ⟨fun z => (by rw [← z, hp] at h1; cases h1), NB.of_none ⟨_, h2⟩ R.tb hp⟩
  obtain ⟨e0, R0⟩ := R.same (upd_keeps (u := u) hp) (fun _ h => h) (fun _ h => .inl h) (fun a h => by obtain ⟨o, e⟩ := R.dom a h; exact ⟨o, upd_keeps hp a o e⟩)
  have eq : (fun a => P a ∨ S a) = P := by funext a; exact propext ⟨fun h => h.elim id (R.sp a), .inl⟩
  rw [eq] at R0 e0
  refine ⟨R0, ⟨nP, dd.1, dd.2, fun i f d e nf hv => ?_⟩, e0, fun h => nP (R.sp p h), nP⟩
  obtain ⟨v, hv', _, _, ow⟩ := R.slot i f d e
  obtain ⟨q, o, ev, _, _, _, _, _, h3⟩ := ow nf
  rw [hv'] at hv
  cases hv
  cases ev
  rw [hp] at h3; cases h3
def rDsp (l : List (Run × Run)) : Run := rDisp mkDK (prRuns l)
theorem tv_disp {Q : VK} (l : List (Run × Run)) (hs : ∀ en, (prRuns l en).all fun a => LkSub a.2 en) (h : TV W (rDsp l) σ H Q) : tDisp (l.map fun p => (TV W p.1, TV W p.2)) σ H Q := by
  intro p hp
  obtain ⟨S, P, en, R, w⟩ := h
  obtain ⟨R0, fD, e0, nS, nP⟩ := R.born (u := .dK []) hp
  have Rg := R0.guard fD upd_same
  have w := T.wp_all ((T.wp_bind _ _ _).mp w) (hs en)
  refine tv_pairs l ⟨S, _, en, Rg, T.wp_mono w fun a ⟨q, sb⟩ vs H2 S2 P2 e2 R2 pe => ?_⟩
  have hD : H2 p = some (.dK []) := (e2.h p (.inr rfl)).trans upd_same
  have pD : P2 p := e2.p p (.inr rfl)
  have nS2 : ¬ S2 p := fun h => (e2.n p h).elim nS fun z => z (.inr rfl)
  obtain ⟨c, ec, q⟩ := wp_ret1 q
  obtain ⟨ds, hds, ec⟩ := Option.bind_eq_some_iff.mp ec
  obtain ⟨ks, hk, ec⟩ := Option.bind_eq_some_iff.mp ec
  split at ec
  · rename_i hl
    cases ec
    obtain ⟨kvs, e3, dp, len⟩ := keysOf_dv (pe.only hds) hk
    have lk : ∀ (j : Nat) (d' : D), a.2[j]? = some (some (.lk, d')) → σ[j]? ≠ some (some (.ref p)) := fun j d' e => by
      obtain ⟨d2, e'⟩ := sb j d' e
      exact fD.2.2.2 j .lk d2 e' (by decide)
    obtain ⟨R6, f6⟩ := R2.turn (u := .dK (mergeK [] kvs)) pD nS2 lk (Tabs.upd R2.tb hD (nx_dK _))
    have keep : ∀ b, S2 b → upd H2 p (.dK (mergeK [] kvs)) b = H2 b := fun b h => upd_ne fun e => nS2 (e ▸ h)
    refine ⟨hD, kvs, e3, by rw [len]; exact hl, q (.ref p) _ S2 _ ⟨fun b h => e2.s b h, fun b h => ⟨e2.p b (.inl h), fun e => nP (e ▸ h)⟩, fun b h => ?_, fun b h => (e2.n b h).imp id fun z w => z (.inl w)⟩ R6 ⟨.dK (.inl upd_same) ((merge_dv .nil dp).mono (fun _ h => h) keep), p, _, rfl, f6, upd_same⟩⟩
    have nb : b ≠ p := fun e => nP (e ▸ h)
    rw [upd_ne nb, e2.h b (.inl h), upd_ne nb]
  · cases ec
end
end Sx
set_option Elab.async false
set_option linter.all false
set_option maxRecDepth 100000
set_option maxHeartbeats 4000000
set_option autoImplicit false
namespace Sx
open PySem L2
/-! ### dict comprehensions -/
def rDcL (t : Tg) (rt : RunT) (rk re : Run) (vs : List Nat) : List D → En → List (Key × D) → T (List (Key × D) × En)
  | [], en, acc => .ret (acc, en)
  | d :: ds, en, acc => (T.ofOpt (t d en)).bind fun en1 => (rt en1).bind fun b => if b.1 then (rk b.2).bind fun k => (T.ofOpt ((valO k.1).bind keyOf)).bind fun kk => (re k.2).bind fun o => (T.ofOpt (valO o.1)).bind fun y => rDcL t rt rk re vs ds (wip o.2 vs) (putD acc kk y) else rDcL t rt rk re vs ds (wip b.2 vs) acc
def rDc (ri : RunI) (l : Option Nat) (t : Tg) (rt : RunT) (rk re : Run) (vs : List Nat) : Run := fun en => (ri en).bind fun a => if a.1.length ≤ 4096 then (rDcL t rt rk re vs a.1 (wip a.2 vs) []).bind fun r => .ret (.fr (.dK r.1), unl l (back r.2 a.2 vs)) else .fail
theorem putK_len {α : Type} [DecidableEq α] (acc : List (α × V)) (k : α) (v : V) : (putK acc k v).length ≤ acc.length + 1 := by
  unfold putK
  split
  · rw [List.length_map]; omega
  · rw [List.length_append]; exact Nat.le_refl _
section
variable {W : Wd} {X : Cx} {pos : Pos} {ri : RunI} {l : Option Nat} {g : TG} {t : Tg} {is : List Nat} {rt : RunT} {rk re : Run}
theorem tv_dc {vs : List Nat} (gk : GOk W g t is) (sg : ShG t is) (his : ∀ i ∈ is, i ∈ vs) (ht : ShT rt) (hkk : ShR rk) (he : ShR re) (hsz : (4096 : Nat) < sizeLine) {σ : St} {H : Hp} {Q : VK} (h : TV W (rDc ri l t rt rk re vs) σ H Q) :
    tDc (TVI W ri l) g (TVT W rt) (TV W rk) (TV W re) vs σ H Q := by
  obtain ⟨S, P, en, R, w⟩ := h
  have w := (T.wp_bind _ _ _).mp w
  refine ⟨S, P, en, R, T.wp_mono w fun r q J H1 S1 P1 Pw e1 R1 hPw hun _ wk => ?_⟩
  intro Da hD
  have q : (if r.1.length ≤ 4096 then (rDcL t rt rk re vs r.1 (wip r.2 vs) []).bind fun r' => T.ret (Op.fr (.dK r'.1), unl l (back r'.2 r.2 vs)) else T.fail).wp _ := q
  split at q
  case isFalse => exact q.elim
  rename_i hlen
  have q := (T.wp_bind _ _ _).mp q
  have pwd : ∀ a, Pw a → a ≠ Da := fun a h z => by obtain ⟨o, e⟩ := R1.pd a h; rw [z, hD] at e; cases e
  have dd1 : Da ≠ W.da ∧ NB W Da := by
    obtain ⟨ne, ns, i, j, k, h1, h2, h3⟩ := R1.dr
    exact ⟨fun z => (by rw [← z, hD] at h1; cases h1), NB.of_none ⟨_, h2⟩ R1.tb hD⟩
  -- the start
  have e0 : Ext S1 Pw H1 S1 Pw (upd H1 Da (.dK [])) := ⟨fun _ h => h, fun _ h => h, fun a h => upd_ne (pwd a h), fun _ h => .inl h⟩
  have R0 : Rel W S1 Pw (wip r.2 vs) (wipe σ vs) (upd H1 Da (.dK [])) ∧ Free W Pw (wip r.2 vs) (wipe σ vs) Da := by
    obtain ⟨_, R0⟩ := (R1.wipe0 vs).same (upd_keeps (u := .dK []) hD) (fun _ h => h) (fun _ h => .inl h) (fun a h => by obtain ⟨o, e⟩ := R1.dom a h; exact ⟨o, upd_keeps hD a o e⟩)
    have R0' : Rel W S1 Pw (wip r.2 vs) (wipe σ vs) (upd H1 Da (.dK [])) := by
      have eq : (fun a => Pw a ∨ S1 a) = Pw := by funext a; exact propext ⟨fun h => h.elim id (R1.sp a), .inl⟩
      rw [eq] at R0; exact R0
    refine ⟨R0', fun h => pwd Da h rfl, dd1.1, dd1.2, fun i f d e nf hv => ?_⟩
    obtain ⟨v, hv', _, _, ow⟩ := (R1.wipe0 vs).slot i f d e
    obtain ⟨q, o, ev, _, _, _, _, _, h3⟩ := ow nf
    rw [hv'] at hv
    cases hv
    cases ev
    rw [hD] at h3; cases h3
  refine ⟨fun i m H2 => i ≤ r.1.length ∧ m = r.1.length - i ∧ ∃ S2 P2 en2 acc accD, Ext S1 Pw H1 S2 P2 H2 ∧ Rel W S2 P2 en2 (wipe σ vs) H2 ∧ ¬ S2 Da ∧ Free W P2 en2 (wipe σ vs) Da ∧ H2 Da = some (.dK acc) ∧ DvP W S2 H2 acc accD ∧ acc.length ≤ i ∧
    (rDcL t rt rk re vs (r.1.drop i) en2 accD).wp fun r' => ∀ v H' S' P', Ext S P H S' P' H' → Rel W S' P' (unl l (Sx.back r'.2 r.2 vs)) σ H' → OpOk W S' P' (unl l (Sx.back r'.2 r.2 vs)) σ H' v (.fr (.dK r'.1)) → Q v H',
    ⟨_, Nat.zero_le _, rfl, S1, Pw, wip r.2 vs, [], [], e0, R0.1, fun h => pwd Da (R1.sp Da h) rfl, R0.2, upd_same, .nil, Nat.zero_le _, q⟩, ?_⟩
  rintro i m H2 ⟨hi, rfl, S2, P2, en2, acc, accD, e2, R2, nS, fD, hD2, dl, hacc, w2⟩
  by_cases hlt : i < r.1.length
  case neg =>
    have ei : i = r.1.length := by omega
    subst ei
    rw [List.drop_length] at w2
    refine .inl ⟨wk.stop _ H2 (fun a h => e2.h a h) (Nat.le_refl _), ?_⟩
    obtain ⟨P3, hP3, e3, R3⟩ := hun S2 P2 (Sx.back en2 r.2 vs) σ H2 (.inr rfl) e2 (R1.back e2 R2)
    refine w2 (.ref Da) H2 S2 P3 (e1.trans e3) R3 ⟨.dK (.inl hD2) dl, Da, _, rfl, ⟨fun h => fD.1 (hP3 Da h), dd1.1, dd1.2, fun j f d e nf hv => ?_⟩, hD2⟩
    obtain ⟨g', d', e', nf'⟩ := unl_nf e nf
    rcases back_get e' with ⟨_, rfl, _⟩ | ⟨hj, q1⟩
    · exact absurd rfl nf'
    · rw [← wipe_at hj] at hv
      exact fD.2.2.2 j g' d' q1 nf' hv
  refine .inr ⟨wk.go i H2 (fun a h => e2.h a h) hlt, fun H3 => ∃ S2 P2 en2 acc accD, Ext S1 Pw H1 S2 P2 H3 ∧ Rel W S2 P2 en2 (wipe σ vs) H3 ∧ ¬ S2 Da ∧ Free W P2 en2 (wipe σ vs) Da ∧ H3 Da = some (.dK acc) ∧ DvP W S2 H3 acc accD ∧ acc.length ≤ i + 1 ∧
    (rDcL t rt rk re vs (r.1.drop (i + 1)) en2 accD).wp fun r' => ∀ v H' S' P', Ext S P H S' P' H' → Rel W S' P' (unl l (Sx.back r'.2 r.2 vs)) σ H' → OpOk W S' P' (unl l (Sx.back r'.2 r.2 vs)) σ H' v (.fr (.dK r'.1)) → Q v H',
    fun H3 z => ⟨r.1.length - (i + 1), by omega, hlt, rfl, z⟩, fun x H3 y => ?_⟩
  -- Da guarded through the turn
  have Rg := R2.guard fD hD2
  have eg : Ext S2 P2 H2 S2 (add P2 Da) H2 := ⟨fun _ h => h, fun a h => .inl h, fun _ _ => rfl, fun _ h => .inl h⟩
  obtain ⟨d, S3, P3, hd, e3, R3, dz⟩ := wk.turn Rg (fun a h => e2.s a h) (fun a h => ⟨.inl (e2.p a h), e2.h a h⟩) hlt y
  have nS3 : ¬ S3 Da := fun h => (e3.n Da h).elim nS fun z => z (.inr rfl)
  have hD3 : H3 Da = some (.dK acc) := (e3.h Da (.inr rfl)).trans hD2
  rw [drop_at hd] at w2
  obtain ⟨en3, htg, w3⟩ := T.wp_ofOpt ((T.wp_bind _ _ _).mp w2)
  refine gk S3 P3 en2 en3 x d (wipe σ vs) H3 _ R3 dz htg fun σ3 ha hl R4 => ⟨wipe_eq his ha hl, ?_⟩
  -- no locked name holds Da
  obtain ⟨sg1, sg2⟩ := sg d en2 en3 htg
  have lk3 : ∀ (j : Nat) (d' : D), en3[j]? = some (some (.lk, d')) → σ3[j]? ≠ some (some (.ref Da)) := by
    intro j d' e hv
    by_cases hj : j ∈ is
    · exact sg2 j hj d' e
    · rw [ha j hj] at hv
      obtain ⟨d2, e2'⟩ := sg1 j d' e
      exact fD.2.2.2 j .lk d2 e2' (by decide) hv
  have w3 := (T.wp_bind _ _ _).mp w3
  have w3 := T.wp_all w3 (ht en3)
  have e13 : Ext S1 Pw H1 S3 P3 H3 := (e2.trans eg).trans e3
  refine ⟨S3, P3, en3, R4, T.wp_mono w3 fun b ⟨q4, sb⟩ H4 S4 P4 e4 R5 => ?_⟩
  have nS4 : ¬ S4 Da := fun h => (e4.n Da h).elim nS3 fun z => z (e3.p Da (.inr rfl))
  have pD4 : P4 Da := e4.p Da (e3.p Da (.inr rfl))
  have hD4 : H4 Da = some (.dK acc) := (e4.h Da (e3.p Da (.inr rfl))).trans hD3
  have lk4 : ∀ (j : Nat) (d' : D), b.2[j]? = some (some (.lk, d')) → σ3[j]? ≠ some (some (.ref Da)) := fun j d' e => by
    obtain ⟨d2, e'⟩ := sb j d' e
    exact lk3 j d2 e'
  have dl4 : DvP W S4 H4 acc accD := (dl.mono (fun a h => e3.s a h) fun a h => e3.h a (.inl (R2.sp a h))).mono (fun a h => e4.s a h) fun a h => e4.h a (R3.sp a h)
  have drop0 : ∀ (S5 P5 : Addr → Prop) (H5 : Hp), Ext S1 Pw H1 S5 P5 H5 → ¬ S5 Da → ∀ u, Ext S1 Pw H1 S5 (fun a => P5 a ∧ a ≠ Da) (upd H5 Da u) := fun S5 P5 H5 e nS5 u =>
    ⟨e.s, fun a h => ⟨e.p a h, pwd a h⟩, fun a h => (upd_ne (pwd a h)).trans (e.h a h), e.n⟩
  have same : ∀ (H5 : Hp) (u : HO), H5 Da = some u → upd H5 Da u = H5 := fun H5 u e => by
    funext a
    by_cases h : a = Da
    · subst h; rw [upd_same, e]
    · exact upd_ne h
  obtain ⟨bb, enb⟩ := b
  cases bb with
  | false =>
    obtain ⟨R6, f6⟩ := R5.turn (u := .dK acc) pD4 nS4 lk4 (Tabs.upd R5.tb hD4 (nx_dK _))
    rw [same H4 _ hD4] at R6
    have d0 := drop0 S4 P4 H4 (e13.trans e4) nS4 (.dK acc)
    rw [same H4 _ hD4] at d0
    refine ⟨S4, _, wip enb vs, acc, accD, d0, R6.wipe his ha (by rw [hl, wipe_length]), nS4, ⟨f6.1, dd1.1, dd1.2, fun j f d' e nf hv => ?_⟩, hD4, dl4, Nat.le_succ_of_le hacc, q4⟩
    obtain ⟨hj, e'⟩ := wip_get e
    rw [wipe_at hj] at hv
    rw [← wipe_at hj, ← ha j fun z => hj (his j z)] at hv
    exact f6.2.2.2 j f d' e' nf hv
  | true =>
    have q4 := (T.wp_bind _ _ _).mp q4
    have q4 := T.wp_all q4 (hkk enb)
    refine ⟨S4, P4, enb, R5, T.wp_mono q4 fun o1 ⟨q5, so1⟩ yk H45 S45 P45 e45 R45 ok1 => ?_⟩
    obtain ⟨kk, hkk2, q5⟩ := T.wp_ofOpt ((T.wp_bind _ _ _).mp q5)
    obtain ⟨kd, hkd, hkk3⟩ := Option.bind_eq_some_iff.mp hkk2
    obtain ⟨S46, P46, e46, R46, dzk⟩ := ok1.valz R45 hkd
    have ek : yk = kV kk := keyOf_v dzk.2 hkk3
    have nS46 : ¬ S46 Da := fun h => (e46.n Da h).elim (fun h => (e45.n Da h).elim nS4 fun z => z pD4) fun z => z (e45.p Da pD4)
    have pD46 : P46 Da := e46.p Da (e45.p Da pD4)
    have hD46 : H45 Da = some (.dK acc) := (e45.h Da pD4).trans hD4
    have lk46 : ∀ (j : Nat) (d' : D), o1.2[j]? = some (some (.lk, d')) → σ3[j]? ≠ some (some (.ref Da)) := fun j d' e => by
      obtain ⟨d2, e'⟩ := so1 j d' e
      exact lk4 j d2 e'
    have dl46 : DvP W S46 H45 acc accD := (dl4.mono (fun a h => e45.s a h) fun a h => e45.h a (R5.sp a h)).mono (fun a h => e46.s a h) fun a _ => rfl
    have q5 := (T.wp_bind _ _ _).mp q5
    have q5 := T.wp_all q5 (he o1.2)
    refine ⟨S46, P46, o1.2, R46, T.wp_mono q5 fun o ⟨q6, so⟩ yv H5 S5 P5 e5 R6 ok => ?_⟩
    obtain ⟨yd, hy, q6⟩ := T.wp_ofOpt ((T.wp_bind _ _ _).mp q6)
    have nS5 : ¬ S5 Da := fun h => (e5.n Da h).elim nS46 fun z => z pD46
    obtain ⟨S6, P6, e6, R7, dz6⟩ := ok.valz R6 hy
    have nS6 : ¬ S6 Da := fun h => (e6.n Da h).elim nS5 fun z => z (e5.p Da pD46)
    have pD6 : P6 Da := e6.p Da (e5.p Da pD46)
    have hD6 : H5 Da = some (.dK acc) := (e5.h Da pD46).trans hD46
    have lk6 : ∀ (j : Nat) (d' : D), o.2[j]? = some (some (.lk, d')) → σ3[j]? ≠ some (some (.ref Da)) := fun j d' e => by
      obtain ⟨d2, e'⟩ := so j d' e
      exact lk46 j d2 e'
    have dl6 : DvP W S6 H5 acc accD := (dl46.mono (fun a h => e5.s a h) fun a h => e5.h a (R46.sp a h)).mono (fun a h => e6.s a h) fun a _ => rfl
    obtain ⟨R8, f8⟩ := R7.turn (u := .dK (putK acc kk yv)) pD6 nS6 lk6 (Tabs.upd R7.tb hD6 (nx_dK _))
    have hup : ∀ a, S6 a → upd H5 Da (.dK (putK acc kk yv)) a = H5 a := fun a h => upd_ne fun z => nS6 (z ▸ h)
    refine ⟨acc, kk, ek, hD6, Nat.lt_of_le_of_lt (Nat.le_trans hacc (Nat.le_trans hi hlen)) hsz, S6, _, wip o.2 vs, putK acc kk yv, putD accD kk yd, drop0 S6 P6 H5 ((e13.trans e4).trans ((e45.trans e46).trans (e5.trans e6))) nS6 _, R8.wipe his ha (by rw [hl, wipe_length]), nS6, ⟨f8.1, dd1.1, dd1.2, fun j f d' e nf hv => ?_⟩, upd_same,
      (DvP.putK dz6 dl6).mono (fun _ h => h) hup, Nat.le_trans (putK_len acc kk yv) (Nat.succ_le_succ hacc), q6⟩
    obtain ⟨hj, e'⟩ := wip_get e
    rw [← ha j fun z => hj (his j z)] at hv
    exact f8.2.2.2 j f d' e' nf hv
theorem e_dc {tg iter kx vx : Expr} {ifs : List Expr} {scope : Scope} [h1 : ShTg t is] [h2 : ShTst rt] [h0 : ShRun rk] [h3 : ShRun re] (own : List (Str × Nat)) (hNd : X.N.Nodup) (ok : BlkOk X.N X.env.scope scope own) (hi : PI X tg iter (TVI W ri l))
    (hg : ∀ (s : Shared) (H : Hp) (C : Addr) (cl : List (Str × Addr)) (fp : List Addr), PG (X.blk s H scope (compEnvC scope cl C X.env) fp) tg g) (gk : GOk W g t is)
    (ht : ∀ (s : Shared) (H : Hp) (C : Addr) (cl : List (Str × Addr)) (fp : List Addr), PTs (X.blk s H scope (compEnvC scope cl C X.env) fp) ifs (TVT W rt))
    (hk : ∀ (s : Shared) (H : Hp) (C : Addr) (cl : List (Str × Addr)) (fp : List Addr), PE (X.blk s H scope (compEnvC scope cl C X.env) fp) kx (TV W rk))
    (he : ∀ (s : Shared) (H : Hp) (C : Addr) (cl : List (Str × Addr)) (fp : List Addr), PE (X.blk s H scope (compEnvC scope cl C X.env) fp) vx (TV W re)) (his : ∀ i ∈ is, i ∈ own.map (·.2) := by decide) (hc : X.calm = true := by rfl) (hs : ∀ x, foldedSetIterable iter X.env x = pure x := by intro _; rfl) :
    PE X (.DictComp kx vx [⟨tg, iter, ifs, 0⟩] scope pos) (TV W (rDc ri l t rt rk re (own.map (·.2)))) :=
  pe_weak (pe_dc hc hNd hi ok hg ht hk he hs) fun σ H Q h => tv_dc gk h1.sh his h2.sh h0.sh h3.sh sz4096 h
end
end Sx
set_option Elab.async false
set_option linter.all false
set_option maxRecDepth 100000
set_option maxHeartbeats 4000000
set_option autoImplicit false
namespace Sx
open PySem L2
/-! ### dicts walked: the dict is locked for the while -/
structure Keeps (H H' : Hp) : Prop where
  pl : ∀ a u, H a = some u → (∀ kvs, u ≠ .dK kvs) → (∀ o u', u ≠ .frz o u') → H' a = some u
  dk : ∀ a kvs, Rd H a (.dK kvs) → Rd H' a (.dK kvs)
  fr : ∀ a o u, H a = some (.frz o u) → (∀ kvs, u ≠ .dK kvs) → H' a = some (.frz o u)
  ex : ∀ a o, H a = some o → ∃ o', H' a = some o'
theorem Keeps.lock {H : Hp} {d : Addr} {o : Obj} {vs : List (Key × V)} (h : H d = some (.dK vs)) : Keeps H (upd H d (.frz o (.dK vs))) := by
  refine ⟨fun a u e n1 n2 => ?_, fun a kvs e => ?_, fun a o' u e n => ?_, fun a u e => ?_⟩
  · rw [upd_ne fun z => by rw [z, h] at e; cases e; exact n1 _ rfl]; exact e
  · by_cases z : a = d
    · subst z
      rcases e with e | ⟨o', e⟩
      · rw [h] at e; cases e; exact .inr ⟨o, upd_same⟩
      · rw [h] at e; cases e
    · exact rd_at (upd_ne z) e
  · rw [upd_ne fun z => by rw [z, h] at e; cases e]; exact e
  · by_cases z : a = d
    · subst z; exact ⟨_, upd_same⟩
    · exact ⟨u, by rw [upd_ne z]; exact e⟩
theorem Keeps.unlock {H : Hp} {d : Addr} {o : Obj} {vs : List (Key × V)} (h : H d = some (.frz o (.dK vs))) : Keeps H (upd H d (.dK vs)) := by
  refine ⟨fun a u e n1 n2 => ?_, fun a kvs e => ?_, fun a o' u e n => ?_, fun a u e => ?_⟩
  · rw [upd_ne fun z => by rw [z, h] at e; cases e; exact n2 _ _ rfl]; exact e
  · by_cases z : a = d
    · subst z
      rcases e with e | ⟨o', e⟩
      · rw [h] at e; cases e
      · rw [h] at e; cases e; exact .inl upd_same
    · exact rd_at (upd_ne z) e
  · rw [upd_ne fun z => by rw [z, h] at e; cases e; exact n _ rfl]; exact e
  · by_cases z : a = d
    · subst z; exact ⟨_, upd_same⟩
    · exact ⟨u, by rw [upd_ne z]; exact e⟩
theorem SqL.keeps {K : PySem.W.Frag} {H H' : Hp} {a : Addr} {xs : List V} (k : Keeps H H') (h : SqL K H a xs) : SqL K H' a xs := by
  rcases h with (h | ⟨o, h⟩) | h
  · exact .inl (.inl (k.pl _ _ h (fun _ z => by cases z) (fun _ _ z => by cases z)))
  · exact .inl (.inr ⟨o, k.fr _ _ _ h (fun _ z => by cases z)⟩)
  · exact .inr h
mutual
theorem Dv.keeps {W : Wd} {S : Addr → Prop} {H H' : Hp} (k : Keeps H H') : ∀ {v : V} {d : D}, Dv W S H v d → Dv W S H' v d
  | _, _, .non => .non
  | _, _, .bl b => .bl b
  | _, _, .int i => .int i
  | _, _, .str x => .str x
  | _, _, .lst h r => .lst (k.pl _ _ h (fun _ z => by cases z) (fun _ _ z => by cases z)) (DvL.keeps k r)
  | _, _, .tup h r => .tup (h.imp (fun ⟨s, q⟩ => ⟨s, k.pl _ _ q (fun _ z => by cases z) (fun _ _ z => by cases z)⟩) id) (DvL.keeps k r)
  | _, _, .dK h r => .dK (k.dk _ _ h) (DvP.keeps k r)
  | _, _, .dT h r => .dT (k.pl _ _ h (fun _ z => by cases z) (fun _ _ z => by cases z)) (DvP.keeps k r)
  | _, _, .obj h r => .obj (k.pl _ _ h (fun _ z => by cases z) (fun _ _ z => by cases z)) (DvP.keeps k r)
  | _, _, .scr h => .scr (h.imp (fun ⟨s, q⟩ => ⟨s, SqL.keeps k q⟩) id)
  | _, _, .drw => .drw
  | _, _, .ty n => .ty n
  | _, _, .cl c => .cl c
  | _, _, .adr a => .adr a
  | _, _, .exc e s h r => .exc (k.pl _ _ e (fun _ z => by unfold ExcO at z; cases z) (fun _ _ z => by unfold ExcO at z; cases z)) s (k.pl _ _ h (fun _ z => by cases z) (fun _ _ z => by cases z)) (DvP.keeps k r)
  | _, _, .exc0 e => .exc0 (k.pl _ _ e (fun _ z => by unfold ExcO at z; cases z) (fun _ _ z => by unfold ExcO at z; cases z))
theorem DvL.keeps {W : Wd} {S : Addr → Prop} {H H' : Hp} (k : Keeps H H') : ∀ {vs : List V} {ds : List D}, DvL W S H vs ds → DvL W S H' vs ds
  | _, _, .nil => .nil
  | _, _, .cons t h r => .cons t (Dv.keeps k h) (DvL.keeps k r)
theorem DvP.keeps {W : Wd} {S : Addr → Prop} {H H' : Hp} (k : Keeps H H') : ∀ {κ : Type} {vs : List (κ × V)} {ds : List (κ × D)}, DvP W S H vs ds → DvP W S H' vs ds
  | _, _, _, .nil => .nil
  | _, _, _, .cons t h r => .cons t (Dv.keeps k h) (DvP.keeps k r)
end
section
variable {W : Wd} {S P S' P' : Addr → Prop} {en en1 : En} {σ : St} {H H' : Hp} {v : V} {X : Cx} {o : Op} {c : Bool × D}
theorem DrawOk.keeps (k : Keeps H H') (h : DrawOk W H) : DrawOk W H' := by
  obtain ⟨ne, ns, i, j, m, h1, h2, h3⟩ := h
  exact ⟨ne, ns, i, j, m, k.pl _ _ h1 (fun _ z => by cases z) (fun _ _ z => by cases z), k.pl _ _ h2 (fun _ z => by cases z) (fun _ _ z => by cases z), h3⟩
theorem Tabs.keeps {T : List (Addr × Str)} (k : Keeps H H') (t : LamX.Tabs T H) : LamX.Tabs T H' := fun x hx => by
  obtain ⟨ps, h1, h2, h3⟩ := t x hx
  refine ⟨ps, k.pl _ _ h1 (fun _ z => by cases z) (fun _ _ z => by cases z), h2, fun pos cv hc => ?_⟩
  obtain ⟨c, e1, e2⟩ := h3 pos cv hc
  exact ⟨c, e1, k.pl _ _ e2 (fun _ z => by unfold LamX.CodeO at z; cases z) (fun _ _ z => by unfold LamX.CodeO at z; cases z)⟩
theorem Rel.keeps (R : Rel W S P en σ H) (k : Keeps H H') : Rel W S P en σ H' := by
  refine ⟨R.sp, fun a h => by obtain ⟨o, e⟩ := R.pd a h; exact k.ex a o e, fun i f d e => ?_, R.inj, R.len, R.dr.keeps k, R.drP, Tabs.keeps k R.tb⟩
  obtain ⟨v, hv, dv, t, ow⟩ := R.slot i f d e
  refine ⟨v, hv, dv.keeps k, t, fun z => ?_⟩
  obtain ⟨p, o, ev, h1, h2, h3, h4, h5, h6⟩ := ow z
  obtain ⟨o', h7⟩ := k.ex _ _ h6
  exact ⟨p, o', ev, h1, h2, h3, h4, h5, h7⟩
theorem OpOk.keeps (k : Keeps H H') (h : OpOk W S P en σ H v o) : OpOk W S P en σ H' v o := by
  cases o with
  | v d => exact ⟨h.1, h.2.keeps k⟩
  | b i => exact h
  | fr d =>
    obtain ⟨dv, p, u, e, f, hu⟩ := h
    obtain ⟨u', hu'⟩ := k.ex _ _ hu
    exact ⟨dv.keeps k, p, u', e, f, hu'⟩
theorem ROk.keeps (k : Keeps H H') (h : ROk W S P H v c) : ROk W S P H' v c := by
  refine ⟨h.1.keeps k, h.2.1, fun z => ?_⟩
  obtain ⟨p, u, e, n, m1, m2, hu⟩ := h.2.2 z
  obtain ⟨u', hu'⟩ := k.ex _ _ hu
  exact ⟨p, u', e, n, m1, m2, hu'⟩
theorem RetOk.keeps (k : Keeps H H') (h : RetOk W S P H) : RetOk W S P H' := ⟨h.sp, fun a s => by obtain ⟨o, e⟩ := h.ds a s; exact k.ex a o e, h.dr.keeps k, h.dp, Tabs.keeps k h.tb⟩
/-! the way to a dict: a name, or a field of a name's object -/
abbrev Pth := En → Option (En × List (Key × D))
structure PathOk (W : Wd) (td : TE) (pa : St → Hp → Option Addr) (pth : Pth) : Prop where
  ok : ∀ {S P : Addr → Prop} {en en1 : En} {σ : St} {H : Hp} {kvs : List (Key × D)}, Rel W S P en σ H → pth en = some (en1, kvs) → ∃ S1 P1 d vs, Ext S P H S1 P1 H ∧ Rel W S1 P1 en1 σ H ∧ S1 d ∧ pa σ H = some d ∧ Rd H d (.dK vs) ∧ DvP W S1 H vs kvs
  td : ∀ {σ : St} {H : Hp} {d : Addr} {Q : VK}, pa σ H = some d → Q (.ref d) H → td σ H Q
  kp : ∀ {σ : St} {H H' : Hp} {d : Addr}, Keeps H H' → pa σ H = some d → pa σ H' = some d
def paV (i : Nat) : St → Hp → Option Addr := fun σ _ => match σ[i]? with
  | some (some (.ref a)) => some a
  | _ => none
def pthV (i : Nat) : Pth := fun en => match en[i]? with
  | some (some (.fz, .dK kvs)) => some (en, kvs)
  | some (some (.ow, .dK kvs)) => some ((en.set i none).set i (some (.fz, .dK kvs)), kvs)
  | _ => none
theorem path_var (i : Nat) : PathOk W (tVar i) (paV i) (pthV i) := by
  refine ⟨fun {S P en en1 σ H kvs} R h => ?_, fun {σ H d Q} h q => ?_, fun {σ H H' d} _ h => h⟩
  · have key : ∃ S1 P1 v, Ext S P H S1 P1 H ∧ Rel W S1 P1 en1 σ H ∧ σ[i]? = some (some v) ∧ Dz W S1 H v (.dK kvs) := by
      unfold pthV at h
      split at h
      · rename_i e
        cases h
        obtain ⟨v, hv, dv, t, _⟩ := R.slot i .fz _ e
        exact ⟨S, P, v, .refl, R, hv, t rfl, dv⟩
      · rename_i e
        cases h
        obtain ⟨p, o, hv, dv, hf, ho⟩ := R.free e
        obtain ⟨ex, R2⟩ := (R.drop i).freeze hf ho
        have dz : Dz W (add S p) H (.ref p) (.dK kvs) := ⟨Or.inr rfl, dv.mono ex.s (fun _ _ => rfl) rfl⟩
        have R3 := R2.put (i := i) (by rw [List.length_set]; exact lt_of_get e) dz
        rw [set_set_same R i _ hv] at R3
        exact ⟨_, _, .ref p, ex, R3, hv, dz⟩
      · cases h
    obtain ⟨S1, P1, v, e1, R1, hv, t, dv⟩ := key
    obtain ⟨a, vs, rfl, ha, dp⟩ := dv.dK_at
    refine ⟨S1, P1, a, vs, e1, R1, t, ?_, ha, dp⟩
    unfold paV
    rw [hv]
  · unfold paV at h
    split at h
    · rename_i e
      cases h
      exact ⟨_, e, q⟩
    · cases h
def paF (i : Nat) (C0 : Addr) (f : Str) : St → Hp → Option Addr := fun σ H => match σ[i]? with
  | some (some (.ref a)) => (match H a with
    | some (.ins C _ fs) => if C = C0 then (match fs.lookup f with
      | some (.ref d) => some d
      | _ => none) else none
    | _ => none)
  | _ => none
theorem paF_some {i : Nat} {C0 : Addr} {f : Str} {d : Addr} (h : paF i C0 f σ H = some d) : ∃ a dx fs, σ[i]? = some (some (.ref a)) ∧ H a = some (.ins C0 dx fs) ∧ fs.lookup f = some (.ref d) := by
  unfold paF at h
  split at h
  · rename_i a e1
    split at h
    · rename_i C dx fs e2
      split at h
      · rename_i e3
        subst e3
        split at h
        · rename_i d' e4
          cases h
          exact ⟨a, dx, fs, e1, e2, e4⟩
        · cases h
      · cases h
    · cases h
  · cases h
theorem paF_of {i : Nat} {C0 : Addr} {f : Str} {d a dx : Addr} {fs : List (Str × V)} (h1 : σ[i]? = some (some (.ref a))) (h2 : H a = some (.ins C0 dx fs)) (h3 : fs.lookup f = some (.ref d)) : paF i C0 f σ H = some d := by
  unfold paF
  rw [h1]
  simp only [h2, if_true, h3]
def pthF (i c0 : Nat) (f : Str) : Pth := fun en => match en[i]? with
  | some (some (.fz, d)) => (clsN c0 d).bind fun fs => (match fs.lookup f with
    | some (.dK kvs) => some (en, kvs)
    | _ => none)
  | _ => none
theorem path_fld {i c0 : Nat} {f : Str} (c : Cls W.K (W.cls c0)) (n : NoAttr W.K (W.cls c0) f) : PathOk W (tFld W.K (tVar i) f) (paF i (W.cls c0) f) (pthF i c0 f) := by
  refine ⟨fun {S P en en1 σ H kvs} R h => ?_, fun {σ H d Q} h q => ?_, fun {σ H H' d} k h => ?_⟩
  · unfold pthF at h
    split at h
    · rename_i d e
      obtain ⟨fs, e2, h⟩ := Option.bind_eq_some_iff.mp h
      split at h
      · rename_i kvs' e3
        cases h
        cases clsN_some e2
        obtain ⟨v, hv, dv, t, _⟩ := R.slot i .fz _ e
        obtain ⟨a, dx, fv, rfl, ha, dp⟩ := dv.obj_at
        obtain ⟨w, e4, tz, dz⟩ := (dp.get (f := f)).1 _ e3
        obtain ⟨b, vs, rfl, hb, dq⟩ := dz.dK_at
        exact ⟨S, P, b, vs, .refl, R, tz, paF_of hv ha e4, hb, dq⟩
      · cases h
    · cases h
  · obtain ⟨a, dx, fs, h1, h2, h3⟩ := paF_some h
    exact ⟨.ref a, h1, a, _, dx, fs, _, rfl, h2, c, n, h3, q⟩
  · obtain ⟨a, dx, fs, h1, h2, h3⟩ := paF_some h
    exact paF_of h1 (k.pl _ _ h2 (fun _ z => by cases z) (fun _ _ z => by cases z)) h3
/-! the walk over the keys -/
def Locked (pa : St → Hp → Option Addr) (σ : St) (H : Hp) : Prop := ∃ d o vs, pa σ H = some d ∧ H d = some (.frz o (.dK vs))
def iKy (pth : Pth) : RunI := fun en => (T.ofOpt (pth en)).bind fun r => .ret (r.2.map fun kv => kD kv.1, r.1)
theorem walks_keys {d : Addr} {ob : Obj} {vs : List (Key × V)} {ds : List (Key × D)} (ha : P d) (h : H d = some (.frz ob (.dK vs))) (dp : DvP W S H vs ds) : Walks W S P H (Itk d ob vs) (ds.map fun kv => kD kv.1) := by
  have len : (ds.map fun kv => kD kv.1).length = vs.length := by rw [List.length_map, dp.lenK]
  refine ⟨fun i H2 q hi => ⟨(q d ha).trans h, by rw [← len]; exact hi⟩, fun i H2 q hi => ⟨(q d ha).trans h, by rw [← len]; exact hi⟩, fun i H2 x H3 q hi y => ?_⟩
  obtain ⟨rfl, k, v, hk, rfl⟩ := y
  refine ⟨kD k, ?_, .inl ⟨rfl, kD_dv k⟩⟩
  have : (vs.map (·.1))[i]? = some k := by rw [List.getElem?_map, hk]; rfl
  rw [dp.keys, List.getElem?_map] at this
  rw [List.getElem?_map]
  cases e : ds[i]? with
  | none => rw [e] at this; cases this
  | some p => rw [e] at this; cases this; rfl
theorem tvi_keys {td : TE} {pa : St → Hp → Option Addr} {pth : Pth} (ok : PathOk W td pa pth) {R : It → Hp → Prop} (hl : Locked pa σ H) (h : TVI W (iKy pth) none σ H R) : iKeys td σ H R := by
  obtain ⟨S, P, en, R0, w⟩ := h
  obtain ⟨⟨en1, kvs⟩, hp, w⟩ := T.wp_ofOpt ((T.wp_bind _ _ _).mp w)
  obtain ⟨S1, P1, d, vs, e1, R1, sd, hpa, hd, dp⟩ := ok.ok R0 hp
  obtain ⟨d', o, vs', h1, h2⟩ := hl
  rw [hpa] at h1
  cases h1
  have ev : vs' = vs := by
    rcases hd with hd | ⟨o', hd⟩
    · rw [hd] at h2; cases h2
    · rw [hd] at h2; cases h2; rfl
  subst ev
  refine ok.td hpa ⟨d, o, rfl, .inl ⟨vs', h2, w (Itk d o vs') H S1 P1 P1 e1 R1 (fun _ h => h) (fun S3 P3 en3 σ3 H3 _ e3 R3 => ⟨P3, fun _ h => h, e3, R3⟩) (fun _ => rfl) (walks_keys (R1.sp _ sd) h2 dp)⟩⟩
/-! under the lock -/
def rLkd (pth : Pth) (run : Run) : Run := fun en => (T.ofOpt (pth en)).bind fun r => run r.1
theorem lk_e {e : Expr} {t : TE} {td : TE} {pa : St → Hp → Option Addr} {pth : Pth} {run : Run} (ok : PathOk W td pa pth) (he : PE X e t) (hw : ∀ σ H Q, Locked pa σ H → TV W run σ H Q → t σ H Q) : PE X e (TV W (rLkd pth run)) := by
  have both : PE X e (fun σ H Q => t σ H Q ∨ tLockE t σ H Q) := ⟨fun pins s σ H Q I h => h.elim (he.run pins s σ H Q I) ((pe_lock he).run pins s σ H Q I)⟩
  refine pe_weak both fun σ H Q h => ?_
  obtain ⟨S, P, en, R, w⟩ := h
  obtain ⟨⟨en1, kvs⟩, hp, w⟩ := T.wp_ofOpt ((T.wp_bind _ _ _).mp w)
  obtain ⟨S1, P1, d, vs, e1, R1, sd, hpa, hd, dp⟩ := ok.ok R hp
  rcases hd with hd | ⟨o, hd⟩
  · refine .inr ⟨d, .dK vs, hd, trivial, fun od => ?_⟩
    have k := Keeps.lock (o := od) hd
    refine hw σ _ _ ⟨d, od, vs, ok.kp k hpa, upd_same⟩ ⟨S1, P1, en1, R1.keeps k, T.wp_mono w fun r q v H' S' P' e R' op => ?_⟩
    have hd' : H' d = some (.frz od (.dK vs)) := (e.h d (R1.sp _ sd)).trans upd_same
    have k2 := Keeps.unlock hd'
    refine ⟨hd', q v _ S' P' (e1.trans ⟨e.s, e.p, fun a h => ?_, e.n⟩) (R'.keeps k2) (op.keeps k2)⟩
    by_cases z : a = d
    · subst z; rw [upd_same, hd]
    · rw [upd_ne z, e.h a h, upd_ne z]
  · exact .inl (hw σ H Q ⟨d, o, vs, hpa, hd⟩ ⟨S1, P1, en1, R1, T.wp_mono w fun r q v H' S' P' e R' op => q v H' S' P' (e1.trans e) R' op⟩)
def sLkd (pth : Pth) (run : RunS) : RunS := fun en => (T.ofOpt (pth en)).bind fun r => run r.1
theorem lk_s {st : Stmt} {t : TS} {td : TE} {pa : St → Hp → Option Addr} {pth : Pth} {run : RunS} (ok : PathOk W td pa pth) (he : PS X st t) (hw : ∀ D σ H, Locked pa σ H → TVS W run D σ H → t D σ H) : PS X st (TVS W (sLkd pth run)) := by
  have both : PS X st (fun D σ H => t D σ H ∨ tLock t D σ H) := ⟨fun pins s σ H D I h => h.elim (he.run pins s σ H D I) ((ps_lock he).run pins s σ H D I)⟩
  refine ps_weak both fun D σ H h => ?_
  obtain ⟨S, P, en, R, w⟩ := h
  obtain ⟨⟨en1, kvs⟩, hp, w⟩ := T.wp_ofOpt ((T.wp_bind _ _ _).mp w)
  obtain ⟨S1, P1, d, vs, e1, R1, sd, hpa, hd, dp⟩ := ok.ok R hp
  rcases hd with hd | ⟨o, hd⟩
  · refine .inr ⟨d, .dK vs, hd, trivial, fun od => ?_⟩
    have k := Keeps.lock (o := od) hd
    refine hw _ σ _ ⟨d, od, vs, ok.kp k hpa, upd_same⟩ ⟨S1, P1, en1, R1.keeps k, T.wp_mono w fun r q => ?_⟩
    have back : ∀ {S' P' : Addr → Prop} {H' : Hp}, Ext S1 P1 (upd H d (.frz od (.dK vs))) S' P' H' → H' d = some (.frz od (.dK vs)) ∧ Ext S P H S' P' (upd H' d (.dK vs)) ∧ Keeps H' (upd H' d (.dK vs)) := fun {S' P' H'} e => by
      have hd' : H' d = some (.frz od (.dK vs)) := (e.h d (R1.sp _ sd)).trans upd_same
      refine ⟨hd', e1.trans ⟨e.s, e.p, fun a h => ?_, e.n⟩, Keeps.unlock hd'⟩
      by_cases z : a = d
      · subst z; rw [upd_same, hd]
      · rw [upd_ne z, e.h a h, upd_ne z]
    obtain ⟨fl, en2⟩ := r
    cases fl with
    | nx => exact fun σ' H' S' P' e R' => by obtain ⟨b1, b2, b3⟩ := back e; exact ⟨b1, q σ' _ S' P' b2 (R'.keeps b3)⟩
    | bk => exact fun σ' H' S' P' e R' => by obtain ⟨b1, b2, b3⟩ := back e; exact ⟨b1, q σ' _ S' P' b2 (R'.keeps b3)⟩
    | ct => exact fun σ' H' S' P' e R' => by obtain ⟨b1, b2, b3⟩ := back e; exact ⟨b1, q σ' _ S' P' b2 (R'.keeps b3)⟩
    | rt c => exact fun v H' S' P' e ro rk => by obtain ⟨b1, b2, b3⟩ := back e; exact ⟨b1, q v _ S' P' b2 (ro.keeps b3) (rk.keeps b3)⟩
  · exact .inl (hw D σ H ⟨d, o, vs, hpa, hd⟩ ⟨S1, P1, en1, R1, T.wp_mono w fun r q => q.ext e1⟩)
end
end Sx
set_option Elab.async false
set_option linter.all false
set_option maxRecDepth 100000
set_option maxHeartbeats 4000000
set_option autoImplicit false
namespace Sx
open PySem L2 PyProof.Rows
/-! ### enumerate(tuple) -/
theorem meets_enumT (l : Addr) (items : Array Value) :
    Meets (Builtin.«enumerate.__new__» ⟨[.type "enumerate", .ref l], []⟩) (fun _ R s => s.heap.IsTuple l items ∧
      R (.ok (.ret (.ref (s.heap.push { cls := .type "tuple_iterator", data := .fields #[.ref l, .int 0 0] }).objs.size)))
        { s with heap := (s.heap.push { cls := .type "tuple_iterator", data := .fields #[.ref l, .int 0 0] }).push { cls := .type "enumerate", data := .fields #[.none, .bool false, .ref s.heap.objs.size, rawInt 0, .none, .none] } }) :=
  .of_wp fun prog w A R s h => by
    obtain ⟨hp, g, d, tk, os⟩ := s; obtain ⟨hL, h⟩ := h
    have hsub := sub_enumerate
    have hL' : Heap.IsTuple (Shared.heap ⟨hp, g, d, tk, os⟩) l items := hL
    obtain ⟨ol, hl, hc, n, hd⟩ := id hL
    wp_walk using wpAny_loadPart' hl
    refine wpAny_stack_any fun st => wpAny_pure ?_
    split
    · rename_i c _ _ _ _ _
      cases (c == Value.type "enumerate")
      · wp_walk using wpAny_loadPart' hl, wpAny_pyIter_tuple hL'
        exact ⟨_, rfl, h⟩
      · wp_walk using wpAny_loadPart' hl, wpAny_pyIter_tuple hL'
        exact ⟨_, rfl, h⟩
    · wp_walk using wpAny_loadPart' hl, wpAny_pyIter_tuple hL'
      exact ⟨_, rfl, h⟩
theorem call_enumT {prog : Program} {w : World} {A : Around} {E : Value → Shared → Prop} {s : Shared} {l : Addr} {items : Array Value} {Q : Value → Shared → Prop} (hL : s.heap.IsTuple l items)
    (h : ∀ h', IsEnum h' (s.heap.objs.size + 1) s.heap.objs.size 0 .none → h'.IsTupleIter s.heap.objs.size l 0 → h'.objs.size = s.heap.objs.size + 2 →
      (∀ b o, s.heap.get? b = some o → h'.get? b = some o) → Q (.ref (s.heap.objs.size + 1)) { s with heap := h' }) :
    wpAny (model prog w) A (PySem.call (.type "enumerate") [.ref l]) Q E s := by
  refine callType_new F.called_enumerate (by decide) (F.typeCall_enumerate_1 _) (F.newCall_enumerate_1 _) (fun obj => F.args_object_init_2 obj _) F.entry_enumerate_new (meets_enumT l items) ⟨hL, ?_⟩
  have hz : (s.heap.push { cls := .type "tuple_iterator", data := .fields #[.ref l, .int 0 0] }).objs.size = s.heap.objs.size + 1 := Heap.size_push ..
  show _ ∧ _
  rw [hz]
  have he : IsEnum ((s.heap.push { cls := .type "tuple_iterator", data := .fields #[.ref l, .int 0 0] }).push
      { cls := .type "enumerate", data := .fields #[.none, .bool false, .ref s.heap.objs.size, rawInt 0, .none, .none] }) (s.heap.objs.size + 1) s.heap.objs.size 0 .none := by
    have z := Heap.get?_push_size (s.heap.push { cls := .type "tuple_iterator", data := .fields #[.ref l, .int 0 0] })
      (o := { cls := .type "enumerate", data := .fields #[.none, .bool false, .ref s.heap.objs.size, rawInt 0, .none, .none] }) rfl
    rw [hz] at z; exact z
  exact ⟨⟨_, he, rfl⟩, h _ he ⟨_, Heap.get?_push_of_some _ (Heap.get?_push_size _ rfl), rfl, rfl⟩ (by rw [Heap.size_push, hz]) fun b o x => Heap.get?_push_of_some _ (Heap.get?_push_of_some _ x)⟩
theorem enumT_end {prog : Program} {w : World} {A : Around} {E : Value → Shared → Prop} {s : Shared} {e it l : Addr} {items : Array Value} {i : Nat} {old : Value} {Q : Option Value → Shared → Prop} (hh : A.handled = none)
    (he : IsEnum s.heap e it i old) (hit : s.heap.IsTupleIter it l i) (hl : s.heap.IsTuple l items) (hx : items[i]? = none)
    (hQ : ∀ h', Heap.ExtBut it s.heap h' → Q none { s with heap := h' }) : wpAny (model prog w) A (pyNext (.ref e)) Q E s := by
  have hT : s.TypeIs (.ref e) "enumerate" := ⟨_, he, rfl⟩
  unfold pyNext
  refine wpAny_bind (wpAny_attempt (wpAny_callSpecial?_slot (name := Str.ofString "__next__") hT F.slot_enumerate_next (wpAny_call_entry F.slot_enumerate_next hT F.entry_enumerate_next ?_ (F.args_enumerate_next_1 _))))
  show wpAny _ _ (field (.ref e) 2 >>= _) _ _ _
  refine wpAny_bind (wpAny_field he rfl (x := .ref it) rfl (wpAny_bind (wpAny_nextOf_tuple_end hh hit hl hx fun h' x z1 z2 => ?_)))
  obtain ⟨o, ho, hc⟩ := z2
  exact wpAny_bind (wpAny_isInstance (T := "StopIteration") (b := true) ⟨o, ho, hc⟩ isSubtype_stop (wpAny_pure (hQ _ z1)))
def IteT (K : PySem.W.Frag) (a : Addr) : It :=
  ⟨fun i H => ∃ (xs : List V) (x : V), SqT K H a xs ∧ xs[i]? = some x, fun i H v H' => ∃ T x, v = .ref T ∧ H T = none ∧ H' = upd H T (.tup [.int (i : Nat), x]) ∧ ∀ xs, SqT K H a xs → xs[i]? = some x, fun i H => ∃ xs : List V, SqT K H a xs ∧ xs.length ≤ i⟩
theorem turn_enumT {P : Program} {w : World} {K : PySem.W.Frag} {elts : List Expr} {kk : Nat} {tpos : Pos} (a e it : Addr) :
    Turn P w K (.Tuple elts kk tpos) (IteT K a) [e, it] e (fun i h => (∃ old, IsEnum h e it ((i : Nat) : Int) old) ∧ h.IsTupleIter it a i ∧ e ≠ it ∧ (e ≠ a ∧ a ≠ it)) where
  mem := by simp
  obj := fun i h st b hb => by
    obtain ⟨⟨old, he⟩, ⟨o, ho, hc, hd⟩, _⟩ := st
    have z : b = e ∨ b = it := by simpa using hb
    rcases z with z | z
    · rw [z]; exact ⟨_, he, fun v q => nomatch q⟩
    · rw [z]; exact ⟨o, ho, fun v q => by rw [hd] at q; cases q⟩
  keep := fun i h h' st k => let ⟨⟨old, he⟩, hi, hne⟩ := st; ⟨⟨old, k e (by simp) _ he⟩, hi.at fun o q => k it (by simp) o q, hne⟩
  item := by
    intro X hP hw hK hc i pins s σ H E I hf st hg
    subst hP hw hK
    obtain ⟨⟨old, he⟩, hit, hne, n1, n2⟩ := st
    obtain ⟨xs, x, hq, hx⟩ := hg
    obtain ⟨its, rv, p, hz⟩ := I.tuple hq
    obtain ⟨u, hu, ru⟩ := rv.get hx
    have hel : e < s.heap.objs.size := Heap.lt_size he
    have hil : it < s.heap.objs.size := by obtain ⟨_, q, _⟩ := hit; exact Heap.lt_size q
    have pT : s.heap.IsTuple a its.toArray := p
    have hlt : i < its.toArray.size := by
      rw [List.size_toArray]
      exact (List.getElem?_eq_some_iff.mp hu).1
    refine wpAny_pyNext_enum_itemD (Draws.tuple (A := X.A.in1) (I.ok.hd hc) it a n2 its.toArray) he ⟨hit, pT⟩ hlt hne (by simp; exact ⟨hne, n1⟩) fun v h' tk hv ho hst' hT hsz hk => ?_
    have ev : v = u := by
      have z : its.toArray[i]? = some v := hv
      rw [List.getElem?_toArray, hu] at z
      exact (Option.some.inj z).symm
    subst ev
    refine ⟨_, rfl, wpAny_letOwnedTupleGo_enum (s := { s with heap := h', toks := tk + 1 }) ho fun h'' he' sb => ?_⟩
    have hT2 : h''.get? s.heap.objs.size = some { cls := .type "tuple", data := .seq #[.int i tk, v] } := (sb.2 _ (Nat.ne_of_gt hel)).trans hT
    have new : ObjOk X.prog X.w (upd H s.heap.objs.size (.tup [.int (i : Nat), x])) h'' s.heap.objs.size (.tup [.int (i : Nat), x]) :=
      ⟨by show 2 ≤ sizeLine; decide, [.int i tk, v], .cons ⟨_, rfl⟩ (.cons ru .nil), ⟨_, hT2, rfl, _, rfl⟩⟩
    have I1 : Inv X pins σ (upd H s.heap.objs.size (.tup [.int (i : Nat), x])) { s with heap := h'', toks := tk + 1 } :=
      I.turnedNew (ch := [e, it]) (fun b ob hb q => (sb.2 b (fun z => hb (by simp [z]))).trans (hk b ob (fun z => hb (by simp [z])) (fun z => hb (by simp [z])) q)) hf (Nat.le_refl _) new
    refine ⟨.ref s.heap.objs.size, _, I1, rfl, ⟨_, x, rfl, I.hok.fresh (Nat.le_refl _), rfl, fun ys hy => by rw [I.tuple_inj hy hq]; exact hx⟩, ⟨⟨v, ?_⟩, hst'.1.at fun o q => (sb.2 it (Ne.symm hne)).trans q, hne, n1, n2⟩, fun b hb => ?_⟩
    · have z : ((i + 1 : Nat) : Int) = (i : Int) + 1 := by omega
      rw [z]; exact he'
    · have hb' : b < s.heap.objs.size := by
        have z : b = e ∨ b = it := by simpa using hb
        rcases z with z | z
        · rw [z]; exact hel
        · rw [z]; exact hil
      rw [upd_ne (Nat.ne_of_lt hb')]
      exact (hf b hb).1
  done := by
    intro X hP hw hK hc i pins s σ H E I hf st hg
    subst hP hw hK
    obtain ⟨⟨old, he⟩, hit, hne, n1, n2⟩ := st
    obtain ⟨xs, hq, hx⟩ := hg
    obtain ⟨its, rv, p, hz⟩ := I.tuple hq
    have pT : s.heap.IsTuple a its.toArray := p
    obtain ⟨f0, f1, f2, f3, f4, f5⟩ := hf it (by simp)
    have hl := rv.length
    exact enumT_end (I.ok.hd hc) he hit pT (by simp; omega) fun h' eb => ⟨rfl, I.turned (t' := s.toks) (fun b o hb q => eb b o hb q) f0 f1 f3 f4 f5⟩
  self := fun A i s Q E st h => let ⟨⟨_, he⟩, _⟩ := st; wpAny_pyIter_enum he h
def iEnumT (K : PySem.W.Frag) (ta : TA) : TI := fun σ H R => ta σ H fun vs H1 => ∃ a xs, vs = [.ref a] ∧ SqT K H1 a xs ∧ R (IteT K a) H1
theorem pi_enumT {X : Cx} {e : Expr} {ta : TA} {p pos tpos : Pos} {elts : List Expr} {kk : Nat} (hg : Gl X "enumerate") (hm : X.mg "enumerate" = none) (ha : PA X [e] ta) (hs : starEach [e] X.env = [(false, eval e X.env)] := by rfl) :
    PI X (.Tuple elts kk tpos) (.Call (.Name "enumerate" p) [e] [] pos) (fun σ H R => ta σ H fun vs H1 => ∃ a xs, vs = [.ref a] ∧ ((SqL X.K H1 a xs ∧ R (Ite X.K a) H1) ∨ (SqT X.K H1 a xs ∧ R (IteT X.K a) H1))) := by
  refine ⟨fun pins s σ H R I h => ?_⟩
  refine Call_ (ld_blt I hg hm boot_enumerate (PyProof.Rows.callWith_type1 (thn (ha.run pos pins s σ H _ I h) fun us s1 ⟨vs, H1, I1, r1, q1⟩ => ?_) hs rfl))
  obtain ⟨a, xs, rfl, q1⟩ := q1
  obtain ⟨u, rfl, ru⟩ := vals1 r1
  cases (show u = Value.ref a from ru)
  have own : ∀ b, b ∈ [s1.heap.objs.size + 1, s1.heap.objs.size] → s1.heap.objs.size ≤ b := fun b hb => by
    have z : b = s1.heap.objs.size + 1 ∨ b = s1.heap.objs.size := by simpa using hb
    rcases z with z | z
    · rw [z]; exact Nat.le_succ _
    · rw [z]; exact Nat.le_refl _
  rcases q1 with ⟨hq, q⟩ | ⟨hq, q⟩
  · obtain ⟨its, rv, p', hz⟩ := I1.list hq
    exact call_enumerate_list p'.isList fun h' he hit hsz hk => wpAny_pyIter_enum he ⟨s1.heap.objs.size + 1, [s1.heap.objs.size + 1, s1.heap.objs.size], _, _, H1, rfl, I1.kept (t' := s1.toks) hk, turn_enum a (s1.heap.objs.size + 1) s1.heap.objs.size, ⟨⟨.none, he⟩, hit, Nat.succ_ne_self _⟩, fun b hb => I1.fpOk (own b hb) (I1.hok.fresh (own b hb)), q⟩
  · obtain ⟨its, rv, p', hz⟩ := I1.tuple hq
    have pT : s1.heap.IsTuple a its.toArray := p'
    have al : a < s1.heap.objs.size := by obtain ⟨_, z, _⟩ := p'; exact Heap.lt_size z
    exact call_enumT pT fun h' he hit hsz hk => wpAny_pyIter_enum he ⟨s1.heap.objs.size + 1, [s1.heap.objs.size + 1, s1.heap.objs.size], _, _, H1, rfl, I1.kept (t' := s1.toks) hk, turn_enumT a (s1.heap.objs.size + 1) s1.heap.objs.size, ⟨⟨.none, he⟩, hit, Nat.succ_ne_self _, Nat.ne_of_gt (Nat.lt_succ_of_lt al), Nat.ne_of_lt al⟩, fun b hb => I1.fpOk (own b hb) (I1.hok.fresh (own b hb)), q⟩
section
variable {W : Wd} {S P : Addr → Prop} {H : Hp} {en : En} {σ : L2.St} {X : Cx}
theorem walks_enumT {a : Addr} {xs : List V} {ds : List D} (R : Rel W S P en σ H) (h : (S a ∧ H a = some (.tup xs)) ∨ Wr W a xs) (dl : DvL W S H xs ds) : Walks W S P H (IteT W.K a) (enumD ds) := by
  have hl : (enumD ds).length = ds.length := by simp [enumD]
  have at' : ∀ H2, (∀ b, P b → H2 b = H b) → SqT W.K H2 a xs := fun H2 q => by
    rcases h with ⟨s, h⟩ | (h | ⟨_, h⟩) | h
    · exact SqT.of ((q a (R.sp a s)).trans h)
    · cases h
    · cases h
    · exact .inr h
  refine ⟨fun i H2 q hi => ⟨xs, at' H2 q, by rw [dl.len]; omega⟩, fun i H2 q hi => ?_, fun i H2 x H3 q hi y => ?_⟩
  · have hi' : i < xs.length := by rw [dl.len]; omega
    exact ⟨xs, xs[i], at' H2 q, List.getElem?_eq_getElem hi'⟩
  · obtain ⟨T', x', rfl, hT, rfl, y⟩ := y
    obtain ⟨d, hd, dz⟩ := (dl.at (i := i)).1 x' (y xs (at' _ q))
    refine ⟨.tup [.int (i : Nat), d], ?_, .inr ⟨T', _, _, rfl, hT, rfl, rfl, .cons trivial (.int _) (.cons dz.1 (dz.2.mono (fun _ h => h) (fun b s => q b (R.sp b s)) (dz.1.mono fun b s => q b (R.sp b s))) .nil)⟩⟩
    unfold enumD
    rw [List.getElem?_map, List.getElem?_zipIdx, hd]
    simp
def iEnumU (rs : Runs) : RunI := fun en => (rs en).bind fun a => (T.ofOpt (match onlyV a.1 with
  | some [.lst ds] => some (enumD ds)
  | some [.tup ds] => some (enumD ds)
  | _ => none)).bind fun ds => .ret (ds, a.2)
theorem x_enumU {e : Expr} {ra : Run} {p pos tpos : Pos} {elts : List Expr} {kk : Nat} (hK : X.K = W.K) (hg : Gl X "enumerate") (hm : X.mg "enumerate" = none) (ha : PE X e (TV W ra)) (hs : starEach [e] X.env = (false, eval e X.env) :: starEach [] X.env) :
    PI X (.Tuple elts kk tpos) (.Call (.Name "enumerate" p) [e] [] pos) (TVI W (iEnumU (rCons ra rNil)) none) := by
  refine ⟨fun pins s σ H R I q => (pi_enumT hg hm (x_cons ha x_nil hs) hs).run pins s σ H R I ?_⟩
  rw [hK]
  obtain ⟨S, P, en, Rl, w⟩ := q
  refine TVs.use Rl w fun c vs H1 S1 P1 e1 R1 p1 q => ?_
  obtain ⟨ds, hds, q⟩ := T.wp_ofOpt ((T.wp_bind _ _ _).mp q)
  have go : ∀ J, Walks W S1 P1 H1 J ds → R J H1 := fun J wk => q J H1 S1 P1 P1 e1 R1 (fun _ h => h) (fun S3 P3 en3 σ3 H3 _ e3 R3 => ⟨P3, fun _ h => h, e3, R3⟩) (fun _ => rfl) wk
  split at hds
  · rename_i es hj
    cases hds
    cases p1.only hj with
    | cons t dv r =>
      cases r
      cases dv with
      | lst ha dl => exact ⟨_, _, rfl, .inl ⟨SqL.of ha, go _ (walks_enum R1 (R1.sp _ t) ha dl)⟩⟩
  · rename_i es hj
    cases hds
    cases p1.only hj with
    | cons t dv r =>
      cases r
      cases dv with
      | @tup _ xs _ ha dl =>
        refine ⟨_, xs, rfl, .inr ⟨?_, go _ (walks_enumT R1 ha dl)⟩⟩
        rcases ha with ⟨_, h⟩ | (h | ⟨_, h⟩) | h
        · exact SqT.of h
        · cases h
        · cases h
        · exact .inr h
  · cases hds
end
end Sx
set_option Elab.async false
set_option linter.all false
set_option maxRecDepth 100000
set_option maxHeartbeats 4000000
set_option autoImplicit false
namespace Sx
open PySem L2 PyProof.Rows
section
variable {W : Wd} {X : Cx} {k : Nat} {a b c e : Expr} {ra rb rc re : Run} {rs : Runs} {pos : Pos}
/-! short names -/
theorem e_inD (hr : Room k X.A) (ha : PE X a (TV W ra)) (hb : PE X b (TV W rb)) (hm : behindInMarks .In b = false := by rfl) : PE X (.Compare a [.In] [b] pos) (TV W (run2 ra rb (fInDG id))) := x_cmp (op_inD (hu_of hr)) (p_inD id) ha hb hm
theorem e_ninD (hr : Room k X.A) (ha : PE X a (TV W ra)) (hb : PE X b (TV W rb)) (hm : behindInMarks .NotIn b = false := by rfl) : PE X (.Compare a [.NotIn] [b] pos) (TV W (run2 ra rb (fInDG not))) := x_cmp (op_ninD (hu_of hr)) (p_inD not) ha hb hm
theorem t_inD (hr : Room k X.A) (ha : PE X a (TV W ra)) (hb : PE X b (TV W rb)) (hm : behindInMarks .In b = false := by rfl) : PT X (.Compare a [.In] [b] pos) (TVT W (toT (run2 ra rb (fInDG id)))) := t_cmp (op_inD (hu_of hr)) (p_inD id) ha hb hm
theorem t_ninD (hr : Room k X.A) (ha : PE X a (TV W ra)) (hb : PE X b (TV W rb)) (hm : behindInMarks .NotIn b = false := by rfl) : PT X (.Compare a [.NotIn] [b] pos) (TVT W (toT (run2 ra rb (fInDG not)))) := t_cmp (op_ninD (hu_of hr)) (p_inD not) ha hb hm
theorem e_ixD (hr : Room k X.A) (ha : PE X a (TV W ra)) (hb : PE X b (TV W rb)) (hs : PlainIx b := by exact fun _ _ => rfl) : PE X (.Subscript a b pos) (TV W (run2 ra rb fIxD)) :=
  pe_weak (pe_ix (ix_dict (hu_of hr)) ha hb hs) fun _ _ _ h => tv2 p_ixD h
theorem e_ltlt (hK : X.K = W.K) (hr : Room k X.A) (ha : PE X a (TV W ra)) (hb : PE X b (TV W rb)) (hc : PE X c (TV W rc)) (hm : lastMarks [.Lt, .Lt] [b, c] = false := by rfl) : PE X (.Compare a [.Lt, .Lt] [b, c] pos) (TV W (rChn fLt fLt ra rb rc)) :=
  pe_weak (pe_chain (op_ltP hr.units) (op_ltP hr.units) ha hb hc hm) fun _ _ _ h => by rw [hK]; exact tv_chn p_cmp p_cmp h
theorem t_ltlt (hK : X.K = W.K) (hr : Room k X.A) (ha : PE X a (TV W ra)) (hb : PE X b (TV W rb)) (hc : PE X c (TV W rc)) (hm : lastMarks [.Lt, .Lt] [b, c] = false := by rfl) : PT X (.Compare a [.Lt, .Lt] [b, c] pos) (TVT W (toT (rChn fLt fLt ra rb rc))) :=
  pt_weak (pt_chain (op_ltP hr.units) (op_ltP hr.units) ha hb hc hm) fun _ _ _ h => by rw [hK]; exact tv_chn p_cmp p_cmp (tvt_tB h)
/-! own ==, isinstance of an own class -/
theorem tv_eqU {c0 n : Nat} {f : Addr} {fd : FuncData} {ps : List Str} {fn : Fn} {cls : CT} {σ : L2.St} {H : Hp} {Q : VK} (hcl : W.cls = cls) (h : TV W (rEqU c0 fn ra rb) σ H Q) :
    TV W ra σ H fun x H1 => TV W rb σ H1 fun y H2 => (rEqI (cls c0) (spR W.K cls 2 fn) x y H2 Q ∨ rDD W.K (fun p _ => p.depth ≤ 60) PyData.eqv x y H2 Q) := by
  obtain ⟨S, P, en, R, w⟩ := h
  refine TV.use R w fun c v H1 S1 P1 e1 R1 p1 q => ?_
  refine TV.use R1 q fun c2 u H2 S2 P2 e2 R2 p2 q2 => ?_
  have p1 := p1.ext R1 e2
  by_cases hobj : ∃ i fs j gs, c.1.fz = .v (.obj i fs) ∧ c2.1.fz = .v (.obj j gs)
  · obtain ⟨i, fs, j, gs, h1, h2⟩ := hobj
    rw [h1] at p1
    rw [h2] at p2
    have q2 : ((match c.1.fz, c2.1.fz with
      | .v (.obj c fs), .v (.obj c' gs) => if c = c0 ∧ c' = c0 then (fn [.obj c fs, .obj c' gs]).bind fun r => (match r.2 with
          | .bl k => T.ret (Op.v (.bl k), c2.2)
          | _ => .fail) else .fail
      | _, _ => ret1 ((frc c2.2 c.1.fz).bind fun x => (frc c2.2 c2.1.fz).bind fun y => fEq x y) c2.2) : T (Op × En)).wp _ := q2
    rw [h1, h2] at q2
    have q5 : (if i = c0 ∧ j = c0 then _ else _ : T (Op × En)).wp _ := q2
    clear q2
    by_cases hc : i = c0 ∧ j = c0
    · rw [if_pos hc] at q5
      obtain ⟨rfl, rfl⟩ := hc
      subst hcl
      obtain ⟨a, dx, fv, rfl, ha, dp⟩ := p1.2.obj_at
      obtain ⟨b, dy, gv, rfl, hb, dq⟩ := p2.2.obj_at
      refine .inl ⟨a, b, dx, dy, fv, gv, rfl, rfl, ha, hb, rfl, W, S2, [.obj j fs, .obj j gs], rfl, rfl, R2.dr, R2.tb, R2.dom, fun w => R2.drP.1 (R2.sp _ w), R2.drP.2.sub R2.sp, .cons p1.1 p1.2 (.cons p2.1 p2.2 .nil), T.wp_mono ((T.wp_bind _ _ _).mp q5) fun r q v H' S' P' e ro ok => ?_⟩
      obtain ⟨e5, R5, ok5⟩ := R2.call e ro ok
      obtain ⟨fl, d⟩ := r
      cases d with
      | bl k =>
        have dv := ok.1
        cases dv
        exact ⟨⟨k, rfl⟩, q _ H' S' _ (e1.trans (e2.trans e5)) R5 ⟨trivial, .bl k⟩⟩
      | _ => exact q.elim
    · rw [if_neg hc] at q5
      exact q5.elim
  · have q3 : ((match c.1.fz, c2.1.fz with
      | .v (.obj c fs), .v (.obj c' gs) => if c = c0 ∧ c' = c0 then (fn [.obj c fs, .obj c' gs]).bind fun r => (match r.2 with
          | .bl k => T.ret (Op.v (.bl k), c2.2)
          | _ => .fail) else .fail
      | _, _ => ret1 ((frc c2.2 c.1.fz).bind fun x => (frc c2.2 c2.1.fz).bind fun y => fEq x y) c2.2) : T (Op × En)).wp _ := q2
    split at q3
    · rename_i i fs j gs h1 h2
      exact absurd ⟨i, fs, j, gs, h1, h2⟩ hobj
    · obtain ⟨z, ez, qz⟩ := wp_ret1 q3
      obtain ⟨x, ex, ez⟩ := Option.bind_eq_some_iff.mp ez
      obtain ⟨y, ey, fx⟩ := Option.bind_eq_some_iff.mp ez
      exact .inr (p_eq S2 H2 v u x y z Q R2.dom (p1.now R2 ex) (p2.now R2 ey) fx (R2.res fun v' H' S' P' e' R' ok => qz v' H' S' P' (e1.trans (e2.trans e')) R' ok))
theorem e_eqU {c0 : Nat} {f : Addr} {fd : FuncData} {ps : List Str} {fn : Fn} {cls : CT} (F : FnG X.prog X.w X.K X.mg X.base CX0 k f fd ps (spR X.K cls 2 fn)) (hs : PySem.W.findIn X.K (.ref (cls c0)) "__eq__" = some (some (.ref f))) (hf : PySem.W.isFn X.K (.ref f) = true) (hcl : W.cls = cls) (hK : X.K = W.K) (hr : Room k X.A) (hg : NoG X.A) (hb : Binds X.K fd ps [])
    (ha : PE X a (TV W ra)) (hbb : PE X b (TV W rb)) (hm : behindInMarks .Eq b = false := by rfl) : PE X (.Compare a [.Eq] [b] pos) (TV W (rEqU c0 fn ra rb)) :=
  pe_weak (pe_cmpR ((op_eqI hs hf F hr hg hb).or (op_eqP hr.units)) ha hbb hm) fun _ _ _ h => by rw [hK]; exact tv_eqU (n := 0) (f := f) (fd := fd) (ps := ps) hcl h
theorem e_isC {c0 : Nat} {p : Pos} (c : C8.InsC X.K (W.cls c0)) (hm : X.mg "isinstance" = none) (hv : bootBuiltins "isinstance" = some (.builtin "isinstance")) (ha : PA X [a, b] (TVs W rs)) (hg : Gl X "isinstance" := by rfl)
    (he : starEach [a, b] X.env = (false, eval a X.env) :: starEach [b] X.env := by rfl) (hpl : (backTo pos (starEach [b] X.env)).any (·.1) = false := by rfl) : PE X (.Call (.Name "isinstance" p) [a, b] [] pos) (TV W (runN rs (fIsC c0))) :=
  e_blt (C8.call_isC c) (p_isC c0) hm hv ha hg (by decide) (by decide) he hpl
end
section
variable {W : Wd} {S P : Addr → Prop} {H : Hp} {X : Cx} {k : Nat}
instance {l : List (Run × Run)} [h : ShRuns (prRuns l)] : ShRun (rDsp l) := ⟨fun en => all_seq (h.sh en) fun _ => all_ret1⟩
instance : ShRuns (prRuns []) := ⟨fun en => LkSub.refl _⟩
instance {a b : Run} {l : List (Run × Run)} [h1 : ShRun a] [h2 : ShRun b] [h : ShRuns (prRuns l)] : ShRuns (prRuns ((a, b) :: l)) := ⟨(inferInstance : ShRuns (rCons a (rCons b (prRuns l)))).sh⟩
instance {c0 : Nat} {f : Fn} {ra rb : Run} [h : ShRun ra] [g : ShRun rb] : ShRun (rEqU c0 f ra rb) := ⟨fun en => all_seq (h.sh en) fun a => all_seq (g.sh _) fun b => by
  split
  · split
    · refine T.all_bind (T.all_triv fun r => ?_)
      split
      · exact LkSub.refl _
      · trivial
    · trivial
  · exact all_ret1⟩
/-! tuple * int, the int at least 1 -/
theorem tuple_mul1 (l : Addr) (items : Array Value) (n : Nat) (dd : Option Addr) (sl : Array (Option Value)) (u : Tok) :
    Meets (Builtin.«tuple.__mul__» ⟨[.ref l, .int 1 u], []⟩) (fun _ R s => s.heap.get? l = some { cls := .type "tuple", dict := dd, data := .seq items n, slots := sl } ∧ R (.ok (.ret (Value.ref l))) s) :=
  .of_wp fun prog w A R s h => by
    obtain ⟨hp, g, d, tk, os⟩ := s
    obtain ⟨hl, h⟩ := h
    have f1 := AutoSeq1.idx_int
    wp_walk using wpAny_loadPart' hl
    exact ⟨_, rfl, h⟩
def rRepU (K : PySem.W.Frag) : R2 := fun x y H Q => (∃ l xs, x = .ref l ∧ y = .int 1 ∧ SqT K H l xs ∧ Q (.ref l) H) ∨ rRepT K x y H Q
theorem op_repU : OpR X (binaryOp .Mult) (rRepU X.K) := by
  intro pins s σ H x y v u Q I rx ry h
  rcases h with ⟨l, xs, rfl, rfl, hT, q⟩ | h
  · cases (show v = Value.ref l from rx)
    obtain ⟨t, rfl⟩ := ry
    obtain ⟨its, r, ⟨⟨cls, dd, data, sl⟩, ho, hc, n, hd⟩, hs⟩ := I.tuple hT
    simp only at hc hd
    subst hc hd
    exact wpAny_binaryOp_repeat_ref (T := "tuple") (U := "int") (by decide) ⟨_, ho, rfl⟩ (fun s' => typeIs_int s' 1 t) noFill_tuple_mul F.fills_int_mul F.slot_int_rmul repeat_tuple F.slot_int_index.lookup (call_meets F.slot_int_rmul (typeIs_int s 1 t) F.entry_int_rmul (F.args_int_rmul_2 _ _)
      (int_rmul_tuple 1 t l its.toArray n dd sl) ⟨ho, rfl, ⟨_, ho, rfl⟩, call_meets F.slot_tuple_mul ⟨_, ho, rfl⟩ F.entry_tuple_mul (F.args_tuple_mul_2 _ _) (tuple_mul1 l its.toArray n dd sl t) ⟨ho, .ref l, H, I, rfl, q⟩⟩)
  · exact op_repT pins s σ H x y v u Q I rx ry h
def fRepT (x y : D) : Option (Bool × D) := match x, y with
  | .tup ds, .int i => if i = 1 then some0 (.tup ds) else if 2 ≤ i ∧ i ≤ 1000 ∧ ds ≠ [] ∧ ds.length ≤ 1000 then some0 (.tup (List.replicate i.toNat ds).flatten) else none
  | _, _ => none
theorem DvL.append {xs ys : List V} {ds es : List D} (h : DvL W S H xs ds) (g : DvL W S H ys es) : DvL W S H (xs ++ ys) (ds ++ es) := by
  induction ds generalizing xs with
  | nil => cases h; exact g
  | cons d ds ih => cases h with | cons t dv r => exact .cons t dv (ih r)
theorem DvL.rep {xs : List V} {ds : List D} (h : DvL W S H xs ds) : ∀ n, DvL W S H (List.replicate n xs).flatten (List.replicate n ds).flatten
  | 0 => .nil
  | n + 1 => h.append (DvL.rep h n)
theorem p_repT : Pure2 W (rRepU W.K) fRepT := by
  intro S H x y d e c Q hd hx hy h r
  unfold fRepT at h
  split at h
  · rename_i ds i
    cases hy
    cases hx with
    | @tup a xs _ ha dl =>
      have sq : SqT W.K H a xs := by
        rcases ha with ⟨_, ha⟩ | ha
        · exact SqT.of ha
        · exact ha.to
      split at h
      · rename_i hi
        cases h
        subst hi
        refine .inl ⟨a, xs, rfl, rfl, sq, r (.ref a) H S (fun _ _ e => e) (fun _ h => h) (fun _ h => .inl h) hd (.tup ha dl) (fun _ => trivial) fun z => by cases z⟩
      · split at h
        · rename_i hi
          cases h
          obtain ⟨h1, h2, h3, h4⟩ := hi
          refine .inr ⟨a, i, xs, rfl, rfl, sq, (fun z => h3 (by subst z; cases dl; rfl)), h1, h2, by rw [dl.len]; exact h4, PRes.tup hd (DvL.rep dl i.toNat) r⟩
        · cases h
  · cases h
theorem e_rep {a b : Expr} {ra rb : Run} {pos : Pos} (hK : X.K = W.K) (ha : PE X a (TV W ra)) (hb : PE X b (TV W rb)) : PE X (.BinOp a .Mult b pos) (TV W (run2 ra rb fRepT)) := x_bin (by rw [← hK]; exact op_repU) p_repT ha hb
end
end Sx
set_option Elab.async false
set_option linter.all false
set_option maxRecDepth 100000
set_option maxHeartbeats 4000000
set_option autoImplicit false
namespace Sx
open PySem L2
/-! ### walks over dicts, displays: short names -/
section
variable {W : Wd} {X : Cx} {pos : Pos} {td : TE} {pa : St → Hp → Option Addr} {pth : Pth}
class ShPth (pth : Pth) : Prop where
  sh : ∀ en en1 kvs, pth en = some (en1, kvs) → LkSub en1 en
instance (i : Nat) : ShPth (pthV i) := ⟨fun en en1 kvs h => by
  unfold pthV at h
  split at h
  · cases h; exact LkSub.refl _
  · cases h; exact (LkSub.set (s := some (.fz, _)) (by intro d h; cases h)).trans (LkSub.set (s := none) (by intro d h; cases h))
  · cases h⟩
instance (i c0 : Nat) (f : Str) : ShPth (pthF i c0 f) := ⟨fun en en1 kvs h => by
  unfold pthF at h
  split at h
  · obtain ⟨fs, _, h⟩ := Option.bind_eq_some_iff.mp h
    split at h
    · cases h; exact LkSub.refl _
    · cases h
  · cases h⟩
instance [h : ShPth pth] : ShIt (iKy pth) none := ⟨fun en => T.all_bind (T.all_ofOpt fun r hr => fun en2 g => g.trans (h.sh en r.1 r.2 hr))⟩
instance {run : Run} [h : ShPth pth] [g : ShRun run] : ShRun (rLkd pth run) := ⟨fun en => T.all_bind (T.all_ofOpt fun r hr => T.all_mono (g.sh r.1) fun b hb => hb.trans (h.sh en r.1 r.2 hr))⟩
theorem e_lcD {tg iter elt : Expr} {ifs : List Expr} {scope : Scope} {g : TG} {t : Tg} {is : List Nat} {rt : RunT} {re : Run} [h1 : ShTg t is] [h2 : ShTst rt] [h3 : ShRun re] (own : List (Str × Nat)) (hNd : X.N.Nodup) (bo : BlkOk X.N X.env.scope scope own) (ok : PathOk W td pa pth) (hi : PE X iter td)
    (hg : ∀ (s : Shared) (H : Hp) (C : Addr) (cl : List (Str × Addr)) (fp : List Addr), PG (X.blk s H scope (compEnvC scope cl C X.env) fp) tg g) (gk : GOk W g t is)
    (ht : ∀ (s : Shared) (H : Hp) (C : Addr) (cl : List (Str × Addr)) (fp : List Addr), PTs (X.blk s H scope (compEnvC scope cl C X.env) fp) ifs (TVT W rt))
    (he : ∀ (s : Shared) (H : Hp) (C : Addr) (cl : List (Str × Addr)) (fp : List Addr), PE (X.blk s H scope (compEnvC scope cl C X.env) fp) elt (TV W re)) (his : ∀ i ∈ is, i ∈ own.map (·.2) := by decide) (hc : X.calm = true := by rfl) (hs : ∀ x, foldedSetIterable iter X.env x = pure x := by intro _; rfl) :
    PE X (.ListComp elt [⟨tg, iter, ifs, 0⟩] scope pos) (TV W (rLkd pth (rLc (iKy pth) none t rt re (own.map (·.2))))) :=
  lk_e ok (pe_lc hc hNd (pi_keys hi) bo hg ht he hs) fun σ H Q hl h => tvi_keys ok hl (tv_lc gk h1.sh his h2.sh h3.sh sz4096 h)
theorem e_dcD {tg iter kx vx : Expr} {ifs : List Expr} {scope : Scope} {g : TG} {t : Tg} {is : List Nat} {rt : RunT} {rk re : Run} [h1 : ShTg t is] [h2 : ShTst rt] [h0 : ShRun rk] [h3 : ShRun re] (own : List (Str × Nat)) (hNd : X.N.Nodup) (bo : BlkOk X.N X.env.scope scope own) (ok : PathOk W td pa pth) (hi : PE X iter td)
    (hg : ∀ (s : Shared) (H : Hp) (C : Addr) (cl : List (Str × Addr)) (fp : List Addr), PG (X.blk s H scope (compEnvC scope cl C X.env) fp) tg g) (gk : GOk W g t is)
    (ht : ∀ (s : Shared) (H : Hp) (C : Addr) (cl : List (Str × Addr)) (fp : List Addr), PTs (X.blk s H scope (compEnvC scope cl C X.env) fp) ifs (TVT W rt))
    (hk : ∀ (s : Shared) (H : Hp) (C : Addr) (cl : List (Str × Addr)) (fp : List Addr), PE (X.blk s H scope (compEnvC scope cl C X.env) fp) kx (TV W rk))
    (he : ∀ (s : Shared) (H : Hp) (C : Addr) (cl : List (Str × Addr)) (fp : List Addr), PE (X.blk s H scope (compEnvC scope cl C X.env) fp) vx (TV W re)) (his : ∀ i ∈ is, i ∈ own.map (·.2) := by decide) (hc : X.calm = true := by rfl) (hs : ∀ x, foldedSetIterable iter X.env x = pure x := by intro _; rfl) :
    PE X (.DictComp kx vx [⟨tg, iter, ifs, 0⟩] scope pos) (TV W (rLkd pth (rDc (iKy pth) none t rt rk re (own.map (·.2))))) :=
  lk_e ok (pe_dc hc hNd (pi_keys hi) bo hg ht hk he hs) fun σ H Q hl h => tvi_keys ok hl (tv_dc gk h1.sh his h2.sh h0.sh h3.sh sz4096 h)
theorem dcl_sub {t : Tg} {is : List Nat} {rt : RunT} {rk re : Run} {vs : List Nat} [h : ShTg t is] [h1 : ShTst rt] [h0 : ShRun rk] [h2 : ShRun re] : ∀ (ds : List D) (en : En) (acc : List (Key × D)), (rDcL t rt rk re vs ds en acc).all fun r => LkSub r.2 en
  | [], en, acc => LkSub.refl _
  | d :: ds, en, acc => T.all_bind (T.all_ofOpt fun en1 he => T.all_bind (T.all_mono (h1.sh en1) fun b hb => by
      have z := (h.sh d en en1 he).1
      split
      · exact T.all_bind (T.all_mono (h0.sh b.2) fun k hk => T.all_bind (T.all_ofOpt fun kk _ => T.all_bind (T.all_mono (h2.sh k.2) fun o ho => T.all_bind (T.all_ofOpt fun y _ => T.all_mono (dcl_sub ds (wip o.2 vs) _) fun r hr => hr.trans ((wip_sub vs).trans (ho.trans (hk.trans (hb.trans z))))))))
      · exact T.all_mono (dcl_sub ds (wip b.2 vs) _) fun r hr => hr.trans ((wip_sub vs).trans (hb.trans z))))
instance {ri : RunI} {l : Option Nat} {t : Tg} {is : List Nat} {rt : RunT} {rk re : Run} {vs : List Nat} [h0 : ShIt ri l] [h : ShTg t is] [h1 : ShTst rt] [hk : ShRun rk] [h2 : ShRun re] : ShRun (rDc ri l t rt rk re vs) := ⟨fun en => T.all_bind (T.all_mono (h0.sh en) fun a ha => by
  split
  · exact T.all_bind (T.all_mono (dcl_sub (is := is) a.1 (wip a.2 vs) []) fun r hr => ha _ ((back_sub vs).trans (hr.trans (wip_sub vs))))
  · trivial)⟩
/-! dict displays -/
theorem pp_cons {k v : Expr} {ks : List (Option Expr)} {vs : List Expr} {rk rv : Run} {l : List (Run × Run)} (hk : PE X k (TV W rk)) (hv : PE X v (TV W rv)) (hr : PPs X pos ks vs (l.map fun p => (TV W p.1, TV W p.2))) : PPs X pos (some k :: ks) (v :: vs) (((rk, rv) :: l).map fun p => (TV W p.1, TV W p.2)) := pps_cons hk hv hr
theorem e_disp {keys : List (Option Expr)} {values : List Expr} (l : List (Run × Run)) [hs : ShRuns (prRuns l)] (h : PPs X pos keys values (l.map fun p => (TV W p.1, TV W p.2))) (h1 : keys.all (·.isSome) = true := by rfl) (h2 : keys.length = values.length := by rfl) (h3 : keys ≠ [] := by simp) (h4 : keys.length ≤ 15 := by decide) :
    PE X (.Dict keys values pos) (TV W (rDsp l)) := pe_weak (pe_disp h h1 h2 h3 h4) fun σ H Q q => tv_disp l hs.sh q
end
end Sx
set_option Elab.async false
set_option linter.all false
set_option maxRecDepth 100000
set_option maxHeartbeats 4000000
set_option autoImplicit false
namespace Sx
open PySem L2 PyProof.Rows
/-! ### == of two dicts with plain values -/
def valP (ls : List (Key × PyData)) (k : Key) : Option PyData := (ls.find? fun kv => decide (kv.1 = k)).map (·.2)
def hitB (ls : List (Key × PyData)) (p : Key × PyData) : Bool := match valP ls p.1 with
  | some q => PyData.eqv p.2 q
  | none => false
def eqDK (ks ls : List (Key × PyData)) : Bool := ks.length == ls.length && ks.all (hitB ls)
def DpP (K : PySem.W.Frag) (H : Hp) : List (Key × V) → List (Key × PyData) → Prop := Paired fun x p => x.1 = p.1 ∧ Dp K H x.2 p.2
theorem DpP.val {K : PySem.W.Frag} {H : Hp} {ls : List (Key × V)} {qs : List (Key × PyData)} (h : DpP K H ls qs) (k : Key) : (valV ls k = none ∧ valP qs k = none) ∨ ∃ v q, valV ls k = some v ∧ valP qs k = some q ∧ Dp K H v q := by
  unfold DpP at h
  induction h with
  | nil => exact .inl ⟨rfl, rfl⟩
  | @cons x p xs ps hh _ ih =>
    obtain ⟨h1, h2⟩ := hh
    by_cases e : x.1 = k
    · have e2 : p.1 = k := h1 ▸ e
      refine .inr ⟨x.2, p.2, valV_pos e, ?_, h2⟩
      simp [valP, List.find?_cons, e2]
    · have e2 : ¬ p.1 = k := h1 ▸ e
      have z : valP (p :: ps) k = valP ps k := by simp [valP, List.find?_cons, e2]
      rw [valV_neg e, z]
      exact ih
section
variable {X : Cx} {pins : List (Addr × Obj)} {σ : L2.St} {H : Hp} {s : Shared}
theorem hits_all (I : Inv X pins σ H s) {A : Around} (hu : A.units + 60 < cLine) {ls : List (Key × V)} {vb : List (Key × Value)} {qs : List (Key × PyData)} (rb : KV ls vb) (dq : DpP X.K H ls qs) {ks : List (Key × V)} {va : List (Key × Value)} (ra : KV ks va) :
    ∀ {ps : List (Key × PyData)}, DpP X.K H ks ps → (∀ p ∈ ps, p.2.depth ≤ 60) → PySem.W.KeqHitsP X.prog X.w A s vb va (ps.all (hitB qs)) := by
  unfold KV at ra
  induction ra with
  | nil =>
    intro ps dp _
    cases dp
    exact .nil
  | @cons x u xs us h t k =>
    intro ps dp hd
    obtain ⟨key, v⟩ := u
    obtain ⟨h1, h2⟩ := h
    cases dp with
    | @cons _ p _ ps hp hr =>
      obtain ⟨e1, e2⟩ := hp
      have ih := k hr fun p hm => hd p (List.mem_cons_of_mem _ hm)
      have hk : p.1 = key := e1.symm.trans h1
      rw [List.all_cons]
      rcases dq.val p.1 with ⟨n1, n2⟩ | ⟨y, q, y1, y2, y3⟩
      · have : hitB qs p = false := by unfold hitB; rw [n2]
        rw [this, Bool.false_and]
        refine .miss ?_
        have z := rb.val key
        rw [← hk, n1] at z
        rw [← hk]
        cases e : valueAt vb p.1 with
        | none => rfl
        | some w => rw [e] at z; exact z.elim
      · have : hitB qs p = PyData.eqv p.2 q := by unfold hitB; rw [y2]
        rw [this]
        have z := rb.val key
        rw [← hk, y1] at z
        obtain ⟨w, hw, rw'⟩ := z.some_of
        rw [hk] at hw
        obtain ⟨as, r1⟩ := Dp.reads I p.2 x.2 v e2 h2
        obtain ⟨bs, r2⟩ := Dp.reads I q y w y3 rw'
        have dpp := hd p List.mem_cons_self
        exact .hit hw (SeqAt.EqAt.eqP (SeqAt.eqAt_plain p.2 q A s v w as bs r1 r2 (dp_plain e2) (dp_plain y3) (by omega))) ih
def rEqDD (K : PySem.W.Frag) (g : Bool → Bool) : R2 := fun x y H Q => ∃ a b ks ls ps qs, x = .ref a ∧ y = .ref b ∧ Rd H a (.dK ks) ∧ Rd H b (.dK ls) ∧ DpP K H ks ps ∧ DpP K H ls qs ∧ (∀ p ∈ ps, p.2.depth ≤ 60) ∧ Q (.bl (g (eqDK ps qs))) H
theorem paired_len {α β : Type} {R : α → β → Prop} : ∀ {xs : List α} {ys : List β}, Paired R xs ys → xs.length = ys.length
  | _, _, .nil => rfl
  | _, _, .cons _ r => congrArg Nat.succ (paired_len r)
theorem op_eqDD (hu : X.A.units + 64 < cLine) : OpR X (compareOp .Eq) (rEqDD X.K id) := by
  intro pins s σ H x y v u Q I rx ry h
  obtain ⟨a, b, ks, ls, ps, qs, rfl, rfl, ha, hb, dp, dq, hd, q⟩ := h
  cases (show v = Value.ref a from rx)
  cases (show u = Value.ref b from ry)
  obtain ⟨_, ya, va, ra, da⟩ := dk_rd I.hok ha
  obtain ⟨_, yb, vb, rb, db⟩ := dk_rd I.hok hb
  show wpAny (model X.prog X.w) X.A (richCompare .Eq (.ref a) (.ref b)) (EP X pins σ Q) X.xe s
  refine PySem.W.rcP_dicts (knd := mixKind X.prog X.w) (r := ps.all (hitB qs)) ya yb da db (by omega) (fun _ => hits_all I (by show X.A.units + 1 + 60 < cLine; omega) rb dq ra dp hd) _ _ ?_
  have e1 : va.length = ps.length := by rw [← ra.length]; exact paired_len dp
  have e2 : vb.length = qs.length := by rw [← rb.length]; exact paired_len dq
  rw [e1, e2]
  exact ⟨.bl _, H, I, rfl, q⟩
end
def pyK : List (Key × D) → Option (List (Key × PyData))
  | [] => some []
  | (k, d) :: r => (py d).bind fun p => (pyK r).bind fun ps => some ((k, p) :: ps)
def fEqDD (x y : D) : Option (Bool × D) := match x, y with
  | .dK ds, .dK es => (pyK ds).bind fun ps => (pyK es).bind fun qs => if ps.all fun p => decide (p.2.depth ≤ 60) then some0 (.bl (eqDK ps qs)) else none
  | _, _ => none
section
variable {W : Wd} {S : Addr → Prop} {H : Hp}
theorem pyK_dp : ∀ {vs : List (Key × V)} {ds : List (Key × D)} {ps : List (Key × PyData)}, DvP W S H vs ds → pyK ds = some ps → DpP W.K H vs ps
  | [], _, ps, h, e => by cases h; cases e; exact .nil
  | (k, v) :: vs, _, ps, h, e => by
    cases h with
    | cons t dv r =>
      obtain ⟨p, e1, e⟩ := Option.bind_eq_some_iff.mp e
      obtain ⟨qs, e2, e⟩ := Option.bind_eq_some_iff.mp e
      cases e
      exact .cons ⟨rfl, dv.dp e1⟩ (pyK_dp r e2)
theorem p_eqDD : Pure2 W (rEqDD W.K id) fEqDD := by
  intro S H x y d e c Q hd hx hy h r
  unfold fEqDD at h
  split at h
  · obtain ⟨ps, qs, e1, e2, h⟩ := bind2 h
    split at h
    · rename_i hc
      cases h
      obtain ⟨a, vs, rfl, ha, dp⟩ := hx.dK_at
      obtain ⟨b, ws, rfl, hb, dq⟩ := hy.dK_at
      exact ⟨a, b, vs, ws, ps, qs, rfl, rfl, ha, hb, pyK_dp dp e1, pyK_dp dq e2, fun p hp => of_decide_eq_true (List.all_eq_true.mp hc p hp), r.bl hd⟩
    · cases h
  · cases h
theorem e_eqDD {X : Cx} {k : Nat} {a b : Expr} {ra rb : Run} {pos : Pos} (hK : X.K = W.K) (hr : Room k X.A) (ha : PE X a (TV W ra)) (hb : PE X b (TV W rb)) (hm : behindInMarks .Eq b = false := by rfl) : PE X (.Compare a [.Eq] [b] pos) (TV W (run2 ra rb fEqDD)) := x_cmp (by rw [← hK]; exact op_eqDD hr.units) p_eqDD ha hb hm
end
section
variable {W : Wd} {X : Cx} {k : Nat} {a b : Expr} {ra rb : Run} {pos : Pos}
theorem t_eqU {c0 : Nat} {f : Addr} {fd : FuncData} {ps : List Str} {fn : Fn} {cls : CT} (F : FnG X.prog X.w X.K X.mg X.base CX0 k f fd ps (spR X.K cls 2 fn)) (hs : PySem.W.findIn X.K (.ref (cls c0)) "__eq__" = some (some (.ref f))) (hf : PySem.W.isFn X.K (.ref f) = true) (hcl : W.cls = cls) (hK : X.K = W.K) (hr : Room k X.A) (hg : NoG X.A) (hb : Binds X.K fd ps [])
    (ha : PE X a (TV W ra)) (hbb : PE X b (TV W rb)) (hm : behindInMarks .Eq b = false := by rfl) : PT X (.Compare a [.Eq] [b] pos) (TVT W (toT (rEqU c0 fn ra rb))) :=
  pt_weak (pt_cmpR ((op_eqI hs hf F hr hg hb).or (op_eqP hr.units)) ha hbb hm) fun _ _ _ h => by rw [hK]; exact tv_eqU (n := 0) (f := f) (fd := fd) (ps := ps) hcl (tvt_tB h)
end
end Sx
set_option Elab.async false
set_option linter.all false
set_option maxRecDepth 100000
set_option maxHeartbeats 4000000
set_option autoImplicit false
namespace Sx
open PySem L2
/-! three keywords, the last first -/
def sw210 {α : Type} (us ws : List α) : List α := match us, ws with
  | [], [a, b, c] => [c, b, a]
  | _, _ => []
theorem pm210 {W : Wd} : PermOk W 3 sw210 sw210 := by
  intro S H vs ds ws es h g
  cases h with
  | cons => exact .nil
  | nil =>
    match g with
    | .nil => exact .nil
    | .cons _ _ .nil => exact .nil
    | .cons _ _ (.cons _ _ .nil) => exact .nil
    | .cons t1 d1 (.cons t2 d2 (.cons t3 d3 .nil)) => exact .cons t3 d3 (.cons t2 d2 (.cons t1 d1 .nil))
    | .cons _ _ (.cons _ _ (.cons _ _ (.cons _ _ _))) => exact .nil
theorem q210_len {rs : Runs} (h : LenR rs 3) : ∀ en : En, (rs en).all fun b => ∀ ds, onlyV b.1 = some ds → (sw210 [] ds).length = 3 := fun en => T.all_mono (h en) fun a ha ds e => by
  have := (onlyV_len e).trans ha
  match ds, this with
  | [a, b, c], _ => rfl
section
variable {K : PySem.W.Frag}
theorem kb210 {x qual p1 p2 p3 : Str} {st : Stmt} {f : Addr} {fd : FuncData} (F : Fun K x qual st f fd)
    (h : ∀ (kV doc pm : Value) (an : Option Addr) (cdv ct a b c : Value), bindArgs (PySem.W.fnOf x qual (defArgs st) (defBody st) (defScope st) .none kV doc pm an cdv ct) ⟨[], [(p3, a), (p2, b), (p1, c)]⟩ = pure [(p1, c), (p2, b), (p3, a)]) : KBinds K fd [p1, p2, p3] [p3, p2, p1] sw210 sw210 := by
  obtain ⟨oc, od, kV, doc, pm, an, cdv, ct, osl, rfl, lk, hcd⟩ := F.ex
  refine ⟨fun s us ws kin hl => ?_, fun {vs us zs ws} r q => ?_⟩
  · match us, ws, hl with
    | [], [a, b, c], _ => exact .of_eq (h kV doc pm an cdv ct a b c)
  · cases r with
    | cons => exact .nil
    | nil =>
      match q with
      | .nil => exact .nil
      | .cons _ .nil => exact .nil
      | .cons _ (.cons _ .nil) => exact .nil
      | .cons t1 (.cons t2 (.cons t3 .nil)) => exact .cons t3 (.cons t2 (.cons t1 .nil))
      | .cons _ (.cons _ (.cons _ (.cons _ _))) => exact .nil
end
theorem kit_self {K : PySem.W.Frag} (a : Addr) : PySem.W.kitOne K (.ref a) (.ref a) = some true := by
  unfold PySem.W.kitOne
  rw [if_pos (show (Value.ref a == Value.ref a) = true from by simp)]
end Sx
set_option Elab.async false
set_option linter.all false
set_option maxRecDepth 100000
set_option maxHeartbeats 1000000
set_option autoImplicit false
namespace Sx
open PySem L2
/-! ### repr tells apart: texts of small letters, None, lists and tuples of such -/
def low (x : Str) : Bool := x.cps.toList.all fun c => decide (97 ≤ c) && decide (c ≤ 122)
mutual
def cl : PyData → Bool
  | .none => true
  | .str x => low x
  | .list xs => clL xs
  | .tuple xs => clL xs
  | _ => false
def clL : List PyData → Bool
  | [] => true
  | x :: xs => cl x && clL xs
end
def shw (p : PyData) : List Nat := p.shown.cps.toList
def tlc (c : Nat) : List PyData → List Nat
  | [] => [c]
  | p :: ps => 44 :: 32 :: (shw p ++ tlc c ps)
theorem cps_app (a b : Str) : (a ++ b).cps.toList = a.cps.toList ++ b.cps.toList := by
  show (a.cps ++ b.cps).toList = _
  exact Array.toList_append
theorem low_plain {x : Str} (h : low x = true) : ∀ c ∈ x.cps.toList, Builtin.Str.reprChar 39 c = [c] ∧ c ≠ 39 := fun c hc => by
  have := List.all_eq_true.mp h c hc
  rw [Bool.and_eq_true, decide_eq_true_eq, decide_eq_true_eq] at this
  have all : ∀ c ∈ List.range' 97 26, Builtin.Str.reprChar 39 c = [c] := by decide +kernel
  exact ⟨all c (by rw [List.mem_range']; exact ⟨c - 97, by omega, by omega⟩), by omega⟩
theorem shw_str {x : Str} (h : low x = true) : shw (.str x) = 39 :: (x.cps.toList ++ [39]) := by
  have pl := low_plain h
  have q : reprQuote x = 39 := by
    unfold reprQuote
    have : x.cps.contains 39 = false := by
      rw [Bool.eq_false_iff]
      intro z
      rw [Array.contains_iff_mem, ← Array.mem_toList_iff] at z
      exact (pl 39 z).2 rfl
    rw [this]
    rfl
  unfold shw
  rw [PyData.shown]
  unfold reprText
  rw [q]
  rw [Array.toList_push, ← Array.foldl_toList]
  have : ∀ (l : List Nat) (acc : Array Nat), (∀ c ∈ l, Builtin.Str.reprChar 39 c = [c]) → (l.foldl (fun out c => out ++ (Builtin.Str.reprChar 39 c).toArray) acc).toList = acc.toList ++ l := by
    intro l
    induction l with
    | nil => intro acc _; simp
    | cons c l ih =>
      intro acc hh
      rw [List.foldl_cons, ih _ fun d hd => hh d (List.mem_cons_of_mem _ hd), hh c List.mem_cons_self]
      simp
  rw [this _ _ fun c hc => (pl c hc).1]
  simp
theorem text_from : ∀ (ts : List PyData) (k : Nat) (acc : Str), 0 < k → (textFrom k acc (PyData.shownAll ts) ++ ("]" : Str)).cps.toList = acc.cps.toList ++ tlc 93 ts
  | [], k, acc, _ => by
    rw [PyData.shownAll, textFrom, cps_app]
    rfl
  | t :: ts, k, acc, h => by
    rw [PyData.shownAll, textFrom, text_from ts (k + 1) _ (by omega), if_pos h, cps_app, cps_app, tlc]
    show _ ++ [44, 32] ++ shw t ++ _ = _
    simp
theorem shw_list (ps : List PyData) : shw (.list ps) = 91 :: (match ps with | [] => [93] | p :: r => shw p ++ tlc 93 r) := by
  unfold shw
  rw [PyData.shown]
  unfold listText
  cases ps with
  | nil => rfl
  | cons p r =>
    rw [PyData.shownAll, textFrom, text_from r _ _ (by decide), cps_app, cps_app]
    rfl
theorem join_tl (c : Nat) : ∀ (p : PyData) (r : List PyData), (Str.join ", " (PyData.shownAll (p :: r))).cps.toList ++ [c] = shw p ++ tlc c r
  | p, [] => rfl
  | p, q :: r => by
    have ih := join_tl c q r
    have e : Str.join ", " (PyData.shownAll (p :: q :: r)) = p.shown ++ ", " ++ Str.join ", " (PyData.shownAll (q :: r)) := by
      rw [PyData.shownAll, PyData.shownAll]
      rfl
    rw [e, cps_app, cps_app, List.append_assoc, ih, tlc]
    show _ ++ [44, 32] ++ _ = _
    simp [shw]
theorem shw_tuple (ps : List PyData) : shw (.tuple ps) = 40 :: (match ps with | [] => [41] | [p] => shw p ++ [44, 41] | p :: q :: r => shw p ++ tlc 41 (q :: r)) := by
  match ps with
  | [] => rfl
  | [p] =>
    unfold shw
    rw [PyData.shown, PyData.shownAll, PyData.shownAll]
    unfold tupleText
    rw [cps_app, cps_app]
    rfl
  | p :: q :: r =>
    have e : shw (.tuple (p :: q :: r)) = 40 :: ((Str.join ", " (PyData.shownAll (p :: q :: r))).cps.toList ++ [41]) := by
      unfold shw
      rw [PyData.shown]
      unfold tupleText
      have l : ((PyData.shownAll (p :: q :: r)).length == 1) = false := by
        rw [PyData.shownAll, PyData.shownAll]
        rfl
      rw [cps_app, cps_app, l]
      rfl
    rw [e, join_tl]
theorem upto39 : ∀ {l m r r' : List Nat}, 39 ∉ l → 39 ∉ m → l ++ 39 :: r = m ++ 39 :: r' → l = m ∧ r = r'
  | [], [], _, _, _, _, h => ⟨rfl, (List.cons.inj h).2⟩
  | [], b :: m, _, _, _, hm, h => absurd (by rw [← (List.cons.inj h).1]; exact List.mem_cons_self) hm
  | a :: l, [], _, _, hl, _, h => absurd (by rw [(List.cons.inj h).1]; exact List.mem_cons_self) hl
  | a :: l, b :: m, _, _, hl, hm, h => by
    obtain ⟨e, h⟩ := List.cons.inj h
    obtain ⟨e2, h2⟩ := upto39 (fun z => hl (List.mem_cons_of_mem _ z)) (fun z => hm (List.mem_cons_of_mem _ z)) h
    exact ⟨by rw [e, e2], h2⟩
theorem shw_none : shw .none = [78, 111, 110, 101] := by
  unfold shw
  rw [PyData.shown]
  rfl
/-- the first sign -/
theorem shw_head {p : PyData} (h : cl p = true) : ∃ c r, shw p = c :: r ∧ c ≠ 93 ∧ c ≠ 41 ∧ c ≠ 44 := by
  cases p with
  | none => exact ⟨78, _, shw_none, by decide, by decide, by decide⟩
  | str x => exact ⟨39, _, shw_str h, by decide, by decide, by decide⟩
  | list xs => exact ⟨91, _, shw_list xs, by decide, by decide, by decide⟩
  | tuple xs => exact ⟨40, _, shw_tuple xs, by decide, by decide, by decide⟩
  | bool b => cases h
  | int i => cases h
  | dict kvs => cases h
theorem clL_cons {p : PyData} {ps : List PyData} (h : clL (p :: ps) = true) : cl p = true ∧ clL ps = true := by
  rw [clL, Bool.and_eq_true] at h
  exact h
mutual
theorem shw_inj : ∀ (p q : PyData) (r r' : List Nat), cl p = true → cl q = true → shw p ++ r = shw q ++ r' → p = q ∧ r = r'
  | .none, .none, r, r', _, _, h => ⟨rfl, List.append_cancel_left h⟩
  | .none, .str y, r, r', _, hq, h => by
    rw [shw_none, shw_str hq] at h
    cases h
  | .none, .list ys, r, r', _, _, h => by
    rw [shw_none, shw_list] at h
    cases h
  | .none, .tuple ys, r, r', _, _, h => by
    rw [shw_none, shw_tuple] at h
    cases h
  | .str x, .none, r, r', hp, _, h => by
    rw [shw_none, shw_str hp] at h
    cases h
  | .str x, .str y, r, r', hp, hq, h => by
    rw [shw_str hp, shw_str hq, List.cons_append, List.cons_append, List.append_assoc, List.append_assoc] at h
    obtain ⟨e, e2⟩ := upto39 (fun z => (low_plain hp 39 z).2 rfl) (fun z => (low_plain hq 39 z).2 rfl) (List.cons.inj h).2
    exact ⟨by rw [PySem.W.str_of_cps e], e2⟩
  | .str x, .list ys, r, r', hp, _, h => by
    rw [shw_str hp, shw_list] at h
    cases h
  | .str x, .tuple ys, r, r', hp, _, h => by
    rw [shw_str hp, shw_tuple] at h
    cases h
  | .list xs, .none, r, r', _, _, h => by
    rw [shw_none, shw_list] at h
    cases h
  | .list xs, .str y, r, r', _, hq, h => by
    rw [shw_list, shw_str hq] at h
    cases h
  | .list xs, .list ys, r, r', hp, hq, h => by
    rw [shw_list, shw_list, List.cons_append, List.cons_append] at h
    have h := (List.cons.inj h).2
    rw [cl] at hp hq
    match xs, ys, hp, hq, h with
    | [], [], _, _, h => exact ⟨rfl, (List.cons.inj h).2⟩
    | [], y :: ys, _, hq, h =>
      obtain ⟨c, t, e, n1, n2, n3⟩ := shw_head (clL_cons hq).1
      simp only [e] at h
      exact absurd (List.cons.inj h).1.symm n1
    | x :: xs, [], hp, _, h =>
      obtain ⟨c, t, e, n1, n2, n3⟩ := shw_head (clL_cons hp).1
      simp only [e] at h
      exact absurd (List.cons.inj h).1 n1
    | x :: xs, y :: ys, hp, hq, h =>
      simp only [List.append_assoc] at h
      obtain ⟨rfl, h2⟩ := shw_inj x y _ _ (clL_cons hp).1 (clL_cons hq).1 h
      obtain ⟨rfl, h3⟩ := tl_inj xs ys 93 _ _ (by decide) (clL_cons hp).2 (clL_cons hq).2 h2
      exact ⟨rfl, h3⟩
  | .list xs, .tuple ys, r, r', _, _, h => by
    rw [shw_list, shw_tuple] at h
    cases h
  | .tuple xs, .none, r, r', _, _, h => by
    rw [shw_none, shw_tuple] at h
    cases h
  | .tuple xs, .str y, r, r', _, hq, h => by
    rw [shw_tuple, shw_str hq] at h
    cases h
  | .tuple xs, .list ys, r, r', _, _, h => by
    rw [shw_list, shw_tuple] at h
    cases h
  | .tuple xs, .tuple ys, r, r', hp, hq, h => by
    rw [shw_tuple, shw_tuple, List.cons_append, List.cons_append] at h
    have h := (List.cons.inj h).2
    rw [cl] at hp hq
    match xs, ys, hp, hq, h with
    | [], [], _, _, h => exact ⟨rfl, (List.cons.inj h).2⟩
    | [], y :: ys, _, hq, h =>
      obtain ⟨c, t, e, n1, n2, n3⟩ := shw_head (clL_cons hq).1
      cases ys <;> (simp only [e] at h; exact absurd (List.cons.inj h).1.symm n2)
    | x :: xs, [], hp, _, h =>
      obtain ⟨c, t, e, n1, n2, n3⟩ := shw_head (clL_cons hp).1
      cases xs <;> (simp only [e] at h; exact absurd (List.cons.inj h).1 n2)
    | [x], [y], hp, hq, h =>
      simp only [List.append_assoc] at h
      obtain ⟨rfl, h2⟩ := shw_inj x y _ _ (clL_cons hp).1 (clL_cons hq).1 h
      exact ⟨rfl, List.append_cancel_left h2⟩
    | [x], y :: y2 :: ys, hp, hq, h =>
      simp only [List.append_assoc] at h
      obtain ⟨rfl, h2⟩ := shw_inj x y _ _ (clL_cons hp).1 (clL_cons hq).1 h
      rw [tlc] at h2
      cases h2
    | x :: x2 :: xs, [y], hp, hq, h =>
      simp only [List.append_assoc] at h
      obtain ⟨rfl, h2⟩ := shw_inj x y _ _ (clL_cons hp).1 (clL_cons hq).1 h
      rw [tlc] at h2
      cases h2
    | x :: x2 :: xs, y :: y2 :: ys, hp, hq, h =>
      simp only [List.append_assoc] at h
      obtain ⟨rfl, h2⟩ := shw_inj x y _ _ (clL_cons hp).1 (clL_cons hq).1 h
      obtain ⟨e, h3⟩ := tl_inj (x2 :: xs) (y2 :: ys) 41 _ _ (by decide) (clL_cons hp).2 (clL_cons hq).2 h2
      exact ⟨by rw [e], h3⟩
  | .bool _, _, _, _, hp, _, _ => by cases hp
  | .int _, _, _, _, hp, _, _ => by cases hp
  | .dict _, _, _, _, hp, _, _ => by cases hp
  | _, .bool _, _, _, _, hq, _ => by cases hq
  | _, .int _, _, _, _, hq, _ => by cases hq
  | _, .dict _, _, _, _, hq, _ => by cases hq
theorem tl_inj : ∀ (ps qs : List PyData) (c : Nat) (r r' : List Nat), c ≠ 44 → clL ps = true → clL qs = true → tlc c ps ++ r = tlc c qs ++ r' → ps = qs ∧ r = r'
  | [], [], c, r, r', _, _, _, h => ⟨rfl, (List.cons.inj h).2⟩
  | [], q :: qs, c, r, r', hc, _, _, h => absurd (List.cons.inj h).1 hc
  | p :: ps, [], c, r, r', hc, _, _, h => absurd (List.cons.inj h).1.symm hc
  | p :: ps, q :: qs, c, r, r', hc, hp, hq, h => by
    rw [tlc, tlc] at h
    simp only [List.cons_append, List.append_assoc] at h
    obtain ⟨rfl, h2⟩ := shw_inj p q _ _ (clL_cons hp).1 (clL_cons hq).1 (List.cons.inj (List.cons.inj h).2).2
    obtain ⟨rfl, h3⟩ := tl_inj ps qs c _ _ hc (clL_cons hp).2 (clL_cons hq).2 h2
    exact ⟨rfl, h3⟩
end
theorem shown_inj {p q : PyData} (hp : cl p = true) (hq : cl q = true) (h : p.shown = q.shown) : p = q :=
  (shw_inj p q [] [] hp hq (by unfold shw; rw [h])).1
end Sx
set_option Elab.async false
set_option linter.all false
set_option maxRecDepth 100000
set_option maxHeartbeats 1000000
set_option autoImplicit false
namespace Sx
open PySem L2 PyProof.Rows
/-! ### repr of None, truth values, and of tuples that hold an empty dict -/
/-- an item of a tuple that repr shows: plain, or an empty dict -/
def Dq (K : PySem.W.Frag) (H : Hp) (v : V) (p : PyData) : Prop := (Dp K H v p ∧ p.hasDict = false) ∨ ∃ a, v = .ref a ∧ p = .dict [] ∧ Rd H a (.dK [])
def DqL (K : PySem.W.Frag) (H : Hp) : List V → List PyData → Prop := Paired (Dq K H)
section
variable {X : Cx} {W : Wd} {pins : List (Addr × Obj)} {σ : L2.St} {H : Hp} {s : Shared}
theorem Dq.reads (I : Inv X pins σ H s) {v : V} {p : PyData} {u : Value} (h : Dq X.K H v p) (r : RelV v u) : ∃ as, Reads s.heap u p as ∧ (p.hasDict = true → sysModules ∉ as) := by
  rcases h with ⟨dp, nd⟩ | ⟨a, rfl, rfl, rd⟩
  · obtain ⟨as, rs⟩ := Dp.reads I p v u dp r
    exact ⟨as, rs, PyData.noDict_hsm nd⟩
  · cases (show u = Value.ref a from r)
    obtain ⟨_, low, vs, kv, dd⟩ := dk_rd I.hok rd
    cases kv
    obtain ⟨o, es, ep, h1, h2, h3, _, h5, _⟩ := dd
    have e : es.toList = [] := by
      generalize es.toList = l at h5
      cases h5
      rfl
    refine ⟨a :: [] ++ [], .dict h1 h2.1 h3 (by rw [e]; exact .nil) (by rw [e]; exact .nil), fun _ z => ?_⟩
    simp at z
    rw [z] at low
    simp at low
end
/-! the rule -/
def shOkD (p : PyData) : Bool := p.showable && p.leavesShort 1000 && decide (p.bulk ≤ 10000) && decide (p.depth ≤ 50)
theorem shOkD_sz {p : PyData} (h : shOkD p = true) : p.shown.length ≤ sizeLine := by
  unfold shOkD at h
  simp only [Bool.and_eq_true, decide_eq_true_eq] at h
  have := PyData.shown_le_bulk 1000 (by decide) p h.1.1.2
  have h2 := h.1.2
  rw [sizeLine_eq]
  omega
def rReprT (K : PySem.W.Frag) : List V → Hp → VK → Prop := fun vs H Q => ∃ a xs ps, vs = [.ref a] ∧ SqT K H a xs ∧ DqL K H xs ps ∧ shOkD (.tuple ps) = true ∧ Q (.str (PyData.tuple ps).shown) H
def rReprO : List V → Hp → VK → Prop := fun vs H Q => (vs = [.non] ∧ Q (.str "None") H) ∨ ∃ b, vs = [.bl b] ∧ Q (.str (if b then "True" else "False")) H
def rReprA (K : PySem.W.Frag) : List V → Hp → VK → Prop := fun vs H Q => rRepr K vs H Q ∨ rReprO vs H Q ∨ rReprT K vs H Q
def pyQ1 : D → Option PyData
  | .dK [] => some (.dict [])
  | d => (py d).bind fun p => if p.hasDict then none else some p
def pyQ : List D → Option (List PyData)
  | [] => some []
  | d :: r => (pyQ1 d).bind fun p => (pyQ r).bind fun ps => some (p :: ps)
def fReprA (ds : List D) : Option (Bool × D) := match ds with
  | [.non] => some0 (.str "None")
  | [.bl b] => some0 (.str (if b then "True" else "False"))
  | [.tup xs] => (pyQ xs).bind fun ps => if shOkD (.tuple ps) then some0 (.str (PyData.tuple ps).shown) else none
  | _ => fRepr ds
section
variable {X : Cx} {W : Wd} {S : Addr → Prop} {H : Hp}
theorem DqL.reads {pins : List (Addr × Obj)} {σ : L2.St} {s : Shared} (I : Inv X pins σ H s) : ∀ {xs : List V} {ps : List PyData} {us : List Value}, DqL X.K H xs ps → Paired RelV xs us → PyData.showableAll ps = true → (∀ t ∈ PyData.shownAll ps, t.length ≤ sizeLine) →
    ∃ as bs, ReadsAll s.heap us ps as ∧ ReadAtMost s.heap (PyData.depthAll ps) bs ∧ ReprAllK X.prog X.w bs s.heap (PyData.depthAll ps) us (PyData.shownAll ps)
  | _, _, _, .nil, .nil, _, _ => ⟨[], [], .nil, (fun _ h => nomatch h), .nil⟩
  | _, p :: ps, _, .cons h t, .cons r rs, sh, sz => by
    have sh : p.showable = true ∧ PyData.showableAll ps = true := by simpa [PyData.showableAll] using sh
    obtain ⟨a1, r1, n1⟩ := Dq.reads I h r
    obtain ⟨a2, b2, r2, m2, k2⟩ := DqL.reads I t rs sh.2 fun t ht => sz t (by rw [PyData.shownAll]; exact List.mem_cons_of_mem _ ht)
    obtain ⟨b1, m1, k1⟩ := ReprK.of_reads (prog := X.prog) (w := X.w) r1 sh.1 n1 (sz _ (by rw [PyData.shownAll]; exact List.mem_cons_self))
    have d1 : p.depth ≤ PyData.depthAll (p :: ps) := by rw [PyData.depthAll]; omega
    have d2 : PyData.depthAll ps ≤ PyData.depthAll (p :: ps) := by rw [PyData.depthAll]; omega
    refine ⟨a1 ++ a2, b1 ++ b2, .cons r1 r2, (m1.mono d1).append (m2.mono d2), ?_⟩
    rw [PyData.shownAll]
    exact .cons ((k1.more fun b hb => List.mem_append_left _ hb).level_le d1) (k2.more_le (fun b hb => List.mem_append_right _ hb) d2)
theorem cr_reprO : CallR X (.builtin "repr") rReprO := by
  intro pins s σ H xs us Q I r h
  rcases h with ⟨rfl, q⟩ | ⟨b, rfl, q⟩
  · obtain ⟨u, rfl, ru⟩ := vals1 r
    cases (show u = Value.none from ru)
    exact PySem.P.repr_of_none ⟨.str "None", H, I.tok _, ⟨_, rfl⟩, q⟩
  · obtain ⟨u, rfl, ru⟩ := vals1 r
    cases (show u = Value.bool b from ru)
    exact PySem.P.repr_of_bool ⟨.str (if b then "True" else "False"), H, I.tok _, ⟨_, rfl⟩, q⟩
theorem cr_reprT (hu : X.A.units + 64 < cLine) (hg : NoG X.A) : CallR X (.builtin "repr") (rReprT X.K) := by
  intro pins s σ H xs us Q I r h
  obtain ⟨a, ys, ps, rfl, hs, hp, ok, q⟩ := h
  obtain ⟨u, rfl, ru⟩ := vals1 r
  cases (show u = Value.ref a from ru)
  obtain ⟨its, rv, ⟨o, ho, hc, n, hd⟩, _⟩ := I.tuple hs
  have sz := shOkD_sz ok
  unfold shOkD at ok
  simp only [Bool.and_eq_true, decide_eq_true_eq] at ok
  obtain ⟨⟨⟨h1, h3⟩, h4⟩, h5⟩ := ok
  have sz' : (tupleText (PyData.shownAll ps)).length ≤ sizeLine := by simpa only [PyData.shown] using sz
  obtain ⟨as, bs, rd, rm, rk⟩ := DqL.reads I hp rv (by simpa [PyData.showable] using h1) fun t ht => Nat.le_trans (tupleText_mem_le ht) sz'
  have hna : a ∉ bs := not_mem_of_deeper (.tuple ho hc hd rd) (by simp only [PyData.depth]; omega) rm
  simp only [PyData.depth] at h5
  refine call_repr_slot (by omega) ⟨o, ho, hc⟩ F.slot_tuple_repr (call_tuple_reprK ho hc hd hna rk hg (fun b _ => Clear.nil b) (by show X.A.units + 1 + _ < cLine; omega) (fun _ _ e => e) (fun h' u tk k => ⟨_, _, rfl, .str (PyData.tuple ps).shown, H, I.kept k, ⟨u, by rw [PyData.shown]⟩, q⟩) sz')
theorem cr_reprA (hu : X.A.units + 64 < cLine) (hg : NoG X.A) : CallR X (.builtin "repr") (rReprA X.K) := by
  intro pins s σ H xs us Q I r h
  rcases h with h | h | h
  · exact cr_repr hu hg pins s σ H xs us Q I r h
  · exact cr_reprO pins s σ H xs us Q I r h
  · exact cr_reprT hu hg pins s σ H xs us Q I r h
theorem pyQ1_dv {v : V} {d : D} {p : PyData} (h : Dv W S H v d) (e : pyQ1 d = some p) : Dq W.K H v p := by
  unfold pyQ1 at e
  split at e
  · cases e
    obtain ⟨a, vs', rfl, ha, dp⟩ := h.dK_at
    cases dp
    exact .inr ⟨a, rfl, rfl, ha⟩
  · obtain ⟨q, e1, e2⟩ := Option.bind_eq_some_iff.mp e
    split at e2
    · cases e2
    · rename_i nd
      cases e2
      exact .inl ⟨h.dp e1, by simpa using nd⟩
theorem pyQ_dv : ∀ {vs : List V} {ds : List D} {ps : List PyData}, DvL W S H vs ds → pyQ ds = some ps → DqL W.K H vs ps
  | _, [], ps, h, e => by
    cases h
    cases e
    exact .nil
  | _, d :: ds, ps, h, e => by
    cases h with
    | cons t dv r =>
      obtain ⟨p, e1, e2⟩ := Option.bind_eq_some_iff.mp e
      obtain ⟨qs, e3, e4⟩ := Option.bind_eq_some_iff.mp e2
      cases e4
      exact .cons (pyQ1_dv dv e1) (pyQ_dv r e3)
theorem p_reprA : PureN W (rReprA W.K) fReprA := by
  intro S H vs ds c Q hd hv h r
  unfold fReprA at h
  split at h
  · cases h
    match vs, hv with
    | [v], ⟨dv, _⟩ =>
      cases dv
      exact .inr (.inl (.inl ⟨rfl, r.str hd⟩))
    | _ :: _ :: _, ⟨_, z⟩ => exact z.elim
    | [], z => exact z.elim
  · rename_i b
    cases h
    match vs, hv with
    | [v], ⟨dv, _⟩ =>
      cases dv
      exact .inr (.inl (.inr ⟨b, rfl, r.str hd⟩))
    | _ :: _ :: _, ⟨_, z⟩ => exact z.elim
    | [], z => exact z.elim
  · obtain ⟨ps, hp, h⟩ := Option.bind_eq_some_iff.mp h
    split at h
    · cases h
      match vs, hv with
      | [v], ⟨dv, _⟩ =>
        cases dv with
        | tup ha dl => exact .inr (.inr ⟨_, _, ps, rfl, tup_sq ha, pyQ_dv dl hp, by assumption, r.str hd⟩)
      | _ :: _ :: _, ⟨_, z⟩ => exact z.elim
      | [], z => exact z.elim
    · cases h
  · exact .inl (p_repr S H vs ds c Q hd hv h r)
end
/-! the empty dict -/
theorem e_dict0 {X : Cx} {W : Wd} {pos : Pos} : PE X (.Dict [] [] pos) (TV W (rDsp [])) := pe_weak pe_dnewK fun σ H Q h p hp => by
  obtain ⟨h1, kvs, h2, h3, h4⟩ := tv_disp [] (fun en => LkSub.refl _) h p hp
  cases kvs with
  | nil =>
    have q : Q (V.ref p) (upd (upd H p (.dK [])) p (.dK [])) := h4
    rw [upd_upd] at q
    exact q
  | cons a b => cases h2
end Sx
set_option Elab.async false
set_option linter.all false
set_option maxRecDepth 100000
set_option maxHeartbeats 4000000
set_option autoImplicit false
namespace Sx
open PySem L2 PyProof.Rows
/-! ### dict(pairs), powers, the greatest number, zip in a loop, a list turned about -/
section
variable {W : Wd} {S P S' P' : Addr → Prop} {en : En} {σ : L2.St} {H H' : Hp} {v : V} {d : D} {X : Cx}
/-! dict of a list of pairs -/
def pairD : D → Option (Key × D)
  | .tup [k, d] => (keyOf k).map fun q => (q, d)
  | _ => none
def pairsD : List D → Option (List (Key × D))
  | [] => some []
  | d :: r => (pairD d).bind fun p => (pairsD r).map fun ps => p :: ps
def fDictP (ds : List D) : Option (Bool × D) := match ds with
  | [.lst ps] => (pairsD ps).bind fun kvs => some1 (.dK (mergeD [] kvs))
  | _ => none
theorem Dv.tup_at {ds : List D} (h : Dv W S H v (.tup ds)) : ∃ a xs, v = .ref a ∧ SqT W.K H a xs ∧ DvL W S H xs ds := by
  cases h with
  | @tup a xs _ ha dl =>
    refine ⟨a, xs, rfl, ?_, dl⟩
    rcases ha with ⟨_, h⟩ | (h | ⟨_, h⟩) | h
    · exact SqT.of h
    · cases h
    · cases h
    · exact .inr h
theorem pairs_at : ∀ {xs : List V} {ds : List D} {kvs : List (Key × D)}, DvL W S H xs ds → pairsD ds = some kvs → ∃ (ps : List Addr) (vs : List (Key × V)), xs = ps.map V.ref ∧ Paired (fun p kv => SqT W.K H p [kV kv.1, kv.2]) ps vs ∧ DvP W S H vs kvs
  | _, [], kvs, h, e => by
    cases h
    cases e
    exact ⟨[], [], rfl, .nil, .nil⟩
  | _, d :: ds, kvs, h, e => by
    obtain ⟨p, hp, e⟩ := Option.bind_eq_some_iff.mp e
    obtain ⟨r, hr, rfl⟩ := Option.map_eq_some_iff.mp e
    cases h with
    | cons t1 d1 h =>
      obtain ⟨ps, vs, rfl, g1, g2⟩ := pairs_at h hr
      unfold pairD at hp
      split at hp
      · rename_i k dd
        obtain ⟨q, hq, rfl⟩ := Option.map_eq_some_iff.mp hp
        obtain ⟨a, ys, rfl, hs, dl⟩ := d1.tup_at
        cases dl with
        | cons ta da r1 => cases r1 with
          | cons tb db r2 =>
            cases r2
            have := keyOf_v da hq
            subst this
            exact ⟨a :: ps, (q, _) :: vs, rfl, .cons hs g1, .cons tb db g2⟩
      · cases hp
theorem PRes.dK {vs : List (Key × V)} {ds : List (Key × D)} {Q : VK} (hd : DomS S H) (h : DvP W S H vs ds) (r : PRes W S H (true, .dK ds) Q) : ∀ p, H p = none → Q (.ref p) (upd H p (.dK vs)) := fun p hp =>
  have ne : ∀ a, S a → upd H p (.dK vs) a = H a := fun a s => upd_ne fun z => by obtain ⟨o, e⟩ := hd a s; rw [z, hp] at e; cases e
  r _ _ S (upd_keeps hp) (fun _ h => h) (fun _ h => .inl h) (fun a s => by obtain ⟨o, e⟩ := hd a s; exact ⟨o, (ne a s).trans e⟩) (.dK (.inl upd_same) (h.mono (fun _ h => h) ne)) (fun z => by cases z)
    fun _ => ⟨p, _, rfl, hp, (fun s => by obtain ⟨o, e⟩ := hd p s; rw [hp] at e; cases e), upd_same⟩
def rDictP (K : PySem.W.Frag) : List V → Hp → VK → Prop := fun xs H Q => ∃ (a : Addr) (ps : List Addr) (kvs : List (Key × V)), xs = [.ref a] ∧ SqL K H a (ps.map V.ref) ∧ Paired (fun p kv => SqT K H p [kV kv.1, kv.2]) ps kvs ∧
    ∀ p, H p = none → Q (.ref p) (upd H p (.dK (mergeK [] kvs)))
theorem cr_dictP (hc : X.calm = true) : CallR X (.type "dict") (rDictP X.K) := call_dictP hc
theorem p_dictP : PureN W (rDictP W.K) fDictP := by
  intro S H vs ds c Q hd h hf r
  unfold fDictP at hf
  split at hf
  · obtain ⟨kvs, hk, e⟩ := Option.bind_eq_some_iff.mp hf
    cases e
    obtain ⟨v, rfl, dv⟩ := h.one
    cases dv with
    | lst ha dl =>
      obtain ⟨ps, ws, rfl, g1, g2⟩ := pairs_at dl hk
      exact ⟨_, ps, ws, rfl, SqL.of ha, g1, PRes.dK hd (merge_dv .nil g2) r⟩
  · cases hf
/-! powers of small numbers -/
abbrev fPow := fIntC (fun i j => decide (0 ≤ j ∧ j ≤ 1000 ∧ i.natAbs < 2 ^ 60)) fun i j => i ^ j.toNat
variable {a b e : Expr} {ra rb re : Run} {p pos cpos apos : Pos}
theorem e_pow (ha : PE X a (TV W ra)) (hb : PE X b (TV W rb)) : PE X (.BinOp a .Pow b pos) (TV W (run2 ra rb fPow)) := x_bin op_pow (p_intC fun i j h => by
  obtain ⟨h1, h2, h3⟩ := of_decide_eq_true h
  exact ⟨h1, by omega, by omega⟩) ha hb
/-! the greatest number of a list -/
def maxI : List Int → Option Int
  | [] => none
  | [i] => some i
  | i :: r => (maxI r).map fun m => if m < i then i else m
theorem maxI_ok : ∀ {ns : List Int} {m : Int}, maxI ns = some m → m ∈ ns ∧ ∀ y ∈ ns, y ≤ m
  | [], _, h => by cases h
  | [i], m, h => by
    cases h
    exact ⟨List.mem_cons_self, fun y hy => by rw [List.mem_singleton.mp hy]; exact Int.le_refl _⟩
  | i :: j :: r, m, h => by
    obtain ⟨k, hk, rfl⟩ := Option.map_eq_some_iff.mp h
    obtain ⟨h1, h2⟩ := maxI_ok hk
    split
    · exact ⟨List.mem_cons_self, fun y hy => (List.mem_cons.mp hy).elim (fun e => by omega) fun q => by have := h2 y q; omega⟩
    · exact ⟨List.mem_cons_of_mem _ h1, fun y hy => (List.mem_cons.mp hy).elim (fun e => by omega) fun q => h2 y q⟩
def intsD : List D → Option (List Int)
  | [] => some []
  | .int i :: r => (intsD r).map fun is => i :: is
  | _ => none
theorem ints_at : ∀ {xs : List V} {ds : List D} {ns : List Int}, DvL W S H xs ds → intsD ds = some ns → xs = ns.map V.int
  | _, [], ns, h, e => by cases h; cases e; rfl
  | _, d :: ds, ns, h, e => by
    unfold intsD at e
    split at e
    · rename_i heq
      cases heq
    · rename_i heq
      cases heq
      obtain ⟨is, hi, rfl⟩ := Option.map_eq_some_iff.mp e
      cases h with
      | cons t1 d1 h =>
        cases d1
        rw [ints_at h hi]
        rfl
    · cases e
def fMaxL (ds : List D) : Option (Bool × D) := match ds with
  | [.lst xs] => (intsD xs).bind fun ns => (maxI ns).bind fun m => some0 (.int m)
  | _ => none
theorem p_maxL : PureN W (rMax W.K) fMaxL := by
  intro S H vs ds c Q hd h hf r
  unfold fMaxL at hf
  split at hf
  · obtain ⟨ns, hn, e⟩ := Option.bind_eq_some_iff.mp hf
    obtain ⟨m, hm, e⟩ := Option.bind_eq_some_iff.mp e
    cases e
    obtain ⟨v, rfl, dv⟩ := h.one
    cases dv with
    | lst ha dl =>
      have := ints_at dl hn
      subst this
      obtain ⟨h1, h2⟩ := maxI_ok hm
      refine ⟨_, ns, rfl, SqL.of ha, List.length_pos_of_mem h1, fun k hk hle => ?_⟩
      have : k = m := Int.le_antisymm (h2 k hk) (hle m h1)
      rw [this]
      exact r.int hd
  · cases hf
/-! xs.reverse() -/
def rRvs (i : Nat) : Run := fun en => (T.ofOpt (ownL en i)).bind fun ds => .ret (.v .non, en.set i (some (.ow, .lst ds.reverse)))
theorem tv_rvs {i : Nat} {Q : VK} (h : TV W (rRvs i) σ H Q) : tBM0 W.K "list" rReverse (tVar i) σ H Q := by
  obtain ⟨S, P, en, R, w⟩ := h
  obtain ⟨ds, h0, q⟩ := T.wp_ofOpt ((T.wp_bind _ _ _).mp w)
  obtain ⟨p, xs, hv, hp, dl, mk⟩ := R.ownL h0
  obtain ⟨e3, R3⟩ := mk xs.reverse ds.reverse dl.rev
  exact ⟨.ref p, hv, .inl ⟨rfl, xs, SqL.of hp⟩, p, xs, rfl, rfl, hp, q .non _ S P e3 R3 ⟨trivial, .non⟩⟩
theorem m_rvs (i : Nat) {o : Expr} (hK : X.K = W.K) (ho : PE X o (tVar i)) (hb : attributeBase o "reverse" X.env (eval o X.env) = eval o X.env := by rfl) (hl : (apos.endLine == cpos.line) = true := by rfl) : PE X (.Call (.Attribute o "reverse" apos) [] [] cpos) (TV W (rRvs i)) :=
  pe_weak (pe_bm0 PySem.F.plainAttrs_list PySem.F.slot_list_reverse PySem.F.type_list_reverse mt_reverse ho hb hl) fun _ _ _ h => by rw [hK]; exact tv_rvs h
instance {i : Nat} : ShRun (rRvs i) := ⟨fun en => all_of fun _ _ => LkSub.set (by intro d h; cases h)⟩
/-! for a, b in zip(xs, ys) -/
def zipD (xs ys : List D) : List D := (xs.zip ys).map fun z => .tup [z.1, z.2]
def iZipR (rs : Runs) : RunI := fun en => (rs en).bind fun a => (T.ofOpt (match onlyV a.1 with
  | some [.lst xs, .lst ys] => some (zipD xs ys)
  | _ => none)).bind fun ds => .ret (ds, a.2)
theorem walks_zip {a b : Addr} {xs ys : List V} {ds es : List D} (R : Rel W S P en σ H) (ha : P a) (hb : P b) (h : H a = some (.lst xs)) (g : H b = some (.lst ys)) (dl : DvL W S H xs ds) (el : DvL W S H ys es) : Walks W S P H (Itz W.K a b) (zipD ds es) := by
  have hl : (zipD ds es).length = min ds.length es.length := by simp [zipD]
  have at1 : ∀ H2, (∀ c, P c → H2 c = H c) → SqL W.K H2 a xs := fun H2 q => SqL.of ((q a ha).trans h)
  have at2 : ∀ H2, (∀ c, P c → H2 c = H c) → SqL W.K H2 b ys := fun H2 q => SqL.of ((q b hb).trans g)
  have l1 := dl.len
  have l2 := el.len
  refine ⟨fun i H2 q hi => ⟨xs, ys, at1 H2 q, at2 H2 q, by omega⟩, fun i H2 q hi => ?_, fun i H2 x H3 q hi y => ?_⟩
  · exact ⟨xs, ys, xs[i]'(by omega), ys[i]'(by omega), at1 H2 q, at2 H2 q, List.getElem?_eq_getElem (by omega), List.getElem?_eq_getElem (by omega)⟩
  · obtain ⟨T', x', y', rfl, hT, rfl, y1, y2⟩ := y
    obtain ⟨d, hd, dz⟩ := (dl.at (i := i)).1 x' (y1 xs (at1 _ q))
    obtain ⟨e, he, ez⟩ := (el.at (i := i)).1 y' (y2 ys (at2 _ q))
    have up : ∀ {u : V} {d : D}, Dz W S H u d → Dz W S H2 u d := fun z => ⟨z.1, z.2.mono (fun _ h => h) (fun b s => q b (R.sp b s)) (z.1.mono fun b s => q b (R.sp b s))⟩
    refine ⟨.tup [d, e], ?_, .inr ⟨T', _, _, rfl, hT, rfl, rfl, .cons (up dz).1 (up dz).2 (.cons (up ez).1 (up ez).2 .nil)⟩⟩
    unfold zipD
    rw [List.getElem?_map]
    have : (ds.zip es)[i]? = some (d, e) := List.getElem?_zip_eq_some.mpr ⟨hd, he⟩
    rw [this]
    rfl
theorem x_zip {e2 : Expr} {tpos : Pos} {elts : List Expr} {kk : Nat} (hK : X.K = W.K) (hg : Gl X "zip") (hm : X.mg "zip" = none) (ha : PE X e (TV W ra)) (hb : PE X e2 (TV W rb)) (hs : starEach [e, e2] X.env = (false, eval e X.env) :: starEach [e2] X.env := by rfl) (hs2 : starEach [e2] X.env = (false, eval e2 X.env) :: starEach [] X.env := by rfl) (hpl : (backTo pos (starEach [e2] X.env)).any (·.1) = false := by rfl) :
    PI X (.Tuple elts kk tpos) (.Call (.Name "zip" p) [e, e2] [] pos) (TVI W (iZipR (rCons ra (rCons rb rNil))) none) := by
  refine ⟨fun pins s σ H R I q => (pi_zip hg hm (x_cons ha (x_cons hb x_nil hs2) hs) hs hpl).run pins s σ H R I ?_⟩
  rw [hK]
  obtain ⟨S, P, en, Rl, w⟩ := q
  refine TVs.use Rl w fun c vs H1 S1 P1 e1 R1 p1 q => ?_
  obtain ⟨ds, hds, q⟩ := T.wp_ofOpt ((T.wp_bind _ _ _).mp q)
  split at hds
  · rename_i es gs hj
    cases hds
    cases p1.only hj with
    | cons t dv r =>
      cases r with
      | cons t2 dv2 r =>
        cases r
        cases dv with
        | lst ha dl => cases dv2 with
          | lst hb el => exact ⟨_, _, _, _, rfl, SqL.of ha, SqL.of hb, q (Itz W.K _ _) H1 S1 P1 P1 e1 R1 (fun _ h => h) (fun S3 P3 en3 σ3 H3 _ e3 R3 => ⟨P3, fun _ h => h, e3, R3⟩) (fun _ => rfl) (walks_zip R1 (R1.sp _ t) (R1.sp _ t2) ha hb dl el)⟩
  · cases hds
variable {rs : Runs}
instance [h : ShRuns rs] : ShIt (iZipR rs) none := ⟨fun en => T.all_mono (all_seq (h.sh en) fun _ => all_of fun _ _ => LkSub.refl _) fun _ h _ g => g.trans h⟩
end
end Sx
set_option Elab.async false
set_option linter.all false
set_option maxRecDepth 100000
set_option maxHeartbeats 4000000
set_option autoImplicit false
namespace Sx
open PySem L2 PyProof.Rows
/-! ### a dict of dicts that is filled by another name: rows[name] is held by cells, cells[column] = .. -/
/-- the model: for each name its cells -/
abbrev Mdl := List (Str × List (Key × D))
def topK (m : Mdl) (ps : List Addr) : List (Key × V) := ((m.map (·.1)).zip ps).map fun z => ((.inr z.1 : Key), V.ref z.2)
structure GM (W : Wd) (S P : Addr → Prop) (H : Hp) (r : Addr) (ps : List Addr) (m : Mdl) : Prop where
  top : H r = some (.dK (topK m ps))
  len : ps.length = m.length
  nd : ps.Nodup
  rp : r ∉ ps
  pr : P r ∧ ¬ S r
  it : ∀ (i : Nat) (p : Addr) (x : Str × List (Key × D)), ps[i]? = some p → m[i]? = some x → P p ∧ ¬ S p ∧ ∃ vs, H p = some (.dK vs) ∧ DvP W S H vs x.2
section
variable {W : Wd} {S P S' P' : Addr → Prop} {en : En} {σ : L2.St} {H H' : Hp} {v : V} {d : D} {r : Addr} {ps : List Addr} {m : Mdl}
theorem GM.ext (G : GM W S P H r ps m) (sp : ∀ a, S a → P a) (e : Ext S P H S' P' H') : GM W S' P' H' r ps m := by
  refine ⟨(e.h r G.pr.1).trans G.top, G.len, G.nd, G.rp, ⟨e.p r G.pr.1, fun h => (e.n r h).elim G.pr.2 fun z => z G.pr.1⟩, fun i p x hp hx => ?_⟩
  obtain ⟨h1, h2, vs, h3, h4⟩ := G.it i p x hp hx
  exact ⟨e.p p h1, fun h => (e.n p h).elim h2 fun z => z h1, vs, (e.h p h1).trans h3, h4.mono e.s fun a s => e.h a (sp a s)⟩
theorem Rel.poke {p : Addr} {u : HO} (R : Rel W S P en σ H) (hp : P p) (hs : ¬ S p) (hl : ∀ (i : Nat) (d : D), en[i]? ≠ some (some (.lk, d))) (tb : LamX.Tabs W.tb (upd H p u)) : Rel W S P en σ (upd H p u) := by
  obtain ⟨R6, f6⟩ := R.turn (u := u) hp hs (fun i d e => absurd e (hl i d)) tb
  have g := R6.guard f6 upd_same
  have e : add (fun a => P a ∧ a ≠ p) p = P := by
    funext a
    exact propext ⟨fun h => h.elim (·.1) fun z => z ▸ hp, fun h => by
      by_cases z : a = p
      · exact .inr z
      · exact .inl ⟨h, z⟩⟩
  rw [e] at g
  exact g
theorem GM.poke (G : GM W S P H r ps m) {i : Nat} {p : Addr} {x : Str × List (Key × D)} {vs : List (Key × V)} {k : Key} (hp : ps[i]? = some p) (hx : m[i]? = some x) (hv : H p = some (.dK vs)) (dp : DvP W S H vs x.2) (dz : Dz W S H v d) :
    GM W S P (upd H p (.dK (putK vs k v))) r ps (m.set i (x.1, putD x.2 k d)) := by
  obtain ⟨p1, p2, _⟩ := G.it i p x hp hx
  have ne : ∀ a, S a → upd H p (.dK (putK vs k v)) a = H a := fun a s => upd_ne fun z => p2 (z ▸ s)
  have nr : r ≠ p := fun z => G.rp (z ▸ List.mem_of_getElem? hp)
  have hi : i < m.length := lt_of_get hx
  have key : (m.set i (x.1, putD x.2 k d)).map (·.1) = m.map (·.1) := by
    apply List.ext_getElem?
    intro j
    rw [List.getElem?_map, List.getElem?_map]
    by_cases e : i = j
    · subst e; rw [List.getElem?_set_self hi, hx]; rfl
    · rw [List.getElem?_set_ne e]
  refine ⟨?_, by rw [List.length_set]; exact G.len, G.nd, G.rp, G.pr, fun j q y hq hy => ?_⟩
  · rw [upd_ne nr, G.top]
    unfold topK
    rw [key]
  · by_cases e : i = j
    · subst e
      rw [hp] at hq
      cases hq
      rw [List.getElem?_set_self hi] at hy
      cases hy
      exact ⟨p1, p2, _, upd_same, (dp.putK dz).mono (fun _ h => h) ne⟩
    · rw [List.getElem?_set_ne e] at hy
      obtain ⟨h1, h2, ws, h3, h4⟩ := G.it j q y hq hy
      have nq : q ≠ p := fun z => e ((List.getElem?_inj (lt_of_get hp) G.nd).mp (by rw [hp, hq, z]))
      exact ⟨h1, h2, ws, by rw [upd_ne nq]; exact h3, h4.mono (fun _ h => h) ne⟩
theorem topK_at : ∀ {ks : List Str} {ps : List Addr} {i : Nat} {x : Str} {p : Addr}, ks.Nodup → ks[i]? = some x → ps[i]? = some p → valV ((ks.zip ps).map fun z => ((.inr z.1 : Key), V.ref z.2)) (.inr x) = some (.ref p)
  | [], _, _, _, _, _, h, _ => by simp at h
  | _ :: _, [], _, _, _, _, _, h => by simp at h
  | k :: ks, q :: ps, 0, x, p, nd, h, g => by
    simp only [List.getElem?_cons_zero, Option.some.injEq] at h g
    subst h
    subst g
    rw [List.zip_cons_cons, List.map_cons]
    exact valV_pos (p := ((.inr k : Key), V.ref q)) rfl
  | k :: ks, q :: ps, i + 1, x, p, nd, h, g => by
    simp only [List.getElem?_cons_succ] at h g
    rw [List.nodup_cons] at nd
    have ne : k ≠ x := fun z => nd.1 (z ▸ List.mem_of_getElem? h)
    rw [List.zip_cons_cons, List.map_cons, valV_neg (p := ((.inr k : Key), V.ref q)) fun z => ne (by injection z)]
    exact topK_at nd.2 h g
theorem GM.get (G : GM W S P H r ps m) {i : Nat} {x : Str × List (Key × D)} (nd : (m.map (·.1)).Nodup) (hx : m[i]? = some x) : ∃ p, ps[i]? = some p ∧ DGet H r (.str x.1) (some (.ref p)) := by
  have hi : i < ps.length := by rw [G.len]; exact lt_of_get hx
  refine ⟨ps[i], List.getElem?_eq_getElem hi, ?_⟩
  have := DGet.k (k := .inr x.1) G.top
  rw [topK, topK_at nd (by rw [List.getElem?_map, hx]; rfl) (List.getElem?_eq_getElem hi)] at this
  exact this
theorem frz_pairs {S2 : Addr → Prop} : ∀ {m : Mdl} {ps : List Addr}, ps.length = m.length → (∀ (i : Nat) (p : Addr) (x : Str × List (Key × D)), ps[i]? = some p → m[i]? = some x → S2 p ∧ ∃ vs, H p = some (.dK vs) ∧ DvP W S2 H vs x.2) →
    DvP W S2 H (topK m ps) (m.map fun x => ((.inr x.1 : Key), .dK x.2))
  | [], ps, hl, _ => by
    cases ps with
    | nil => exact .nil
    | cons p ps => cases hl
  | x :: m, [], hl, _ => by cases hl
  | x :: m, p :: ps, hl, h => by
    obtain ⟨s, vs, e, dp⟩ := h 0 p x rfl rfl
    have ih := frz_pairs (m := m) (ps := ps) (by simpa using hl) fun i p x hp hx => h (i + 1) p x hp hx
    exact .cons s (.dK (.inl e) dp) ih
/-- the dict and its cells are frozen -/
theorem GM.freeze (G : GM W S P H r ps m) (R : Rel W S P en σ H) : Dv W (fun a => S a ∨ a = r ∨ a ∈ ps) H (.ref r) (.dK (m.map fun x => ((.inr x.1 : Key), .dK x.2))) ∧ (∀ a, (S a ∨ a = r ∨ a ∈ ps) → P a) := by
  have inP : ∀ p ∈ ps, P p := fun p h => by
    obtain ⟨i, hi, rfl⟩ := List.mem_iff_getElem.mp h
    exact (G.it i _ _ (List.getElem?_eq_getElem hi) (List.getElem?_eq_getElem (by rw [← G.len]; exact hi))).1
  refine ⟨.dK (.inl G.top) (frz_pairs G.len fun i p x hp hx => ?_), fun a h => h.elim (R.sp a) fun h => h.elim (fun e => e ▸ G.pr.1) (inP a)⟩
  obtain ⟨_, _, vs, h3, h4⟩ := G.it i p x hp hx
  exact ⟨.inr (.inr (List.mem_of_getElem? hp)), vs, h3, h4.mono (fun a h => .inl h) fun _ _ => rfl⟩
/-! the dict is made -/
/-- new objects, guarded -/
theorem Rel.fresh (R : Rel W S P en σ H) (hH : ∀ a o, H a = some o → H' a = some o) (N : Addr → Prop) (hn : ∀ a, N a → H a = none ∧ ∃ o, H' a = some o) : Ext S P H S (fun a => P a ∨ N a) H' ∧ Rel W S (fun a => P a ∨ N a) en σ H' := by
  obtain ⟨e0, R0⟩ := R.same hH (S' := S) (fun _ h => h) (fun _ h => .inl h) (fun a h => by obtain ⟨o, e⟩ := R.dom a h; exact ⟨o, hH a o e⟩)
  have eq : (fun a => P a ∨ S a) = P := by funext a; exact propext ⟨fun h => h.elim id (R.sp a), .inl⟩
  rw [eq] at R0 e0
  refine ⟨⟨fun _ h => h, fun a h => .inl h, e0.h, fun _ h => .inl h⟩, ⟨fun a h => .inl (R0.sp a h), fun a h => h.elim (R0.pd a) fun h => (hn a h).2, fun i f d e => ?_, R0.inj, R0.len, R0.dr, ?_, R0.tb⟩⟩
  · obtain ⟨v, hv, dv, t, ow⟩ := R0.slot i f d e
    refine ⟨v, hv, dv, t, fun z => ?_⟩
    obtain ⟨q, o, ev, hs, hq, hl, h1, h2, h3⟩ := ow z
    refine ⟨q, o, ev, hs, fun y w => w.elim (hq y) fun w => ?_, fun y => .inl (hl y), h1, h2, h3⟩
    obtain ⟨v', hv', _, _, ow'⟩ := R.slot i f d e
    obtain ⟨q', o', ev', _, _, _, _, _, h3'⟩ := ow' z
    rw [hv] at hv'
    cases hv'
    rw [ev] at ev'
    cases ev'
    rw [(hn q w).1] at h3'
    cases h3'
  · obtain ⟨ne, ns, i, j, k, h1, h2, h3⟩ := R.dr
    exact ⟨fun w => w.elim R.drP.1 fun w => (by rw [(hn _ w).1] at h1; cases h1), ⟨fun w => w.elim R.drP.2.1 fun w => (by rw [(hn _ w).1] at h2; cases h2), fun x hx w => w.elim (R.drP.2.2 x hx) fun w => (by obtain ⟨ps, t1, _⟩ := R.tb x hx; rw [(hn _ w).1] at t1; cases t1)⟩⟩
theorem mergeK_fresh : ∀ {more kvs : List (Key × V)}, ((kvs ++ more).map (·.1)).Nodup → mergeK kvs more = kvs ++ more
  | [], kvs, _ => by simp [mergeK]
  | p :: more, kvs, nd => by
    have nv : valV kvs p.1 = none := by
      cases e : valV kvs p.1 with
      | none => rfl
      | some v =>
        have := valV_any p.1 kvs
        rw [e] at this
        obtain ⟨q, hq, eq⟩ := List.any_eq_true.mp this
        rw [List.map_append, List.nodup_append] at nd
        exact absurd (of_decide_eq_true eq) (nd.2.2 q.1 (List.mem_map.mpr ⟨q, hq, rfl⟩) p.1 (by simp))
    show mergeK (putK kvs p.1 p.2) more = _
    rw [putK_new p.2 nv, mergeK_fresh (by simpa using nd)]
    simp
/-- [(name, {}) for name in names], as it grows -/
structure Gr (H : Hp) (Da : Addr) (names : List Str) (i : Nat) (H2 : Hp) (ts ps : List Addr) : Prop where
  keep : ∀ b o, H b = some o → H2 b = some o
  top : H2 Da = some (.lst (ts.map V.ref))
  lt : ts.length = i
  lp : ps.length = i
  nd : ps.Nodup
  nt : ∀ t ∈ ts, H t = none ∧ t ≠ Da
  np : ∀ p ∈ ps, H p = none ∧ p ≠ Da ∧ H2 p = some (.dK [])
  at_ : ∀ (j : Nat) (t p : Addr) (x : Str), ts[j]? = some t → ps[j]? = some p → names[j]? = some x → H2 t = some (.tup [.str x, .ref p])
theorem gr_paired {K : PySem.W.Frag} {H2 : Hp} : ∀ {names : List Str} {ts ps : List Addr}, ts.length = names.length → ps.length = names.length → (∀ (j : Nat) (t p : Addr) (x : Str), ts[j]? = some t → ps[j]? = some p → names[j]? = some x → H2 t = some (.tup [.str x, .ref p])) →
    Paired (fun p kv => SqT K H2 p [kV kv.1, kv.2]) ts ((names.zip ps).map fun z => ((.inr z.1 : Key), V.ref z.2))
  | [], [], [], _, _, _ => .nil
  | x :: names, t :: ts, p :: ps, h1, h2, h => by
    refine .cons (SqT.of (h 0 t p x rfl rfl rfl)) (gr_paired (by simpa using h1) (by simpa using h2) fun j t p x a b c => h (j + 1) t p x a b c)
  | [], _ :: _, _, h1, _, _ => by cases h1
  | [], [], _ :: _, _, h2, _ => by cases h2
  | _ :: _, [], _, h1, _, _ => by cases h1
  | _ :: _, _ :: _, [], _, h2, _ => by cases h2
theorem strs_at : ∀ {xs : List V} {names : List Str}, DvL W S H xs (names.map D.str) → xs = names.map V.str
  | _, [], h => by cases h; rfl
  | _, x :: names, h => by
    cases h with
    | cons t1 d1 h =>
      cases d1
      rw [strs_at h]
      rfl
theorem t_rows {K : PySem.W.Frag} {iN iX : Nat} {names : List Str} {a : Addr} {Q : VK} (hi : iX < σ.length) (hne : iN ≠ iX) (hv : σ[iN]? = some (some (.ref a))) (ha : H a = some (.lst (names.map V.str))) (nd : names.Nodup) (hl : names.length ≤ 1000)
    (q : ∀ r ps H', (∀ b o, H b = some o → H' b = some o) → H r = none → (∀ p ∈ ps, H p = none) → ps.length = names.length → ps.Nodup → r ∉ ps → H' r = some (.dK ((names.zip ps).map fun z => ((.inr z.1 : Key), V.ref z.2))) → (∀ p ∈ ps, H' p = some (.dK [])) → Q (.ref r) H') :
    tCB (rDictP K) (tCons (tLc (iList K (tVar iN)) (gName iX) tYes (tTup (tCons (tVar iX) (tCons tDNewK tNil))) [iX]) tNil) σ H Q := by
  refine ⟨.ref a, hv, a, rfl, ⟨_, SqL.of ha⟩, fun Da hD => ?_⟩
  have sz : (4096 : Nat) < sizeLine := by rw [sizeLine_eq]; decide
  have haD : a ≠ Da := fun z => by rw [z, hD] at ha; cases ha
  refine lc_list (xs := names.map V.str) (fun i H2 => ∃ ts ps, Gr H Da names i H2 ts ps) ⟨[], [], fun b o e => ?_, upd_same, rfl, rfl, List.nodup_nil, by simp, by simp, by simp⟩ (fun i H2 _ ⟨ts, ps, g⟩ => SqL.of (g.keep _ _ ha)) (fun i x H2 hx ⟨ts, ps, g⟩ => ?_) fun H2 ⟨ts, ps, g⟩ => ?_
  · rw [upd_ne fun z => by rw [z, hD] at e; cases e]; exact e
  · rw [List.getElem?_map] at hx
    obtain ⟨y, hy, rfl⟩ := Option.map_eq_some_iff.mp hx
    have hlt := lt_of_get hy
    refine ⟨?_, ?_⟩
    · show ((wipe σ [iX]).set iX _).set iX none = _
      show ((σ.set iX none).set iX _).set iX none = σ.set iX none
      rw [List.set_set, List.set_set]
    · unfold tYes
      simp only [if_true]
      refine ⟨.str y, List.getElem?_set_self (by show iX < (σ.set iX none).length; rw [List.length_set]; exact hi), fun p hp => ⟨by show 2 ≤ sizeLine; omega, fun t ht => ?_⟩⟩
      have up1 : ∀ b o, H2 b = some o → upd H2 p (.dK []) b = some o := upd_keeps hp
      have up2 : ∀ b o, upd H2 p (.dK []) b = some o → upd (upd H2 p (.dK [])) t (.tup [.str y, .ref p]) b = some o := upd_keeps ht
      have hp0 : H p = none := by
        cases e : H p with
        | none => rfl
        | some o => rw [g.keep p o e] at hp; cases hp
      have ht2 : H2 t = none := by
        cases e : H2 t with
        | none => rfl
        | some o => rw [up1 t o e] at ht; cases ht
      have ht0 : H t = none := by
        cases e : H t with
        | none => rfl
        | some o => rw [g.keep t o e] at ht2; cases ht2
      have pD : p ≠ Da := fun z => by rw [z, g.top] at hp; cases hp
      have tD : t ≠ Da := fun z => by rw [z, g.top] at ht2; cases ht2
      have top' := up2 _ _ (up1 _ _ g.top)
      have len : (ts.map V.ref).length < sizeLine := by rw [List.length_map, g.lt]; omega
      refine ⟨ts.map V.ref, top', len, ts ++ [t], ps ++ [p], fun b o e => ?_, by rw [upd_same, List.map_append]; rfl, by rw [List.length_append, g.lt]; rfl, by rw [List.length_append, g.lp]; rfl, ?_, fun u hu => ?_, fun u hu => ?_, fun j u q z hu hq hz => ?_⟩
      · rw [upd_ne fun z => by rw [z, hD] at e; cases e]
        exact up2 _ _ (up1 _ _ (g.keep b o e))
      · rw [List.nodup_append]
        refine ⟨g.nd, by simp, fun u hu w hw => ?_⟩
        rw [List.mem_singleton.mp hw]
        intro z
        rw [z] at hu
        rw [(g.np p hu).2.2] at hp
        cases hp
      · rcases List.mem_append.mp hu with hu | hu
        · exact g.nt u hu
        · rw [List.mem_singleton.mp hu]; exact ⟨ht0, tD⟩
      · rcases List.mem_append.mp hu with hu | hu
        · obtain ⟨h1, h2, h3⟩ := g.np u hu
          exact ⟨h1, h2, by rw [upd_ne h2]; exact up2 _ _ (up1 _ _ h3)⟩
        · rw [List.mem_singleton.mp hu]
          exact ⟨hp0, pD, by rw [upd_ne pD]; exact up2 _ _ upd_same⟩
      · have uD : u ≠ Da := by
          rcases List.mem_append.mp (List.mem_of_getElem? hu) with h | h
          · exact (g.nt u h).2
          · rw [List.mem_singleton.mp h]; exact tD
        rw [upd_ne uD]
        by_cases hj : j < i
        · rw [List.getElem?_append_left (by rw [g.lt]; exact hj)] at hu
          rw [List.getElem?_append_left (by rw [g.lp]; exact hj)] at hq
          exact up2 _ _ (up1 _ _ (g.at_ j u q z hu hq hz))
        · have hj2 : j = i := by
            have := lt_of_get hu
            rw [List.length_append, g.lt] at this
            simp at this
            omega
          subst hj2
          rw [List.getElem?_append_right (by rw [g.lt]; exact Nat.le_refl _), g.lt] at hu
          rw [List.getElem?_append_right (by rw [g.lp]; exact Nat.le_refl _), g.lp] at hq
          simp at hu hq
          rw [hy] at hz
          cases hz
          subst hu
          subst hq
          exact upd_same
  · rw [List.length_map] at g
    have kn : (((names.zip ps).map fun z => ((.inr z.1 : Key), V.ref z.2)).map (·.1)).Nodup := by
      rw [List.map_map]
      have : ((fun x : Key × V => x.1) ∘ fun z : Str × Addr => ((.inr z.1 : Key), V.ref z.2)) = (fun x : Str => (.inr x : Key)) ∘ Prod.fst := rfl
      rw [this, ← List.map_map, List.map_fst_zip (by rw [g.lp]; exact Nat.le_refl _)]
      exact List.pairwise_map.mpr (nd.imp fun h e => h (by injection e))
    refine ⟨Da, ts, _, rfl, SqL.of g.top, gr_paired g.lt g.lp g.at_, fun r hr => ?_⟩
    rw [mergeK_fresh (kvs := []) (by simpa using kn), List.nil_append]
    have nr : H r = none := by
      cases e : H r with
      | none => rfl
      | some o => rw [g.keep r o e] at hr; cases hr
    have rp : r ∉ ps := fun z => by rw [(g.np r z).2.2] at hr; cases hr
    exact q r ps _ (fun b o e => upd_keeps hr b o (g.keep b o e)) nr (fun p h => (g.np p h).1) g.lp g.nd rp upd_same fun p h => by rw [upd_ne fun z => rp (by rw [← z]; exact h)]; exact (g.np p h).2.2
end
end Sx
set_option Elab.async false
set_option linter.all false
set_option maxRecDepth 100000
set_option maxHeartbeats 4000000
set_option autoImplicit false
namespace Sx
open PySem L2 PyProof.Rows
/-! ### the model's cells are filled, a column a turn -/
def putM (k : Key) (x : Str × List (Key × D)) (d : D) : Str × List (Key × D) := (x.1, putD x.2 k d)
def fillM (k : Key) (m : Mdl) (ds : List D) : Mdl := List.zipWith (putM k) m ds
/-- the first n of them -/
def fillN (k : Key) (m : Mdl) (ds : List D) (n : Nat) : Mdl := fillM k (m.take n) ds ++ m.drop n
theorem fillN_zero (k : Key) (m : Mdl) (ds : List D) : fillN k m ds 0 = m := by simp [fillN, fillM]
theorem fillN_all {k : Key} {m : Mdl} {ds : List D} (h : ds.length = m.length) : fillN k m ds m.length = fillM k m ds := by simp [fillN, fillM]
theorem fillM_keys {k : Key} : ∀ {m : Mdl} {ds : List D}, m.length ≤ ds.length → (fillM k m ds).map (·.1) = m.map (·.1)
  | [], _, _ => by simp [fillM]
  | x :: m, [], h => by cases h
  | x :: m, d :: ds, h => by
    have ih := fillM_keys (k := k) (m := m) (ds := ds) (by simpa using h)
    unfold fillM at ih ⊢
    rw [List.zipWith_cons_cons, List.map_cons, List.map_cons, ih]
    rfl
theorem fillN_step {k : Key} {m : Mdl} {ds : List D} {i : Nat} {x : Str × List (Key × D)} {d : D} (hl : ds.length = m.length) (hx : m[i]? = some x) (hd : ds[i]? = some d) : (fillN k m ds i)[i]? = some x ∧ (fillN k m ds i).set i (x.1, putD x.2 k d) = fillN k m ds (i + 1) := by
  have hi := lt_of_get hx
  have l1 : (fillM k (m.take i) ds).length = i := by unfold fillM; rw [List.length_zipWith, List.length_take]; omega
  have dr : m.drop i = x :: m.drop (i + 1) := drop_at hx
  have tk : m.take (i + 1) = m.take i ++ [x] := by rw [List.take_add_one, hx]; rfl
  have dd : ds = ds.take i ++ d :: ds.drop (i + 1) := by rw [← drop_at hd, List.take_append_drop]
  have z1 : fillM k (m.take (i + 1)) ds = fillM k (m.take i) ds ++ [putM k x d] := by
    have a1 : fillM k (m.take i) ds = List.zipWith (putM k) (m.take i) (ds.take i) := by
      unfold fillM
      apply List.ext_getElem?
      intro j
      rw [List.getElem?_zipWith, List.getElem?_zipWith]
      by_cases hj : j < i
      · rw [List.getElem?_take_of_lt (l := ds) hj]
      · rw [List.getElem?_eq_none (l := m.take i) (by rw [List.length_take]; omega)]
    rw [a1]
    unfold fillM
    rw [tk]
    conv => lhs; rw [dd]
    rw [List.zipWith_append (by rw [List.length_take, List.length_take]; omega)]
    rfl
  constructor
  · unfold fillN
    rw [List.getElem?_append_right (by rw [l1]; exact Nat.le_refl _), l1, dr]
    simp
  · unfold fillN
    rw [List.set_append_right _ _ (by rw [l1]; exact Nat.le_refl _), l1, dr, z1]
    simp [putM]
section
variable {W : Wd} {S P S' P' S0 P0 : Addr → Prop} {en : En} {σ : L2.St} {H H' H0 : Hp} {v : V} {d : D} {r : Addr} {ps : List Addr} {m : Mdl}
theorem Rel.blank (R : Rel W S P en σ H) {i : Nat} (h : en[i]? = some none) (x : Option V) : Rel W S P en (σ.set i x) H := by
  have ne : ∀ {j : Nat} {f : Fg} {d : D}, en[j]? = some (some (f, d)) → i ≠ j := fun e z => by subst z; rw [h] at e; cases e
  refine ⟨R.sp, R.pd, fun j f d e => ?_, fun j k f g d e v h1 h2 h3 h4 h5 h6 => ?_, by rw [List.length_set]; exact R.len, R.dr, R.drP, R.tb⟩
  · obtain ⟨v, hv, q⟩ := R.slot j f d e
    exact ⟨v, by rw [List.getElem?_set_ne (ne e)]; exact hv, q⟩
  · rw [List.getElem?_set_ne (ne h1)] at h5
    rw [List.getElem?_set_ne (ne h2)] at h6
    exact R.inj j k f g d e v h1 h2 h3 h4 h5 h6
abbrev EMo (s1 : Slot) (h : Int) (fc fn : Fg) (cols names : List Str) (s5 s6 s7 s8 s9 s10 s11 : Slot) : En := [some (.fz, .drw), s1, some (.fz, .int h), some (fc, .lst (cols.map .str)), some (fn, .lst (names.map .str)), s5, s6, s7, s8, s9, s10, s11]
def NoLk (s : Slot) : Prop := ∀ d, s ≠ some (.lk, d)
theorem emo_nolk {s1 s5 s6 s7 s8 s9 s10 s11 : Slot} {h : Int} {fc fn : Fg} {cols names : List Str} (a1 : NoLk s1) (ac : fc ≠ .lk) (an : fn ≠ .lk) (a5 : NoLk s5) (a6 : NoLk s6) (a7 : NoLk s7) (a8 : NoLk s8) (a9 : NoLk s9) (a10 : NoLk s10) (a11 : NoLk s11) :
    ∀ (i : Nat) (d : D), (EMo s1 h fc fn cols names s5 s6 s7 s8 s9 s10 s11)[i]? ≠ some (some (.lk, d)) := by
  intro i d e
  have hi := lt_of_get e
  have hi : i < 12 := hi
  match i, hi with
  | 0, _ => cases e
  | 1, _ => exact a1 d (Option.some.inj e)
  | 2, _ => cases e
  | 3, _ => have := Option.some.inj e; injection this with z; injection z with z; exact ac z
  | 4, _ => have := Option.some.inj e; injection this with z; injection z with z; exact an z
  | 5, _ => exact a5 d (Option.some.inj e)
  | 6, _ => exact a6 d (Option.some.inj e)
  | 7, _ => exact a7 d (Option.some.inj e)
  | 8, _ => exact a8 d (Option.some.inj e)
  | 9, _ => exact a9 d (Option.some.inj e)
  | 10, _ => exact a10 d (Option.some.inj e)
  | 11, _ => exact a11 d (Option.some.inj e)
theorem nolk_fz (d : D) : NoLk (some (.fz, d)) := fun e z => by cases z
theorem nolk_none : NoLk none := fun e z => by cases z
abbrev tFill (K : PySem.W.Frag) : TS := tFor (iZip K (tCons (tVar 4) (tCons (tVar 7) tNil))) (gTup K 2 (gCons (gName 9) (gCons (gName 10) gNil))) (tSeq (tAsg (tDGet (tVar 5) (tVar 9)) (gName 11)) (sDPut (tVar 11) (tVar 6) (tOp (rIxL K) (tVar 8) (tVar 10))))
theorem nats_at : ∀ {xs : List V} {ns : List Nat}, DvL W S H xs (ns.map fun n => D.int (n : Nat)) → xs = ns.map fun n => V.int (n : Nat)
  | _, [], h => by cases h; rfl
  | _, x :: names, h => by
    cases h with
    | cons t1 d1 h =>
      cases d1
      rw [nats_at h]
      rfl
theorem t_fill {D : Ends} {s1 : Slot} {h : Int} {cols names : List Str} {c : Str} {f7 f8 : Fg} {nums : List Nat} {code ds : List Sx.D} (R : Rel W S P (EMo s1 h .fz .fz cols names (some (.fz, .adr r)) (some (.fz, .str c)) (some (f7, .lst (nums.map fun n => .int (n : Nat)))) (some (f8, .lst code)) none none none) σ H)
    (G : GM W S P H r ps m) (a1 : NoLk s1) (a7 : f7 ≠ .lk) (a8 : f8 ≠ .lk) (e0 : Ext S0 P0 H0 S P H) (out : ∀ a, a = r ∨ a ∈ ps → ¬ P0 a) (hk : m.map (·.1) = names) (nd : names.Nodup) (hn : nums.length = names.length) (hd : ds.length = names.length) (hl : names.length ≤ 1000)
    (hm : ∀ x ∈ m, x.2.length ≤ 1000) (hc : ∀ (i n : Nat) (d : Sx.D), nums[i]? = some n → ds[i]? = some d → code[n]? = some d)
    (k : ∀ σ' H', Ext S0 P0 H0 S P H' → Rel W S P (EMo s1 h .fz .fz cols names (some (.fz, .adr r)) (some (.fz, .str c)) (some (f7, .lst (nums.map fun n => .int (n : Nat)))) (some (f8, .lst code)) none none none) σ' H' → GM W S P H' r ps (fillM (.inr c) m ds) → (∀ a, S a → H' a = H a) → D.nx σ' H') :
    tFill W.K D σ H := by
  obtain ⟨v4, hv4, dv4, _⟩ := R.slot 4 _ _ rfl
  obtain ⟨v5, hv5, dv5, _⟩ := R.slot 5 _ _ rfl
  obtain ⟨v6, hv6, dv6, _⟩ := R.slot 6 _ _ rfl
  obtain ⟨v7, hv7, dv7, _⟩ := R.slot 7 _ _ rfl
  obtain ⟨v8, hv8, dv8, _⟩ := R.slot 8 _ _ rfl
  cases dv5
  cases dv6
  cases dv4 with
  | @lst aN xsN _ haN dlN => cases dv7 with
    | @lst aU xsU _ haU dlU => cases dv8 with
      | @lst aC xsC _ haC dlC =>
        obtain rfl := strs_at dlN
        obtain rfl := nats_at dlU
        have len12 : σ.length = 12 := R.len.symm
        have ml : m.length = names.length := by rw [← hk, List.length_map]
        have nolk := emo_nolk (h := h) (fc := .fz) (fn := .fz) (cols := cols) (names := names) a1 (by decide) (by decide) (nolk_fz (.adr r)) (nolk_fz (.str c)) (s7 := some (f7, .lst (nums.map fun n => .int (n : Nat)))) (fun d z => by injection z with z; injection z with z; exact a7 z) (s8 := some (f8, .lst code)) (fun d z => by injection z with z; injection z with z; exact a8 z) nolk_none nolk_none nolk_none
        refine ⟨_, hv4, _, hv7, aN, aU, _, _, rfl, SqL.of haN, SqL.of haU, ?_⟩
        generalize hen : EMo s1 h .fz .fz cols names (some (.fz, .adr r)) (some (.fz, .str c)) (some (f7, .lst (nums.map fun n => .int (n : Nat)))) (some (f8, .lst code)) none none none = en0 at R k nolk
        have n9 : en0[9]? = some none := by rw [← hen]; rfl
        have n10 : en0[10]? = some none := by rw [← hen]; rfl
        have n11 : en0[11]? = some none := by rw [← hen]; rfl
        refine RZ.for_zipL (xs := names.map V.str) (ys := nums.map fun n => V.int (n : Nat)) (by rw [List.length_map, List.length_map]; exact hn.symm)
          (fun i σ' H' => i ≤ names.length ∧ Rel W S P en0 σ' H' ∧ GM W S P H' r ps (fillN (.inr c) m ds i) ∧ Ext S0 P0 H0 S P H' ∧ (∀ j, j ≠ 9 → j ≠ 10 → j ≠ 11 → σ'[j]? = σ[j]?) ∧ (∀ b xs, H b = some (.lst xs) → H' b = some (.lst xs)) ∧ (∀ a, S a → H' a = H a))
          ⟨Nat.zero_le _, R, by rw [fillN_zero]; exact G, e0, fun _ _ _ _ => rfl, fun _ _ z => z, fun _ _ => rfl⟩ (fun i σ' H' ⟨_, _, _, _, _, kl, _⟩ => ⟨SqL.of (kl _ _ haN), SqL.of (kl _ _ haU)⟩) ?_ ?_
        · rintro i x y T σ' H' hx hy ⟨hi, R', G', e', ks, kl, kS⟩ hT
          rw [List.getElem?_map] at hx hy
          obtain ⟨nm, hnm, rfl⟩ := Option.map_eq_some_iff.mp hx
          obtain ⟨nu, hnu, rfl⟩ := Option.map_eq_some_iff.mp hy
          have ilt := lt_of_get hnm
          obtain ⟨dd, hdd⟩ : ∃ dd, ds[i]? = some dd := ⟨_, List.getElem?_eq_getElem (by omega)⟩
          obtain ⟨xm, hxm⟩ : ∃ xm, m[i]? = some xm := ⟨_, List.getElem?_eq_getElem (by omega)⟩
          have hx1 : xm.1 = nm := by
            have : (m.map (·.1))[i]? = some xm.1 := by rw [List.getElem?_map, hxm]; rfl
            rw [hk, hnm] at this
            exact (Option.some.inj this).symm
          obtain ⟨fs, fset⟩ := fillN_step (k := .inr c) (by omega) hxm hdd
          have hcode := hc i nu dd hnu hdd
          obtain ⟨cv, hcv, cz⟩ := (dlC.at (i := nu)).2 dd hcode
          obtain ⟨R1, _, e1, _, _⟩ := R'.born (u := .tup [V.str nm, V.int (nu : Nat)]) hT
          generalize hH1 : upd H' T (.tup [V.str nm, V.int (nu : Nat)]) = H1 at R1 e1
          have keep1 : ∀ b o, H' b = some o → H1 b = some o := fun b o e => by rw [← hH1]; exact upd_keeps hT b o e
          have G1 := G'.ext R'.sp e1
          obtain ⟨p, hp, hget⟩ := G1.get (by
            unfold fillN
            rw [List.map_append, fillM_keys (by rw [List.length_take]; omega), ← List.map_append, List.take_append_drop, hk]
            exact nd) fs
          have pxs := G1.it i p xm hp fs
          obtain ⟨pP, pS, vs, hvs, dvs⟩ := pxs
          have hT1 : H1 T = some (.tup [V.str nm, V.int (nu : Nat)]) := by rw [← hH1]; exact upd_same
          have haC1 : H1 aC = some (.lst xsC) := keep1 _ _ (kl _ _ haC)
          have l12 : σ'.length = 12 := by rw [← R'.len, ← hen]; rfl
          have h5 : ((σ'.set 9 (some (V.str nm))).set 10 (some (V.int (nu : Nat))))[5]? = some (some (V.ref r)) := by
            rw [List.getElem?_set_ne (by decide), List.getElem?_set_ne (by decide), ks 5 (by decide) (by decide) (by decide)]; exact hv5
          have h9 : ((σ'.set 9 (some (V.str nm))).set 10 (some (V.int (nu : Nat))))[9]? = some (some (V.str nm)) := by
            rw [List.getElem?_set_ne (by decide), List.getElem?_set_self (by omega)]
          refine ⟨T, _, rfl, SqT.of hT1, rfl, _, _, rfl, _, _, rfl, rfl, .ref r, h5, .str nm, h9, r, .ref p, rfl, by rw [← hx1]; exact hget, ?_⟩
          generalize hσ3 : ((σ'.set 9 (some (V.str nm))).set 10 (some (V.int (nu : Nat)))).set 11 (some (.ref p)) = σ3
          have k3 : ∀ j, j ≠ 9 → j ≠ 10 → j ≠ 11 → σ3[j]? = σ[j]? := fun j n1 n2 n3 => by
            rw [← hσ3, List.getElem?_set_ne n3.symm, List.getElem?_set_ne n2.symm, List.getElem?_set_ne n1.symm, ks j n1 n2 n3]
          have h8' : σ3[8]? = some (some (V.ref aC)) := by rw [k3 8 (by decide) (by decide) (by decide)]; exact hv8
          have h6' : σ3[6]? = some (some (V.str c)) := by rw [k3 6 (by decide) (by decide) (by decide)]; exact hv6
          have h10 : σ3[10]? = some (some (V.int (nu : Nat))) := by rw [← hσ3, List.getElem?_set_ne (by decide), List.getElem?_set_self (by rw [List.length_set]; omega)]
          have h11 : σ3[11]? = some (some (V.ref p)) := by rw [← hσ3, List.getElem?_set_self (by rw [List.length_set, List.length_set]; omega)]
          have lv : vs.length < sizeLine := by
            rw [dvs.lenK, sizeLine_eq]
            have := hm xm (List.mem_of_getElem? hxm)
            omega
          have R3 : Rel W S P en0 σ3 H1 := by
            rw [← hσ3]
            exact ((R1.blank n9 _).blank n10 _).blank n11 _
          subst hσ3
          refine ⟨_, h8', _, h10, aC, xsC, _, cv, rfl, rfl, SqL.of haC1, atI_nat hcv, _, h11, _, h6', p, _, rfl, DPut.k (k := .inr c) hvs lv, ?_⟩
          have cz1 : Dz W S H1 cv dd := cz.mono (fun _ h => h) fun a s => (e1.h a (R'.sp a s)).trans (kS a s)
          refine ⟨lt_of_get hnm, R3.poke pP pS nolk (Tabs.upd R3.tb hvs (nx_dK _)), ?_, ?_, k3, fun b xs hb => ?_, fun a s => ?_⟩
          · rw [← fset]
            exact G1.poke hp fs hvs dvs cz1
          · have e2 := e'.trans e1
            exact ⟨e2.s, e2.p, fun a h => by rw [upd_ne fun z => out p (.inr (List.mem_of_getElem? hp)) (by rw [← z]; exact h)]; exact e2.h a h, e2.n⟩
          · have := keep1 _ _ (kl _ _ hb)
            rw [upd_ne fun z => by rw [z, hvs] at this; cases this]
            exact this
          · rw [upd_ne fun z => pS (by rw [← z]; exact s)]
            exact (e1.h a (R'.sp a s)).trans (kS a s)
        · rintro σ' H' ⟨_, R', G', e', _, _, kS⟩
          refine k σ' H' e' R' ?_ kS
          rw [List.length_map, ← ml, fillN_all (by omega)] at G'
          exact G'
end
end Sx
set_option Elab.async false
set_option linter.all false
set_option maxRecDepth 100000
set_option maxHeartbeats 4000000
set_option autoImplicit false
namespace Sx
open PySem L2 PyProof.Rows
/-! ### the law's model, as a whole -/
def natsOf : List D → Option (List Nat)
  | [] => some []
  | .int i :: r => if 0 ≤ i then (natsOf r).map fun ns => i.toNat :: ns else none
  | _ => none
def pickD (code : List D) : List Nat → Option (List D)
  | [] => some []
  | n :: r => (code[n]?).bind fun d => (pickD code r).map fun ds => d :: ds
def turnM (c : Str) (m : Mdl) (a b : D) : Option Mdl := match a, b with
  | .lst us, .lst code => (natsOf us).bind fun ns => (pickD code ns).bind fun ds => if ds.length = m.length ∧ (m.all fun x => decide (x.2.length ≤ 1000)) = true then some (fillM (.inr c) m ds) else none
  | _, _ => none
def modelT (f1 f2 : Fn) (h : Int) : List Str → Mdl → T Mdl
  | [], m => .ret m
  | c :: cs, m => (f1 [.drw, .int h]).bind fun a => (f2 [.drw, .int h]).bind fun b => (T.ofOpt (turnM c m a.2 b.2)).bind fun m' => modelT f1 f2 h cs m'
def mdlD (m : Mdl) : D := .dK (m.map fun x => ((.inr x.1 : Key), .dK x.2))
def noLk : Slot → Bool
  | some (.lk, _) => false
  | _ => true
def sModel (f1 f2 : Fn) : RunS := fun en => match en with
  | [some (.fz, .drw), s1, some (.fz, .int h), some (fc, .lst cs), some (fn, .lst ns), _, _, _, _, _, _, _] => (T.ofOpt (strsOf cs)).bind fun cols => (T.ofOpt (strsOf ns)).bind fun names =>
      if names.Nodup ∧ names.length ≤ 1000 ∧ noLk s1 = true ∧ fc ≠ .lk ∧ fn ≠ .lk then (modelT f1 f2 h cols (names.map fun x => (x, []))).bind fun m => .ret (.rt (false, .tup [.lst cs, mdlD m]), []) else .fail
  | _ => .fail
theorem noLk_of {s : Slot} (h : noLk s = true) : NoLk s := fun d z => by subst z; cases h
theorem natsOf_some : ∀ {us : List D} {ns : List Nat}, natsOf us = some ns → us = ns.map fun n => D.int (n : Nat)
  | [], ns, h => by cases h; rfl
  | d :: us, ns, h => by
    unfold natsOf at h
    split at h
    · rename_i e; cases e
    · rename_i i r e
      cases e
      split at h
      · rename_i h0
        obtain ⟨ms, hm, rfl⟩ := Option.map_eq_some_iff.mp h
        rw [natsOf_some hm, List.map_cons, Int.toNat_of_nonneg h0]
      · cases h
    · cases h
theorem pickD_some {code : List D} : ∀ {ns : List Nat} {ds : List D}, pickD code ns = some ds → ds.length = ns.length ∧ ∀ (i n : Nat) (d : D), ns[i]? = some n → ds[i]? = some d → code[n]? = some d
  | [], ds, h => by cases h; exact ⟨rfl, fun i n d e => by simp at e⟩
  | n :: ns, ds, h => by
    obtain ⟨d, hd, h⟩ := Option.bind_eq_some_iff.mp h
    obtain ⟨es, he, rfl⟩ := Option.map_eq_some_iff.mp h
    obtain ⟨h1, h2⟩ := pickD_some he
    refine ⟨by simp [h1], fun i k e a b => ?_⟩
    cases i with
    | zero => simp at a b; subst a; subst b; exact hd
    | succ i => exact h2 i k e (by simpa using a) (by simpa using b)
theorem put_mkO {i : Nat} {c : Bool × D} {en : En} (h : i < en.length) : putO i (mkO c, en) = some (en.set i (some (if c.1 then .ow else .fz, c.2))) := by
  obtain ⟨b, d⟩ := c
  unfold putO
  cases b <;> exact if_pos h
def rbM (f1 f2 : Fn) : RunS := sPar 7 8 (rCall f1 (rCons (rVar 0) (rCons (rVar 2) rNil))) (rCall f2 (rCons (rVar 0) (rCons (rVar 2) rNil)))
theorem rbM_run {f1 f2 : Fn} {s1 s3 s4 s5 s6 s7 s8 s9 s10 s11 : Slot} {h : Int} : rbM f1 f2 [some (.fz, .drw), s1, some (.fz, .int h), s3, s4, s5, s6, s7, s8, s9, s10, s11] =
    (f1 [.drw, .int h]).bind fun a => (f2 [.drw, .int h]).bind fun b => .ret (.nx, [some (.fz, .drw), s1, some (.fz, .int h), s3, s4, s5, s6, some (if a.1 then .ow else .fz, a.2), some (if b.1 then .ow else .fz, b.2), s9, s10, s11]) := by
  unfold rbM sPar
  have e : ∀ f : Fn, (rCall f (rCons (rVar 0) (rCons (rVar 2) rNil))) [some (.fz, .drw), s1, some (.fz, .int h), s3, s4, s5, s6, s7, s8, s9, s10, s11] = (f [.drw, .int h]).bind fun c => .ret (mkO c, [some (.fz, .drw), s1, some (.fz, .int h), s3, s4, s5, s6, s7, s8, s9, s10, s11]) := fun f => rfl
  rw [e f1, T.bind_assoc]
  congr 1
  funext a
  rw [T.ret_bind, e f2, T.bind_assoc]
  congr 1
  funext b
  rw [T.ret_bind]
  simp only
  rw [put_mkO (by simp)]
  show (T.ofOpt (putO 8 (mkO b, _))).bind _ = _
  rw [put_mkO (by simp)]
  rfl
section
variable {W : Wd} {S P S' P' S0 P0 : Addr → Prop} {en : En} {σ : L2.St} {H H' H0 : Hp} {v : V} {d : D} {r : Addr} {ps : List Addr} {m : Mdl} {X : Cx}
theorem Rel.frz (R : Rel W S P en σ H) {i : Nat} {f : Fg} (e : en[i]? = some (some (f, d))) (nl : f ≠ .lk) : ∃ S' P', Ext S P H S' P' H ∧ Rel W S' P' (en.set i (some (.fz, d))) σ H := by
  cases f with
  | lk => exact absurd rfl nl
  | fz =>
    have : en.set i (some (.fz, d)) = en := by
      apply List.ext_getElem?
      intro j
      by_cases z : i = j
      · subst z; rw [List.getElem?_set_self (lt_of_get e), e]
      · rw [List.getElem?_set_ne z]
    rw [this]
    exact ⟨S, P, .refl, R⟩
  | ow =>
    obtain ⟨p, o, hv, dv, hf, ho⟩ := R.free e
    obtain ⟨ex, R2⟩ := (R.drop i).freeze hf ho
    have dz : Dz W (add S p) H (.ref p) d := by
      refine ⟨?_, dv.mono ex.s (fun _ _ => rfl) ?_⟩
      · cases d <;> first | exact trivial | exact Or.inr rfl
      · cases d <;> first | exact trivial | exact rfl
    have R3 := R2.put (i := i) (by rw [List.length_set]; exact lt_of_get e) dz
    rw [set_set_same R i _ hv, List.set_set] at R3
    exact ⟨_, _, ex, R3⟩
theorem strsOf_some : ∀ {ds : List D} {xs : List Str}, strsOf ds = some xs → ds = xs.map D.str
  | [], xs, h => by cases h; rfl
  | d :: ds, xs, h => by
    cases d with
    | str x =>
      obtain ⟨ys, hy, h⟩ := Option.bind_eq_some_iff.mp h
      cases h
      rw [strsOf_some hy]
      rfl
    | _ => cases h
/-- the return -/
theorem t_back {D : Ends} {s1 : Slot} {h : Int} {cols names : List Str} {s6 s7 s8 s9 s10 s11 : Slot} (R : Rel W S P (EMo s1 h .fz .fz cols names (some (.fz, .adr r)) s6 s7 s8 s9 s10 s11) σ H) (G : GM W S P H r ps m) (e0 : Ext S0 P0 H0 S P H) (d0 : ∀ a, P0 a → ∃ o, H0 a = some o) (out : ∀ a, a = r ∨ a ∈ ps → ¬ P0 a)
    (k : ∀ v H' S' P', Ext S0 P0 H0 S' P' H' → RetOk W S' P' H' → ROk W S' P' H' v (false, .tup [.lst (cols.map .str), mdlD m]) → D.rt v H') : tRet (tTup (tCons (tVar 3) (tCons (tVar 5) tNil))) D σ H := by
  obtain ⟨v3, hv3, dv3, tn3, _⟩ := R.slot 3 _ _ rfl
  obtain ⟨v5, hv5, dv5, _⟩ := R.slot 5 _ _ rfl
  cases dv5
  cases dv3 with
  | @lst a xs _ ha dl =>
    refine ⟨_, hv3, _, hv5, by show 2 ≤ sizeLine; rw [sizeLine_eq]; decide, fun p hp => ?_⟩
    obtain ⟨dvG, subP⟩ := G.freeze R
    have nP : ¬ P p := fun z => by obtain ⟨o, e⟩ := R.pd p z; rw [hp] at e; cases e
    have ne : ∀ {b : Addr}, P b → upd H p (.tup [V.ref a, V.ref r]) b = H b := fun {b} s => upd_ne fun z => nP (by rw [← z]; exact s)
    have e2 : Ext S0 P0 H0 (fun b => (S b ∨ b = r ∨ b ∈ ps) ∨ b = p) (fun b => P b ∨ b = p) (upd H p (.tup [V.ref a, V.ref r])) := by
      refine ⟨fun b s => .inl (.inl (e0.s b s)), fun b s => .inl (e0.p b s), fun b s => (ne (e0.p b s)).trans (e0.h b s), fun b s => ?_⟩
      rcases s with (s | s) | s
      · exact e0.n b s
      · exact .inr (out b s)
      · refine .inr fun z => nP (by rw [← s]; exact e0.p b z)
    refine k (.ref p) _ _ _ e2 ⟨fun b s => s.elim (fun s => .inl (subP b s)) .inr, fun b s => ?_, ?_, ?_, R.tb.ext (upd_keeps hp)⟩ ⟨.tup (.inl ⟨.inr rfl, upd_same⟩) (.cons (.inl (.inl (tn3 rfl))) ?_ (.cons (.inl (.inr (.inl rfl))) ?_ .nil)), fun _ => trivial, fun z => by cases z⟩
    · rcases s with s | s
      · obtain ⟨o, e⟩ := R.pd b (subP b s)
        exact ⟨o, (ne (subP b s)).trans e⟩
      · rw [s]; exact ⟨_, upd_same⟩
    · obtain ⟨nd, ns, i, j, k, h1, h2, h3⟩ := R.dr
      exact ⟨nd, ns, i, j, k, by rw [upd_ne fun z => by rw [z, hp] at h1; cases h1]; exact h1, by rw [upd_ne fun z => by rw [z, hp] at h2; cases h2]; exact h2, h3⟩
    · obtain ⟨nd, ns, i, j, k, h1, h2, h3⟩ := R.dr
      exact ⟨fun z => z.elim R.drP.1 fun z => (by rw [z, hp] at h1; cases h1), R.drP.2.add (NB.of_none ⟨_, h2⟩ R.tb hp)⟩
    · exact .lst ((ne (R.sp a (tn3 rfl))).trans ha) (dl.mono (fun b s => .inl (.inl s)) fun b s => ne (R.sp b s))
    · exact dvG.mono (fun b s => .inl s) (fun b s => ne (subP b s)) (ne G.pr.1)
/-- a turn of the columns, and what follows -/
theorem t_cols {D : Ends} {f1 f2 : Fn} {s1 : Slot} {h : Int} {cols names : List Str} (R : Rel W S P (EMo s1 h .fz .fz cols names (some (.fz, .adr r)) none none none none none none) σ H) (G : GM W S P H r ps m) (a1 : NoLk s1) (e0 : Ext S0 P0 H0 S P H) (d0 : ∀ a, P0 a → ∃ o, H0 a = some o)
    (out : ∀ a, a = r ∨ a ∈ ps → ¬ P0 a) (hk : m.map (·.1) = names) (nd : names.Nodup) (hl : names.length ≤ 1000)
    (w : (modelT f1 f2 h cols m).wp fun m' => ∀ v H' S' P', Ext S0 P0 H0 S' P' H' → RetOk W S' P' H' → ROk W S' P' H' v (false, .tup [.lst (cols.map .str), mdlD m']) → D.rt v H') :
    tFor (iList W.K (tVar 3)) (gName 6) (tSeq (TVS W (rbM f1 f2)) (tFill W.K)) { D with nx := fun σ' H' => tRet (tTup (tCons (tVar 3) (tCons (tVar 5) tNil))) D σ' H' } σ H := by
  obtain ⟨v3, hv3, dv3, tn3, _⟩ := R.slot 3 _ _ rfl
  cases dv3 with
  | @lst aC xs _ haC dlC =>
    obtain rfl := strs_at dlC
    refine ⟨_, hv3, aC, rfl, ⟨_, SqL.of haC⟩, ?_⟩
    refine for_list (xs := cols.map V.str) (fun i σ' H' => ∃ S' P' m', Rel W S' P' (EMo s1 h .fz .fz cols names (some (.fz, .adr r)) none none none none none none) σ' H' ∧ GM W S' P' H' r ps m' ∧ Ext S0 P0 H0 S' P' H' ∧ m'.map (·.1) = names ∧ S' aC ∧ H' aC = some (.lst (cols.map V.str)) ∧
        (modelT f1 f2 h (cols.drop i) m').wp fun m' => ∀ v H' S' P', Ext S0 P0 H0 S' P' H' → RetOk W S' P' H' → ROk W S' P' H' v (false, .tup [.lst (cols.map .str), mdlD m']) → D.rt v H')
      ⟨S, P, m, R, G, e0, hk, tn3 rfl, haC, w⟩ (fun i σ' H' _ ⟨S', P', m', _, _, _, _, _, ha, _⟩ => SqL.of ha) ?_ ?_
    · rintro i x σ' H' hx ⟨S1, P1, m1, R1, G1, e1, hk1, sC, hC, w1⟩
      rw [List.getElem?_map] at hx
      obtain ⟨c, hc, rfl⟩ := Option.map_eq_some_iff.mp hx
      rw [drop_at hc, modelT] at w1
      have R2 := R1.put (i := 6) (v := .str c) (d := .str c) (by show 6 < 12; decide) ⟨trivial, .str c⟩
      refine ⟨S1, P1, _, R2, ?_⟩
      show (rbM f1 f2 (EMo s1 h .fz .fz cols names (some (.fz, .adr r)) (some (.fz, .str c)) none none none none none)).wp _
      rw [rbM_run]
      have w1 := (T.wp_bind _ _ _).mp w1
      refine (T.wp_bind _ _ _).mpr (T.wp_mono w1 fun a w2 => ?_)
      have w2 := (T.wp_bind _ _ _).mp w2
      refine (T.wp_bind _ _ _).mpr (T.wp_mono w2 fun b w3 => ?_)
      obtain ⟨m2, hm2, w4⟩ := T.wp_ofOpt ((T.wp_bind _ _ _).mp w3)
      obtain ⟨fa, da⟩ := a
      obtain ⟨fb, db⟩ := b
      unfold turnM at hm2
      split at hm2
      case h_2 => cases hm2
      rename_i us code ea eb
      cases ea
      cases eb
      obtain ⟨ns, hns, hm2⟩ := Option.bind_eq_some_iff.mp hm2
      obtain ⟨ds, hds, hm2⟩ := Option.bind_eq_some_iff.mp hm2
      split at hm2
      case isFalse => cases hm2
      rename_i hcond
      cases hm2
      have ml1 : m1.length = names.length := by rw [← hk1, List.length_map]
      obtain ⟨pl, pc⟩ := pickD_some hds
      obtain rfl := natsOf_some hns
      intro σ2 H2 S2 P2 e2 R3
      have hfa : (if fa = true then Fg.ow else Fg.fz) ≠ .lk := by split <;> decide
      have hfb : (if fb = true then Fg.ow else Fg.fz) ≠ .lk := by split <;> decide
      have lk1 : ns.length = names.length := by rw [← pl, hcond.1, ml1]
      have ds1 : ds.length = names.length := by rw [hcond.1, ml1]
      have cell : ∀ x ∈ m1, x.2.length ≤ 1000 := fun x hx => of_decide_eq_true (List.all_eq_true.mp hcond.2 x hx)
      refine t_fill (f7 := if fa = true then Fg.ow else Fg.fz) (f8 := if fb = true then Fg.ow else Fg.fz) R3 (G1.ext R1.sp e2) a1 hfa hfb (e1.trans e2) out hk1 nd lk1 ds1 hl cell pc fun σ3 H3 e3 R4 G4 kS => ?_
      have R5 := ((R4.drop 6).drop 7).drop 8
      refine ⟨S2, P2, _, R5, G4, e3, (fillM_keys (by omega)).trans hk1, e2.s _ sC, ?_, w4⟩
      rw [kS aC (e2.s _ sC), e2.h aC (R1.sp _ sC)]
      exact hC
    · rintro σ' H' ⟨S', P', m', R', G', e', _, _, _, w'⟩
      rw [List.length_map, List.drop_length] at w'
      exact t_back R' G' e' d0 out w'
theorem z_model {f1 f2 : Fn} {stA stB stR : Stmt} (hA : PS X stA (tAsg (tCB (rDictP W.K) (tCons (tLc (iList W.K (tVar 4)) (gName 9) tYes (tTup (tCons (tVar 9) (tCons tDNewK tNil))) [9]) tNil)) (gName 5)))
    (hB : PS X stB (tFor (iList W.K (tVar 3)) (gName 6) (tSeq (TVS W (rbM f1 f2)) (tFill W.K)))) (hR : PS X stR (tRet (tTup (tCons (tVar 3) (tCons (tVar 5) tNil))))) : PSs X [stA, stB, stR] (TVS W (sModel f1 f2)) :=
  pss_weak (pss_cons hA (pss_cons hB (pss_one hR))) fun D σ H h => by
    obtain ⟨S, P, en, R, w⟩ := h
    unfold sModel at w
    split at w
    case h_2 => exact w.elim
    rename_i s1 hh fc cs fn ns s5 s6 s7 s8 s9 s10 s11
    obtain ⟨cols, hcols, w⟩ := T.wp_ofOpt ((T.wp_bind _ _ _).mp w)
    obtain ⟨names, hnames, w9⟩ := T.wp_ofOpt ((T.wp_bind _ _ _).mp w)
    split at w9
    case isFalse => exact w9.elim
    rename_i hcond
    obtain ⟨nd, hl, hs1, nfc, nfn⟩ := hcond
    obtain rfl := strsOf_some hcols
    obtain rfl := strsOf_some hnames
    obtain ⟨S1, P1, e1, R1⟩ := R.frz (i := 3) rfl nfc
    obtain ⟨S2, P2, e2, R2⟩ := R1.frz (i := 4) rfl nfn
    have e12 := e1.trans e2
    obtain ⟨v4, hv4, dv4, tn4, _⟩ := R2.slot 4 _ _ rfl
    have len12 : σ.length = 12 := R2.len.symm
    cases dv4 with
    | @lst aN xs _ haN dlN =>
      obtain rfl := strs_at dlN
      refine t_rows (by omega) (by decide) hv4 haN nd hl fun r ps H' keep hr hps lps ndp rp top cells => ?_
      have fresh : ∀ a, a = r ∨ a ∈ ps → H a = none ∧ ∃ o, H' a = some o := fun a h => h.elim (fun e => by rw [e]; exact ⟨hr, _, top⟩) fun h => ⟨hps a h, _, cells a h⟩
      obtain ⟨e3, R3⟩ := R2.fresh keep (fun a => a = r ∨ a ∈ ps) fresh
      have nS : ∀ a, a = r ∨ a ∈ ps → ¬ S2 a := fun a h s => by
        obtain ⟨o, e⟩ := R2.dom a s
        rw [(fresh a h).1] at e
        cases e
      have G : GM W S2 (fun a => P2 a ∨ a = r ∨ a ∈ ps) H' r ps (names.map fun x => (x, [])) := by
        refine ⟨?_, by rw [List.length_map]; exact lps, ndp, rp, ⟨.inr (.inl rfl), nS r (.inl rfl)⟩, fun i p x hp hx => ?_⟩
        · rw [top]
          unfold topK
          rw [List.map_map]
          have : ((fun x : Str × List (Key × Sx.D) => x.1) ∘ fun x : Str => (x, ([] : List (Key × Sx.D)))) = id := rfl
          rw [this, List.map_id]
        · rw [List.getElem?_map] at hx
          obtain ⟨y, hy, rfl⟩ := Option.map_eq_some_iff.mp hx
          have mp := List.mem_of_getElem? hp
          exact ⟨.inr (.inr mp), nS p (.inr mp), [], cells p mp, .nil⟩
      have R4 := R3.put (i := 5) (v := .ref r) (d := .adr r) (by show 5 < 12; decide) ⟨trivial, .adr r⟩
      have R5 := (((((R4.drop 6).drop 7).drop 8).drop 9).drop 10).drop 11
      have w8 := (T.wp_bind _ _ _).mp w9
      refine t_cols (D := D) (f1 := f1) (f2 := f2) R5 G (noLk_of hs1) (e12.trans e3) (fun a h => R.pd a h) (fun a h z => ?_) (by rw [List.map_map]; exact List.map_id _) nd hl (T.wp_mono w8 fun m q => ?_)
      · obtain ⟨o, e⟩ := R.pd a z
        rw [(fresh a h).1] at e
        cases e
      · exact fun v H2 S3 P3 ex ro rk => q v H2 S3 P3 ex ro rk
end
end Sx
set_option Elab.async false
set_option linter.all false
set_option maxRecDepth 100000
set_option maxHeartbeats 4000000
set_option autoImplicit false
namespace Sx
open PySem L2 PyProof.Rows
/-! ### sorted(xs, key=lambda one: (len(one), one)) -/
section
variable {prog : Program} {w : World} {A : Around} {E : Value → Shared → Prop} {s : Shared}
/-- the key of one tuple: its length, and itself -/
theorem key_eval {env : Env} {x : Str} {p1 p2 p3 p4 p5 : Pos} {k : Nat} {t : Addr} {its : Array Value} {m mg mb : Str → Option Value} {Q : Value → Shared → Prop} (hk : env.scope.kind = .function) (hx : env.kindOf x = some .local) (hlen : env.kindOf "len" = some .globalImplicit) (hn : s.heap.Ns env.locals m) (hm : m x = some (.ref t))
    (hg : s.heap.Ns env.globals mg) (hmg : mg "len" = none) (hb : s.heap.Ns env.builtins mb) (hmb : mb "len" = some (.builtin "len")) (ht : IsTup s.heap t its) (hz : (its.size : Int) < 2 ^ 62) (hd : (x == ("__debug__" : Str)) = false)
    (h : ∀ tk tk', Q (.ref s.heap.objs.size) { s with heap := s.heap.push { cls := .type "tuple", data := .seq #[.int its.size tk, .ref t] }, toks := tk' }) :
    wpAny (model prog w) A (eval (.Tuple [.Call (.Name "len" p1) [.Name x p2] [] p3, .Name x p4] k p5) env) Q E s := by
  refine wpAny_Tuple_spliced ?_
  show wpAny _ _ (spliced ((false, eval (.Call (.Name "len" p1) [.Name x p2] [] p3) env) :: (false, eval (.Name x p4) env) :: [])) _ _ _
  refine Calls.spliced_cons ?_
  refine wpAny_Call_Name_kw (Calls.Name_function_global hk hlen (Calls.loadGlobal_builtin hg hmg hb hmb ?_))
  refine PyProof.Rows.callWith_builtin1 (Calls.spliced_cons (wpAny_Name (wpAny_loadName_local hk hx hn hm (Calls.spliced_nil ?_)) hd))
  refine len_tuple ht (by omega) ?_
  refine Calls.spliced_cons (wpAny_Name (wpAny_loadName_local hk hx hn hm (Calls.spliced_nil ?_)) hd)
  exact ⟨by show 2 ≤ sizeLine; rw [sizeLine_eq]; decide, h _ _⟩
theorem key_call {f c' t : Addr} {q x : Str} {params : Arguments} {scope : Scope} {cl : List (Str × Addr)} {pm ctv : Value} {p1 p2 p3 p4 p5 : Pos} {k : Nat} {its : Array Value} {mg mb : Str → Option Value} {Q : Value → Shared → Prop} (hroom : A.depth < recursionLimit)
    (ho : s.heap.get? f = some (PySem.W.kla_obj "<lambda>" q params (.Tuple [.Call (.Name "len" p1) [.Name x p2] [] p3, .Name x p4] k p5) scope cl pm c' ctv)) (hco : scope.isCoroutine = false) (hgen : scope.isGenerator = false) (hcd : s.heap.CodeRec (.ref c') q)
    (hkind : scope.kind = .function) (hcell : ∀ y ∈ scope.names, y.2 ≠ .cell) (hx : scope.names.lookup x = some .local) (hlen : scope.names.lookup ("len" : Str) = some NameKind.globalImplicit) (hbind : ∀ v : Value, bindArgs (PySem.W.kla_fn "<lambda>" q params (.Tuple [.Call (.Name "len" p1) [.Name x p2] [] p3, .Name x p4] k p5) scope cl pm (.ref c') ctv) ⟨[v], []⟩ = pure [(x, v)])
    (lim : s.heap.NoLimit) (hg : s.heap.Ns mainGlobals mg) (hmg : mg "len" = none) (hb : s.heap.Ns builtinsNs mb) (hmb : mb "len" = some (.builtin "len")) (ht : IsTup s.heap t its) (hz : (its.size : Int) < 2 ^ 62) (hd : (x == ("__debug__" : Str)) = false)
    (h : ∀ h' b tk tk', (∀ b o, s.heap.get? b = some o → h'.get? b = some o) → h'.get? b = some { cls := .type "tuple", data := .seq #[.int its.size tk, .ref t] } → Q (.ref b) { s with heap := h', toks := tk' }) :
    wpAny (model prog w) A (call (.ref f) [.ref t]) Q E s := by
  refine wpAny_call (PySem.W.kla_callFunE hroom ho rfl hco hgen rfl hcd ?_)
  rw [hbind]
  refine wpAny_pure (wpAny_newFunctionEnv hcell (fun y hy => by rw [List.mem_singleton.mp hy]; exact hx) (fun h₁ hns hsb => ⟨lim.fresh _ hsb, ?_⟩) hkind)
  have kp : ∀ b o, s.heap.get? b = some o → h₁.get? b = some o := fun b o e => hsb.extBut b o (Nat.ne_of_lt (Heap.lt_size e)) (Heap.get?_push_of_some _ e)
  refine PySem.W.kla_codeExpr (key_eval (x := x) (m := fun y => ([(x, Value.ref t)] : List (Str × Value)).reverse.lookup y) (mg := mg) (mb := mb) (t := t) (its := its) hkind hx hlen hns (by simp) (hg.keeps kp) hmg (hb.keeps kp) hmb (by obtain ⟨o, e, r⟩ := ht; exact ⟨o, kp _ _ e, r⟩) hz hd fun tk tk' => ?_)
  exact h _ _ tk tk' (fun b o e => Heap.get?_push_of_some _ (kp b o e)) (Heap.get?_push_size _ rfl)
end

/-! the lambda is made: all but its table stays -/
section
variable {X : Cx} {pins : List (Addr × Obj)} {σ : L2.St} {H : Hp} {s : Shared}
/-- all stands but the table at Pt -/
def ExtT (Pt : Addr) (H H' : Hp) : Prop := ∀ a u, a ≠ Pt → H a = some u → H' a = some u
abbrev lmO (q : Str) (params : Arguments) (body : Expr) (scope : Scope) (cl : List (Str × Addr)) (pm : Value) (c' : Addr) (ctv : Value) : Obj := PySem.W.kla_obj "<lambda>" q params body scope cl pm c' ctv
theorem lam_made {T : List (Addr × Str)} {c Pt : Addr} {params : Arguments} {body : Expr} {scope : Scope} {pos : Pos} {E Q : Value → Shared → Prop} (I : Inv X pins σ H s) (TB : LamX.TabB X.base X.mg c Pt) (hc : X.env.code = .ref c)
    (inT : (Pt, X.env.qual ++ "<lambda>") ∈ T) (one : ∀ p ∈ T, p.1 = Pt → p.2 = X.env.qual ++ "<lambda>") (tabs : LamX.Tabs T H) (nodef : defaultsOf params X.env = ([], [])) (caps : ∀ y ∈ scope.names, y.2 = .free → ∃ c, X.env.cells.lookup y.1 = some c)
    (fin : ∀ (f c' : Addr) (pm ctv : Value) (H1 : Hp) (s' : Shared), Inv X pins σ H1 s' → ExtT Pt H H1 → LamX.Tabs T H1 →
      s'.heap.get? f = some (lmO (X.env.qual ++ "<lambda>") params body scope (cloFrom X.env.cells scope.names []) pm c' ctv) → H1 f = none → H1 c' = some (LamX.CodeO c' (X.env.qual ++ "<lambda>")) → s.heap.objs.size ≤ f → Q (.ref f) s') :
    wpAny (model X.prog X.w) X.A (eval (.Lambda params body scope pos) X.env) Q E s := by
  generalize hq : X.env.qual ++ "<lambda>" = q at inT one fin
  obtain ⟨rows, hP, tri, all⟩ := tabs _ inT
  have bat : s.heap.BuiltinsAt X.mg Pt := TB.bm.keeps I.bk
  have atP : s.heap.get? Pt = some { cls := .none, data := .fields rows } := I.hok Pt _ hP
  refine PySem.W.kla_eval nodef ?_
  cases found : codeAmong pos rows.toList with
  | some cv =>
    obtain ⟨c', rfl, known⟩ := all pos cv found
    refine PySem.W.kla_makeFunctionHit (ps := rows) (P := Pt) (c := c) (mg := X.mg) (closure_ok caps) I.ok.glob (I.mod.glob.keeps I.bk) hc (TB.code.keeps I.bk) atP tri found bat fun ctv h' tk grows hsz => ?_
    rw [hq]
    refine fin _ c' _ ctv H _ (I.kept fun a o e => Heap.get?_push_of_some _ (grows a o e)) (fun a u _ e => e) tabs (Heap.get?_push_size _ rfl) (I.hok.fresh hsz) known hsz
  | none =>
    refine PySem.W.kla_makeFunction (ps := rows) (P := Pt) (c := c) (mg := X.mg) (closure_ok caps) I.ok.glob (I.mod.glob.keeps I.bk) hc (TB.code.keeps I.bk) atP tri found TB.gP bat fun c' ctv h' tk others big small rec tab => ?_
    obtain ⟨c2, oc, fs, tq, same2, hoc, hdat, hname⟩ := rec
    cases same2
    rw [hq] at hname ⊢
    have new : H c' = none := I.hok.fresh big
    have size : s.heap.objs.size ≤ h'.objs.size := Nat.le_trans big (Nat.le_of_lt small)
    let more : Array Value := #[rawInt pos.line, rawInt pos.col, .ref c']
    let H1 : Hp := upd (upd H Pt (.tbl (rows ++ more))) c' (LamX.CodeO c' q)
    have I1 := LamX.inv_table (t' := tk) (q := q) (more := more) (h' := h'.push (lmO q params body scope (cloFrom X.env.cells scope.names []) ((X.mg "__name__").getD .none) c' ctv)) I hP
      (fun a o ne e => Heap.get?_push_of_some _ (others a o ne e)) (Heap.get?_push_of_some _ tab) big ⟨oc, fs, tq, Heap.get?_push_of_some _ hoc, hdat, hname⟩
    have keep : ExtT Pt H H1 := fun a u ne e => by
      show upd (upd H Pt _) c' _ a = _
      rw [upd_ne (ne_of_none e new), upd_ne ne, e]
    have codeNe : ∀ {a : Addr} {b : Addr} {z : Str}, H a = some (LamX.CodeO b z) → a ≠ Pt := fun e z => by
      rw [z, hP] at e
      cases e
    have rowsEq : (rows ++ more).toList = rows.toList ++ [rawInt pos.line, rawInt pos.col, .ref c'] := by simp [more]
    have tabs1 : LamX.Tabs T H1 := fun p hp => by
      obtain ⟨rows', a1, a2, a3⟩ := tabs p hp
      by_cases same : p.1 = Pt
      · rw [one p hp same, same]
        refine ⟨rows ++ more, ?_, by rw [rowsEq]; exact PySem.TriplesOk_snoc _ _ _ _ tri, fun pos' cv hcv => ?_⟩
        · show upd (upd H Pt _) c' _ Pt = _
          rw [upd_ne (ne_of_none hP new), upd_same]
        · rw [rowsEq] at hcv
          rcases LamX.among_app _ tri hcv with z | z
          · obtain ⟨c0, e1, e2⟩ := all pos' cv z
            exact ⟨c0, e1, keep _ _ (codeNe e2) e2⟩
          · exact ⟨c', z, upd_same⟩
      · refine ⟨rows', keep _ _ same a1, a2, fun pos' cv hcv => ?_⟩
        obtain ⟨c0, e1, e2⟩ := a3 pos' cv hcv
        exact ⟨c0, e1, keep _ _ (codeNe e2) e2⟩
    refine fin h'.objs.size c' _ ctv H1 _ I1 keep tabs1 (Heap.get?_push_size _ rfl) ?_ upd_same size
    show upd (upd H Pt _) c' _ _ = _
    rw [upd_ne (Nat.ne_of_gt small), upd_ne (Nat.ne_of_gt (Nat.lt_of_lt_of_le (Heap.lt_size atP) size))]
    exact I.hok.fresh size
end
end Sx
set_option Elab.async false
set_option linter.all false
set_option maxRecDepth 100000
set_option maxHeartbeats 4000000
set_option autoImplicit false
namespace Sx
open PySem L2 PyProof.Rows
def keyL (xs : List Str) : PyData := .tuple [.int (xs.length : Nat), .tuple (xs.map PyData.str)]
theorem alike_strs : ∀ xs ys : List Str, PySem.W.alikeAll (xs.map PyData.str) (ys.map PyData.str) = true
  | [], _ => by rw [List.map_nil, PySem.W.alikeAll]
  | _ :: _, [] => by rw [List.map_cons, List.map_nil, PySem.W.alikeAll]
  | x :: xs, y :: ys => by rw [List.map_cons, List.map_cons, PySem.W.alikeAll, PySem.W.alike, alike_strs xs ys]; rfl
theorem keyL_alike (xs ys : List Str) : PySem.W.alike (keyL xs) (keyL ys) = true := by
  unfold keyL
  rw [PySem.W.alike, PySem.W.alikeAll, PySem.W.alike, PySem.W.alikeAll, PySem.W.alike, alike_strs, PySem.W.alikeAll]
  rfl
theorem strs_depth : ∀ xs : List Str, PyData.depthAll (xs.map PyData.str) ≤ 1
  | [] => by simp [PyData.depthAll]
  | x :: xs => by
    have := strs_depth xs
    rw [List.map_cons, PyData.depthAll, PyData.depth]
    omega
theorem keyL_depth (xs : List Str) : (keyL xs).depth ≤ 5 := by
  have := strs_depth xs
  unfold keyL
  rw [PyData.depth, PyData.depthAll, PyData.depth, PyData.depthAll, PyData.depth, PyData.depthAll]
  omega
theorem reads_strs {h : Heap} : ∀ {xs : List Str} {us : List Value}, Vals (xs.map V.str) us → ReadsAll h us (xs.map PyData.str) []
  | [], us, r => by cases r; exact .nil
  | x :: xs, us, r => by
    cases r with
    | cons r1 r2 =>
      obtain ⟨t, rfl⟩ := r1
      exact .cons (as := []) (bs := []) (.str x t) (reads_strs r2)
theorem SqL.extT {K : PySem.W.Frag} {H H' : Hp} {Pt a : Addr} {xs : List V} {ps : Array Value} (e : ExtT Pt H H') (t : H Pt = some (.tbl ps)) (h : SqL K H a xs) : SqL K H' a xs := by
  rcases h with (h | ⟨o, h⟩) | h
  · exact .inl (.inl (e _ _ (fun z => by rw [z, t] at h; cases h) h))
  · exact .inl (.inr ⟨o, e _ _ (fun z => by rw [z, t] at h; cases h) h⟩)
  · exact .inr h
theorem SqT.extT {K : PySem.W.Frag} {H H' : Hp} {Pt a : Addr} {xs : List V} {ps : Array Value} (e : ExtT Pt H H') (t : H Pt = some (.tbl ps)) (h : SqT K H a xs) : SqT K H' a xs := by
  rcases h with (h | ⟨o, h⟩) | h
  · exact .inl (.inl (e _ _ (fun z => by rw [z, t] at h; cases h) h))
  · exact .inl (.inr ⟨o, e _ _ (fun z => by rw [z, t] at h; cases h) h⟩)
  · exact .inr h
def srtK (bs : List (List Str × V)) : List V := (bs.mergeSort (PySem.W.dataLe false fun z => keyL z.1)).map (·.2)
def tSortK (T : List (Addr × Str)) (Pt : Addr) (K : PySem.W.Frag) (t : TA) : TE := fun σ H Q => t σ H fun vs H1 => LamX.Tabs T H1 ∧ ∃ (a : Addr) (bs : List (List Str × V)), vs = [.ref a] ∧ SqL K H1 a (bs.map (·.2)) ∧ (∀ z ∈ bs, z.1.length ≤ 4096 ∧ ∃ u, z.2 = .ref u ∧ SqT K H1 u (z.1.map V.str)) ∧ bs.length ≤ 4096 ∧
  ∀ H2 p, ExtT Pt H1 H2 → LamX.Tabs T H2 → H2 p = none → Q (.ref p) (upd H2 p (.lst (srtK bs)))
def RK (h : Heap) (v : Value) (z : List Str × V) : Prop := RelV z.2 v ∧ ∃ t its, v = .ref t ∧ IsTup h t its ∧ Vals (z.1.map V.str) its.toList
theorem rk_each {X : Cx} {pins : List (Addr × Obj)} {σ : L2.St} {H : Hp} {s : Shared} (I : Inv X pins σ H s) : ∀ {bs : List (List Str × V)} {us : List Value}, (∀ z ∈ bs, z.1.length ≤ 4096 ∧ ∃ u, z.2 = .ref u ∧ SqT X.K H u (z.1.map V.str)) → Vals (bs.map (·.2)) us → PySem.W.EachIs (RK s.heap) us bs
  | [], us, _, r => by cases r; exact .nil
  | z :: bs, us, h, r => by
    cases r with
    | cons r1 r2 =>
      obtain ⟨_, u, e, ht⟩ := h z List.mem_cons_self
      have r1' : RelV z.2 _ := r1
      rw [e] at r1'
      cases r1'
      obtain ⟨its, rv, it, _⟩ := I.tuple ht
      exact .cons ⟨r1, u, its.toArray, rfl, it, by simpa using rv⟩ (rk_each I (fun y hy => h y (List.mem_cons_of_mem _ hy)) r2)
theorem rk_vals {h : Heap} {bs : List (List Str × V)} {us : List Value} (e : PySem.W.EachIs (RK h) us bs) : Vals (bs.map (·.2)) us := by
  induction e with
  | nil => exact .nil
  | cons h1 h2 ih => exact .cons h1.1 ih

/-- the lambda's own shape -/
structure KeyLam (X : Cx) (x : Str) (params : Arguments) (body : Expr) (scope : Scope) : Prop where
  kind : scope.kind = .function
  co : scope.isCoroutine = false
  gen : scope.isGenerator = false
  cell : ∀ y ∈ scope.names, y.2 ≠ .cell ∧ y.2 ≠ .free
  loc : scope.names.lookup x = some .local
  len : scope.names.lookup ("len" : Str) = some NameKind.globalImplicit
  form : ∃ p1 p2 p3 p4 p5 k, body = .Tuple [.Call (.Name "len" p1) [.Name x p2] [] p3, .Name x p4] k p5
  bind : ∀ (q : Str) (cl : List (Str × Addr)) (pm cv ctv v : Value), bindArgs (PySem.W.kla_fn "<lambda>" q params body scope cl pm cv ctv) ⟨[v], []⟩ = pure [(x, v)]
  db : (x == ("__debug__" : Str)) = false
theorem pe_sortK {X : Cx} {T : List (Addr × Str)} {c Pt : Addr} {x : Str} {params : Arguments} {body e : Expr} {scope : Scope} {t : TA} {k : Nat} {p pos lpos kpos : Pos} (L : KeyLam X x params body scope) (TB : LamX.TabB X.base X.mg c Pt) (hc : X.env.code = .ref c) (inT : (Pt, X.env.qual ++ "<lambda>") ∈ T) (one : ∀ p ∈ T, p.1 = Pt → p.2 = X.env.qual ++ "<lambda>")
    (nodef : defaultsOf params X.env = ([], [])) (hr : Room k X.A) (hm : X.mg "sorted" = none) (hml : X.mg "len" = none) (ha : PA X [e] t) (hg : Gl X "sorted" := by rfl)
    (he : backTo pos (starEach [e] X.env) = (false, eval e X.env) :: backTo pos (starEach [] X.env) := by rfl) (hpl : (backTo pos (starEach [e] X.env)).any (·.1) = false := by rfl) :
    PE X (.Call (.Name "sorted" p) [e] [⟨some "key", .Lambda params body scope lpos, kpos⟩] pos) (tSortK T Pt X.K t) := by
  refine ⟨fun pins s σ H Q I h => ?_⟩
  refine wpAny_Call_Name_kw (ld_blt I hg hm (by decide +kernel : bootBuiltins "sorted" = some (.builtin "sorted")) ?_)
  refine PyProof.Rows.callWith_kw (thn (ha.run pos pins s σ H _ I h) fun us s1 ⟨vs, H1, I1, r1, q1⟩ => ?_) he hpl
  obtain ⟨tabs, a, bs, rfl, hs, hb, hl, q⟩ := q1
  obtain ⟨u1, rfl, r1'⟩ := vals1 r1
  cases (show u1 = Value.ref a from r1')
  show wpAny _ _ (evalAll [(do let v ← eval (.Lambda params body scope lpos) X.env; standAt pos; pure v)]) _ _ _
  refine wpAny_evalAll_cons (wpAny_bind (lam_made I1 TB hc inT one tabs nodef (fun y hy e => absurd e (L.cell y hy).2) fun f c' pm ctv H2 s2 I2 ext tabs2 hf hfn hco _ => wpAny_bind (wpAny_standAt (wpAny_pure (wpAny_evalAll_nil ?_)))))
  obtain ⟨rows, hP, _⟩ := tabs _ inT
  have hs2 := Sx.SqL.extT ext hP hs
  have hb2 : ∀ z ∈ bs, z.1.length ≤ 4096 ∧ ∃ u, z.2 = .ref u ∧ SqT X.K H2 u (z.1.map V.str) := fun z hz => by
    obtain ⟨h1, u, h2, h3⟩ := hb z hz
    exact ⟨h1, u, h2, Sx.SqT.extT ext hP h3⟩
  obtain ⟨its, rv, pl, _⟩ := I2.list hs2
  have each := rk_each I2 hb2 rv
  obtain ⟨p1, p2, p3, p4, p5, kk, rfl⟩ := L.form
  obtain ⟨⟨oc, fs, tq, hoc, hdat, hname⟩, _, _⟩ := I2.hok c' _ hco
  have gl := I2.mod.glob.keeps I2.bk
  obtain ⟨mb, bl1, bl2⟩ := I2.mod.blt
  have bl := bl1.keeps I2.bk
  have hmb : mb "len" = some (.builtin "len") := (bl2 "len" (by decide)).trans (by decide +kernel)
  have szl : (4096 : Nat) < sizeLine := by rw [sizeLine_eq]; decide
  show wpAny _ _ (call (.builtin "sorted") [.ref a] [(Str.ofString "key", .ref f)]) _ _ _
  refine PySem.W.sorted_key_data (b := false) (R := RK s2.heap) (bs := bs) (fun z => keyL z.1) pl.isList each (fun d hd d' hd' => ?_) (.inl fun d hd => ?_) (by omega) (fun z _ => ?_) (ksk_s1 _ _) (fun _ => ksk_l1 _ _) (fun _ => ksk_t1 _ _) (fun v z hR hz h2 tk kept => ?_) fun out c2 h' tk kept fr at2 lo eo => ?_
  · obtain ⟨z, _, rfl⟩ := List.mem_map.mp hd
    obtain ⟨z', _, rfl⟩ := List.mem_map.mp hd'
    exact keyL_alike _ _
  · obtain ⟨z, _, rfl⟩ := List.mem_map.mp hd
    exact ⟨_, _, rfl⟩
  · have := keyL_depth z.1
    have := hr.un
    omega
  · obtain ⟨_, t0, its0, rfl, ht0, rv0⟩ := hR
    have hz4 := (hb z hz).1
    have len0 : its0.size = z.1.length := by
      have := rv0.length
      rw [List.length_map, Array.length_toList] at this
      exact this.symm
    refine key_call (A := X.A.in1.in1) (mg := X.mg) (mb := mb) (x := x) (t := t0) (its := its0) (show X.A.depth < _ by have := hr.dp; omega) (kept _ _ hf) L.co L.gen ⟨c', oc, fs, tq, rfl, kept _ _ hoc, hdat, hname⟩ L.kind (fun y hy => (L.cell y hy).1) L.loc L.len (fun v => L.bind _ _ _ _ _ v) (I2.nolimit.keeps kept) (gl.keeps kept) hml (bl.keeps kept) hmb (by obtain ⟨o, e, r⟩ := ht0; exact ⟨o, kept _ _ e, r⟩) (by omega) L.db fun h3 b tk1 tk2 kept3 atb => ?_
    refine ⟨h3, tk2, rfl, kept3, ?_⟩
    obtain ⟨o0, e0, c0, n0, d0⟩ := ht0
    refine .tuple atb rfl rfl (.cons (as := []) (bs := []) ?_ (.cons (as := []) (bs := []) (.tuple (kept3 _ _ (kept _ _ e0)) c0 d0 (reads_strs rv0)) .nil))
    rw [len0]
    exact .int _ _
  · have rvo := rk_vals eo
    have nh : H2 (s2.heap.objs.size + 1) = none := I2.hok.fresh (Nat.le_succ _)
    have lsz : (srtK bs).length ≤ sizeLine := by
      unfold srtK
      rw [List.length_map, List.length_mergeSort]
      omega
    refine ⟨.ref (s2.heap.objs.size + 1), upd H2 (s2.heap.objs.size + 1) (.lst (srtK bs)), I2.laid (t' := tk) kept (Nat.le_succ _) ⟨lsz, out, c2, rvo, at2⟩, rfl, q H2 _ ext tabs2 nh⟩
end Sx
set_option Elab.async false
set_option linter.all false
set_option maxRecDepth 100000
set_option maxHeartbeats 4000000
set_option autoImplicit false
namespace Sx
open PySem L2 PyProof.Rows
def tupsOf : List D → Option (List (List Str))
  | [] => some []
  | .tup ds :: r => (strsOf ds).bind fun xs => (tupsOf r).map fun ls => xs :: ls
  | _ => none
def sortK (ls : List (List Str)) : List (List Str) := ls.mergeSort (PySem.W.dataLe false keyL)
def fSortK (ds : List D) : Option (Bool × D) := match ds with
  | [.lst xs] => (tupsOf xs).bind fun ls => if ls.length ≤ 4096 ∧ (ls.all fun l => decide (l.length ≤ 4096)) = true then some1 (.lst ((sortK ls).map fun l => .tup (l.map .str))) else none
  | _ => none
section
variable {W : Wd} {S P S' P' : Addr → Prop} {en : En} {σ : L2.St} {H H' : Hp} {v : V} {d : D} {X : Cx}
theorem Rel.extT {Pt : Addr} {q : Str} (R : Rel W S P en σ H) (hp : (Pt, q) ∈ W.tb) (e : ExtT Pt H H') (t : LamX.Tabs W.tb H') : Ext S P H S P H' ∧ Rel W S P en σ H' := by
  obtain ⟨rows, hP, _⟩ := R.tb _ hp
  have nP : ∀ a, P a → a ≠ Pt := fun a h z => R.drP.2.2 _ hp (z ▸ h)
  have kP : ∀ a, P a → H' a = H a := fun a h => by
    obtain ⟨o, q⟩ := R.pd a h
    rw [q]
    exact e a o (nP a h) q
  have kO : ∀ {a : Addr} {o : HO}, NB W a → H a = some o → H' a = some o := fun nb h => e _ _ (nb.2 _ hp) h
  refine ⟨⟨fun _ h => h, fun _ h => h, kP, fun _ h => .inl h⟩, ⟨R.sp, fun a h => by rw [kP a h]; exact R.pd a h, fun i f d q => ?_, R.inj, R.len, ?_, R.drP, t⟩⟩
  · obtain ⟨v, hv, dv, tn, ow⟩ := R.slot i f d q
    refine ⟨v, hv, dv.mono (fun _ h => h) (fun a h => kP a (R.sp a h)) ?_, tn, fun z => ?_⟩
    · by_cases hf : f = .fz
      · exact (tn hf).mono fun a h => kP a (R.sp a h)
      · obtain ⟨p, o, ev, _, _, _, h1, h2, h3⟩ := ow hf
        subst ev
        have : H' p = H p := by rw [kO h2 h3, h3]
        cases d <;> first | exact trivial | exact this
    · obtain ⟨p, o, ev, hs, hq, hl, h1, h2, h3⟩ := ow z
      exact ⟨p, o, ev, hs, hq, hl, h1, h2, kO h2 h3⟩
  · obtain ⟨ne, ns, i, j, k, h1, h2, h3⟩ := R.dr
    exact ⟨ne, ns, i, j, k, e _ _ (fun z => by rw [z, hP] at h1; cases h1) h1, e _ _ (fun z => by rw [z, hP] at h2; cases h2) h2, h3⟩
theorem tups_at : ∀ {xs : List V} {ds : List D} {ls : List (List Str)}, DvL W S H xs ds → tupsOf ds = some ls → ∃ bs : List (List Str × V), bs.map (·.2) = xs ∧ bs.map (·.1) = ls ∧ ∀ z ∈ bs, (∃ u, z.2 = .ref u ∧ SqT W.K H u (z.1.map V.str)) ∧ Dz W S H z.2 (.tup (z.1.map D.str))
  | _, [], ls, h, e => by
    cases h
    cases e
    exact ⟨[], rfl, rfl, by simp⟩
  | _, d :: ds, ls, h, e => by
    cases d with
    | tup es =>
      obtain ⟨xs, hx, e⟩ := Option.bind_eq_some_iff.mp e
      obtain ⟨ms, hm, rfl⟩ := Option.map_eq_some_iff.mp e
      cases h with
      | @cons v vs _ _ t1 d1 h =>
        obtain ⟨bs, b1, b2, b3⟩ := tups_at h hm
        obtain rfl := strsOf_some hx
        obtain ⟨a, ys, rfl, hs, dl⟩ := d1.tup_at
        obtain rfl := strs_at dl
        refine ⟨(xs, .ref a) :: bs, by rw [List.map_cons, b1], by rw [List.map_cons, b2], fun z hz => ?_⟩
        rcases List.mem_cons.mp hz with rfl | hz
        · exact ⟨⟨a, rfl, hs⟩, t1, d1⟩
        · exact b3 z hz
    | _ => cases e
theorem dvl_of : ∀ {bs : List (List Str × V)}, (∀ z ∈ bs, Dz W S H z.2 (.tup (z.1.map D.str))) → DvL W S H (bs.map (·.2)) (bs.map fun z => .tup (z.1.map D.str))
  | [], _ => .nil
  | z :: bs, h => .cons (h z List.mem_cons_self).1 (h z List.mem_cons_self).2 (dvl_of fun y hy => h y (List.mem_cons_of_mem _ hy))
theorem tv_sortK {Pt : Addr} {q : Str} {rs : Runs} {Q : VK} (hp : (Pt, q) ∈ W.tb) (h : TV W (runN rs fSortK) σ H Q) : tSortK W.tb Pt W.K (TVs W rs) σ H Q := by
  obtain ⟨S, P, en, R, w⟩ := h
  refine TVs.use R w fun r vs H1 S1 P1 e1 R1 p1 q1 => ?_
  obtain ⟨c, ec, q1⟩ := wp_ret1 q1
  obtain ⟨ds, hds, ec⟩ := Option.bind_eq_some_iff.mp ec
  have da := p1.now R1 hds
  unfold fSortK at ec
  split at ec
  case h_2 => cases ec
  rename_i xs
  obtain ⟨ls, hls, ec⟩ := Option.bind_eq_some_iff.mp ec
  split at ec
  case isFalse => cases ec
  rename_i hc
  cases ec
  obtain ⟨v, rfl, dv⟩ := da.one
  cases dv with
  | @lst a ys _ ha dl =>
    obtain ⟨bs, rfl, rfl, hb⟩ := tups_at dl hls
    refine ⟨R1.tb, a, bs, rfl, SqL.of ha, fun z hz => ⟨of_decide_eq_true (List.all_eq_true.mp hc.2 z.1 (List.mem_map.mpr ⟨z, hz, rfl⟩)), (hb z hz).1⟩, by simpa using hc.1, fun H2 p ext tabs hpn => ?_⟩
    obtain ⟨e2, R2⟩ := R1.extT hp ext tabs
    obtain ⟨R3, fr, e3, nS, nP⟩ := R2.born (u := .lst (srtK bs)) hpn
    refine q1 (.ref p) _ S1 P1 (e1.trans (e2.trans e3)) R3 ⟨.lst upd_same ?_, p, _, rfl, fr, upd_same⟩
    have eq : (sortK (bs.map (·.1))).map (fun l => D.tup (l.map D.str)) = (bs.mergeSort (PySem.W.dataLe false fun z => keyL z.1)).map fun z => D.tup (z.1.map D.str) := by
      unfold sortK
      rw [← PySem.W.sort_maps (r := PySem.W.dataLe false fun z : List Str × V => keyL z.1) (fun z : List Str × V => z.1) (fun _ _ _ _ => rfl), List.map_map]
      rfl
    rw [eq]
    have dl2 : DvL W S1 H1 (srtK bs) ((bs.mergeSort (PySem.W.dataLe false fun z => keyL z.1)).map fun z => D.tup (z.1.map D.str)) := by
      unfold srtK
      exact dvl_of fun z hz => (hb z (List.mem_mergeSort.mp hz)).2
    exact dl2.mono (fun _ h => h) fun b s => by
      rw [e3.h b (R2.sp b s), e2.h b (R1.sp b s)]
  | _ => skip
theorem e_sortK {c Pt : Addr} {x : Str} {params : Arguments} {body e : Expr} {scope : Scope} {rs : Runs} {k : Nat} {p pos lpos kpos : Pos} (hK : X.K = W.K) (L : KeyLam X x params body scope) (TB : LamX.TabB X.base X.mg c Pt) (hc : X.env.code = .ref c) (inT : (Pt, X.env.qual ++ "<lambda>") ∈ W.tb) (one : ∀ p ∈ W.tb, p.1 = Pt → p.2 = X.env.qual ++ "<lambda>")
    (nodef : defaultsOf params X.env = ([], [])) (hr : Room k X.A) (hm : X.mg "sorted" = none) (hml : X.mg "len" = none) (ha : PA X [e] (TVs W rs)) (hg : Gl X "sorted" := by rfl)
    (he : backTo pos (starEach [e] X.env) = (false, eval e X.env) :: backTo pos (starEach [] X.env) := by rfl) (hpl : (backTo pos (starEach [e] X.env)).any (·.1) = false := by rfl) :
    PE X (.Call (.Name "sorted" p) [e] [⟨some "key", .Lambda params body scope lpos, kpos⟩] pos) (TV W (runN rs fSortK)) :=
  pe_weak (pe_sortK L TB hc inT one nodef hr hm hml ha hg he hpl) fun σ H Q h => by rw [hK]; exact tv_sortK inT h
end
end Sx
set_option Elab.async false
set_option linter.all false
set_option maxRecDepth 100000
set_option maxHeartbeats 4000000
set_option autoImplicit false
namespace Sx
open PySem L2 PyProof.Rows
/-! ### the law's own call, with tables of code objects -/
section
variable {Pr : Program} {w : World} {K : PySem.W.Frag} {mg : Str → Option Value}
abbrev emptyT : Obj := { cls := .none, data := .fields #[] }
abbrev scrO (us : List Value) : Obj := { cls := .type "list", data := .seq us.toArray }
open Classical in
/-- what is known at the start: the tables are empty, the script stays -/
noncomputable def hp0 (K : PySem.W.Frag) (tabs : List Addr) (a : Addr) (us : List Value) (ns : List Int) : Hp := fun b => if b ∈ tabs then some (.tbl #[]) else if b = a ∧ K.lookup a = none then some (.frz (scrO us) (.lst (ns.map V.int))) else none
theorem law_goGT {mb : Str → Option Value} {k : Nat} {fa a : Addr} {fd : FuncData} {x : Str} {sp : Sp} {t : Shared} {us : List Value} {ns : List Int} {cs : List (Addr × Addr)} (kin : K.In t.heap) (g1 : t.heap.Ns mainGlobals mg) (g2 : t.heap.Ns builtinsNs mb) (g3 : ∀ x : Str, x ≠ "__name__" → mb x = bootBuiltins x)
    (lim : t.heap.NoLimit) (gen : t.gens = #[]) (tabE : ∀ p ∈ cs, t.heap.get? p.2 = some emptyT) (tabK : ∀ p ∈ cs, K.lookup p.2 = none) (cod : ∀ p ∈ cs, PySem.W.CodeHd t.heap p.1 p.2)
    (bmod : ∃ (bm : Addr) (ob : Obj), mg "__builtins__" = some (.ref bm) ∧ bm ≠ builtinsNs ∧ t.heap.get? bm = some ob ∧ ob.cls = .type "module" ∧ ob.dict = some builtinsNs ∧ ob.data = .plain)
    (oa : t.heap.get? a = some (scrO us)) (ia : IntsAre us ns) (la : ns.length ≤ sizeLine) (hr : Room k callerA)
    (F : ∀ b : Heap, K.In b → b.Ns mainGlobals mg → (∀ p ∈ cs, LamX.TabB b mg p.1 p.2) → FnG Pr w K mg b CX0 k fa fd [x] sp) (bd : ∀ (s : Shared) (u : Value), BindsTo s fd ⟨[u], []⟩ [(x, u)])
    (hsp : ∀ G : Hp, (∀ p ∈ cs, G p.2 = some (.tbl #[])) → (∀ p ∈ cs, p.2 ≠ a) → SqL K G a (ns.map V.int) → sp [.ref a] G (fun v _ => v = .bl true) E0) :
    codeAny (model Pr w) callerA (.call (.ref fa) ⟨[.ref a], []⟩) (fun r s' => r = .ok (.ret (.bool true)) ∧ OldK t.heap s'.heap ∧ s'.os = t.os ∧ AllBare s'.gens) t := by
  have rv := vals_ints ia
  have lu : us.length = ns.length := ia.length
  have inT : ∀ b, b ∈ cs.map (·.2) → ∃ p ∈ cs, p.2 = b := fun b h => by
    obtain ⟨p, h1, h2⟩ := List.mem_map.mp h
    exact ⟨p, h1, h2⟩
  have toT : ∀ p ∈ cs, p.2 ∈ cs.map (·.2) := fun p h => List.mem_map.mpr ⟨p, h, rfl⟩
  have objT : ∀ b, b ∈ cs.map (·.2) → t.heap.get? b = some emptyT := fun b h => by
    obtain ⟨p, h1, rfl⟩ := inT b h
    exact tabE p h1
  have aT : a ∉ cs.map (·.2) := fun z => by
    have := objT a z
    rw [oa] at this
    have := congrArg Obj.data (Option.some.inj this)
    cases this
  have tna : ∀ p ∈ cs, p.2 ≠ a := fun p h z => aT (z ▸ toT p h)
  generalize hG : hp0 K (cs.map (·.2)) a us ns = G
  have gT : ∀ b, b ∈ cs.map (·.2) → G b = some (.tbl #[]) := fun b h => by rw [← hG]; exact if_pos h
  have gA : K.lookup a = none → G a = some (.frz (scrO us) (.lst (ns.map V.int))) := fun h => by
    rw [← hG]
    exact (if_neg aT).trans (if_pos ⟨rfl, h⟩)
  have only : ∀ b u, G b = some u → (b ∈ cs.map (·.2) ∧ u = .tbl #[]) ∨ (b = a ∧ K.lookup a = none ∧ u = .frz (scrO us) (.lst (ns.map V.int))) := fun b u h => by
    rw [← hG] at h
    unfold hp0 at h
    split at h
    · rename_i m
      cases h
      exact .inl ⟨m, rfl⟩
    · split at h
      · rename_i m
        cases h
        exact .inr ⟨m.1, m.2, rfl⟩
      · cases h
  have hok : HOk Pr w G t.heap := fun b u h => by
    rcases only b u h with ⟨m, rfl⟩ | ⟨rfl, _, rfl⟩
    · exact objT b m
    · exact ⟨oa, by rw [List.length_map]; exact la, us, _, rv, oa⟩
  have free : ∀ {b : Addr} {o : Obj}, t.heap.get? b = some o → (∀ xs n, o.data ≠ .seq xs n) → o.data ≠ .fields #[] → G b = none := fun {b o} e d1 d2 => by
    cases q : G b with
    | none => rfl
    | some u =>
      rcases only b u q with ⟨m, _⟩ | ⟨rfl, _, _⟩
      · rw [objT b m] at e; cases e; exact absurd rfl d2
      · rw [oa] at e; cases e; exact absurd rfl (d1 _ _)
  have ns_of : ∀ {b : Addr} {m : Str → Option Value}, t.heap.Ns b m → (hidT t.heap G).Ns b m := fun {b m} ⟨o, es, ep, e, d, r⟩ => ⟨o, es, ep, hidT_get e (free e (fun xs n z => by rw [d] at z; cases z) fun z => by rw [d] at z; cases z), d, r⟩
  have kb : K.In (hidT t.heap G) := fun b o e => hidT_get (kin b o e) (by
    cases q : G b with
    | none => rfl
    | some u =>
      rcases only b u q with ⟨m, _⟩ | ⟨rfl, z, _⟩
      · obtain ⟨p, h1, rfl⟩ := inT b m
        rw [tabK p h1] at e; cases e
      · rw [z] at e; cases e)
  have md : Mod K mg (hidT t.heap G) := ⟨kb, ns_of g1, ⟨mb, ns_of g2, g3⟩, (let ⟨mc, h1, h2⟩ := lim; ⟨mc, ns_of h1, h2⟩)⟩
  have tb : ∀ p ∈ cs, LamX.TabB (hidT t.heap G) mg p.1 p.2 := fun p hp => by
    have ht := tabE p hp
    obtain ⟨bm, ob, b1, b2, b3, b4, b5, b6⟩ := bmod
    refine ⟨?_, ⟨bm, ob, b1, b2, fun z => ?_, fun z => ?_, hidT_get b3 (free b3 (fun xs n z => by rw [b6] at z; cases z) fun z => by rw [b6] at z; cases z), b4, b5, b6⟩, fun z => ?_⟩
    · obtain ⟨o, vs, f1, f2, f3, f4, f5, f6, f7, e1, r1, r2, r3, r⟩ := cod p hp
      refine ⟨o, vs, f1, f2, f3, f4, f5, f6, f7, hidT_get e1 (free e1 (fun xs n z => by rw [r2] at z; cases z) fun z => ?_), r1, r2, r3, r⟩
      rw [r2] at z
      cases z
      simp at r3
    · obtain ⟨o, es, ep, e, d, _⟩ := g1
      rw [z, e] at b3; cases b3; rw [d] at b6; cases b6
    · rw [z, ht] at b3; cases b3; cases b6
    · obtain ⟨o, es, ep, e, d, _⟩ := g1
      rw [z, ht] at e; cases e; cases d
  have sq : SqL K G a (ns.map V.int) := by
    cases hk : K.lookup a with
    | none => exact .inl (.inr ⟨_, gA hk⟩)
    | some o =>
      have e := kin a o hk
      rw [oa] at e; cases e
      exact .inr ⟨_, us.toArray, _, hk, rfl, rfl, rfl, by rw [List.size_toArray, lu]; exact la, by simpa using rv⟩
  have e0 : Env0 Pr w K mg (hidT t.heap G) callerA [] t G := ⟨rfl, md, fun b o e => of_hidT e, Nat.le_of_eq (hidT_size _ _), trivial, (fun b hb => by cases hb), hok, .of_eq gen⟩
  refine codeAny_mono ((F _ kb (ns_of g1) tb).go hr rfl e0 (bd t (.ref a)) (us := [.ref a]) (vs := [.ref a]) (.cons rfl .nil) (hsp G (fun p hp => gT _ (toT p hp)) tna sq)) fun r s' h => ?_
  cases r with
  | error e => exact h.elim
  | ok u => cases u with
    | ret u =>
      obtain ⟨v, G', os, bare, un, hok', r', q⟩ := h
      obtain rfl : v = .bl true := q
      obtain rfl : u = Value.bool true := r'
      have stay : ∀ b o, b ∉ cs.map (·.2) → t.heap.get? b = some o → s'.heap.get? b = some o := fun b o nb e => by
        cases q : G b with
        | none => exact un.keep b o e q (fun z => by cases z) (fun z => by cases z)
        | some u =>
          rcases only b u q with ⟨m, _⟩ | ⟨rfl, _, rfl⟩
          · exact absurd m nb
          · obtain ⟨e1, _⟩ := hok b _ q
            obtain ⟨e2, _⟩ := hok' b _ (un.frzs b _ _ q)
            rw [e] at e1; cases e1
            exact e2
      have grown : ∀ p ∈ cs, ∃ more : Array Value, s'.heap.get? p.2 = some { cls := .none, data := .fields more } := fun p hp => by
        obtain ⟨more, z⟩ := un.tbls p.2 #[] (gT _ (toT p hp))
        exact ⟨_, hok' p.2 _ z⟩
      refine ⟨rfl, ⟨fun b o e => ?_, fun b o e => ?_⟩, os, bare⟩
      · by_cases m : b ∈ cs.map (·.2)
        · obtain ⟨p, hp, rfl⟩ := inT b m
          obtain ⟨more, hm⟩ := grown p hp
          rw [tabE p hp] at e
          cases e
          exact .inr (.inl ⟨((cod p hp).tab (tabE p hp)).isCodeTable, rfl, #[], more, rfl, by rw [Array.empty_append]; exact hm⟩)
        · exact .inl (stay b o m e)
      · by_cases m : b ∈ cs.map (·.2)
        · obtain ⟨p, hp, rfl⟩ := inT b m
          obtain ⟨more, hm⟩ := grown p hp
          exact ⟨_, hm⟩
        · exact ⟨o, stay b o m e⟩
    | _ => exact False.elim h
/-- what is known of the law's def at the head's heap -/
def LawT (l : PySem.W.OpenLaw) (w : World) (K : PySem.W.Frag) (k n : Nat) (x : Str) (mg : Str → Option Value) (fa : Addr) (h : Heap) : Prop :=
  ∃ (fd : FuncData) (cs : List (Addr × Addr)) (sp : Sp), (∀ p ∈ cs, h.get? p.2 = some emptyT) ∧ (∀ p ∈ cs, K.lookup p.2 = none) ∧ (∀ p ∈ cs, PySem.W.CodeHd h p.1 p.2) ∧ (∀ (s : Shared) (u : Value), BindsTo s fd ⟨[u], []⟩ [(x, u)]) ∧
    (∀ (G : Hp) (a : Addr) (ns : List Int), ns.length ≤ n → (∀ p ∈ cs, G p.2 = some (.tbl #[])) → (∀ p ∈ cs, p.2 ≠ a) → SqL K G a (ns.map V.int) → sp [.ref a] G (fun v _ => v = .bl true) E0) ∧
    ∀ b : Heap, K.In b → b.Ns mainGlobals mg → (∀ p ∈ cs, LamX.TabB b mg p.1 p.2) → FnG l.prog w K mg b CX0 k fa fd [x] sp
theorem walkGT {l : PySem.W.OpenLaw} {n k : Nat} {q : Program} {loose : List Str} {XP : (Str → Option Value) → Heap → Prop} {YP : World → Heap → Prop} {d : DefRec} {K : Params → PySem.W.Frag} {x : Str} (hn : l.most = some n) (hn2 : n ≤ sizeLine) (hdf : d.params.defaults = []) (hr : Room k callerA)
    (hY : ∀ (w : World) (h : Heap), YP w h → (K w.params).In h)
    (F : ∀ (w : World) (mg : Str → Option Value) (fa : Addr) (h : Heap), YP w h → (K w.params).In h → h.Ns mainGlobals mg → mg d.name = some (.ref fa) → LawT l w (K w.params) k n x mg fa h) : PySem.W.WalkO q loose XP YP l.row.toRowW d [] (fun f vs => PySem.call f vs) := by
  refine Att.attach_call hn hdf fun w s0 t mg mb fa o pm cd doc a us ns G Y ho hd hcd hmg hobj hints hlen gen => ?_
  obtain ⟨fd, cs, sp, h1, h2, h3, h4, h5, h6⟩ := F w mg fa _ Y (hY w _ Y) G.T.g hmg
  exact law_goGT (hY w _ Y) G.T.g G.T.b G.T.builtins G.T.nolimit gen h1 h2 h3 G.T.bmain hobj hints (Nat.le_trans hlen hn2) hr h6 h4 fun H hH hna hS => h5 H a ns hlen hH hna hS
end
end Sx
set_option Elab.async false
set_option linter.all false
set_option maxRecDepth 100000
set_option maxHeartbeats 4000000
set_option autoImplicit false
namespace Sx
open PySem L2
/-! ### list comprehensions with two fors -/
/-- a source that is walked by what is shared alone -/
def TVJ (W : Wd) (run : RunI) : TI := fun σ H R => ∃ S P en, Rel W S P en σ H ∧ (run en).wp fun r => ∀ J H' S' P', Ext S P H S' P' H' → Rel W S' P' r.2 σ H' → Walks W S' S' H' J r.1 → R J H'
section
variable {W : Wd} {S P S' P' : Addr → Prop} {en : En} {σ : L2.St} {H H' H1 : Hp} {X : Cx} {tg e : Expr} {ra : Run}
theorem Rel.bare (R : Rel W S P en σ H) : Rel W S S (en.map fun _ => none) σ H := by
  have nn : ∀ (i : Nat) (f : Fg) (d : D), (en.map fun _ => (none : Slot))[i]? ≠ some (some (f, d)) := fun i f d z => by
    rw [List.getElem?_map] at z
    cases h : en[i]? with
    | none => rw [h] at z; cases z
    | some u => rw [h] at z; cases z
  exact ⟨fun _ h => h, R.dom, fun i f d e => absurd e (nn i f d), fun i j f g d e v h1 => absurd h1 (nn i f d), by rw [List.length_map]; exact R.len, R.dr, ⟨fun h => R.drP.1 (R.sp _ h), R.drP.2.sub R.sp⟩, R.tb⟩
theorem x_seqJ (h : PE X e (TV W ra)) (hK : X.K = W.K) : PI X tg e (TVJ W (iSeq ra)) := by
  refine ⟨fun pins s σ H R I q => (pi_any (tg := tg) h).run pins s σ H R I ?_⟩
  rw [hK]
  obtain ⟨S, P, en, Rl, w⟩ := q
  have w := (T.wp_bind _ _ _).mp w
  refine ⟨S, P, en, Rl, T.wp_mono w fun a q v H1 S1 P1 e1 R1 ok => ?_⟩
  obtain ⟨ds, hds, q⟩ := T.wp_ofOpt ((T.wp_bind _ _ _).mp q)
  cases hv : valO a.1 with
  | none => rw [hv] at hds; cases hds
  | some y =>
    obtain ⟨S2, P2, e2, R2, dz⟩ := ok.valz R1 hv
    rw [hv] at hds
    have fin : ∀ J, Walks W S2 S2 H1 J ds → R J H1 := fun J wk => q J H1 S2 P2 (e1.trans e2) R2 wk
    obtain ⟨tn, dv⟩ := dz
    cases dv with
    | lst ha dl => cases hds; exact .inl ⟨_, rfl, ⟨_, SqL.of ha⟩, fin _ (walks_lst R2.bare tn ha dl)⟩
    | @tup _ xs _ ha dl =>
      cases hds
      refine .inr (.inl ⟨_, rfl, ⟨xs, ?_⟩, fin _ (walks_tup R2.bare ha dl)⟩)
      rcases ha with ⟨_, h⟩ | (h | ⟨_, h⟩) | h
      · exact SqT.of h
      · cases h
      · cases h
      · exact .inr h
    | str z =>
      obtain rfl : signs z = ds := Option.some.inj hds
      exact .inr (.inr ⟨z, rfl, fin (Its z) walks_str⟩)
    | _ => cases hds
end
def rLcO (t : Tg) (rt : RunT) (ri1 : RunI) (t1 : Tg) (rt1 : RunT) (re : Run) (vs vs1 : List Nat) : List D → En → List D → T (List D × En)
  | [], en, acc => .ret (acc, en)
  | d :: ds, en, acc => (T.ofOpt (t d en)).bind fun en1 => (rt en1).bind fun b => if b.1 then (ri1 b.2).bind fun a => (if acc.length + a.1.length ≤ 4096 then (rLcL t1 rt1 re vs1 a.1 (wip a.2 vs1) acc).bind fun r => rLcO t rt ri1 t1 rt1 re vs vs1 ds (wip r.2 vs) r.1 else .fail)
      else rLcO t rt ri1 t1 rt1 re vs vs1 ds (wip b.2 vs) acc
def rLc2 (ri : RunI) (l : Option Nat) (t : Tg) (rt : RunT) (ri1 : RunI) (t1 : Tg) (rt1 : RunT) (re : Run) (vs vs1 : List Nat) : Run := fun en => (ri en).bind fun a => (rLcO t rt ri1 t1 rt1 re vs vs1 a.1 (wip a.2 vs) []).bind fun r => .ret (.fr (.lst r.1), unl l (back r.2 a.2 vs))
/-- the new list beside what is shared, while none but the walk changes it -/
def Accu (W : Wd) (S1 P1 : Addr → Prop) (H1 : Hp) (Da : Addr) (S2 P2 : Addr → Prop) (en : En) (σ : L2.St) (H : Hp) (acc : List V) (accD : List D) : Prop :=
  Ext S1 P1 H1 S2 P2 H ∧ Rel W S2 P2 en σ H ∧ ¬ S2 Da ∧ Free W P2 en σ Da ∧ H Da = some (.lst acc) ∧ DvL W S2 H acc accD
section
variable {W : Wd} {X : Cx} {pos : Pos} {ri ri1 : RunI} {l : Option Nat} {g g1 : TG} {t t1 : Tg} {is is1 : List Nat} {rt rt1 : RunT} {re : Run}
theorem upd_id {H : Hp} {a : Addr} {u : HO} (e : H a = some u) : upd H a u = H := by
  funext b
  by_cases h : b = a
  · subst h; rw [upd_same, e]
  · exact upd_ne h
theorem Ext.drop {S1 P1 S5 P5 : Addr → Prop} {H1 H5 : Hp} {Da : Addr} (pwd : ∀ a, P1 a → a ≠ Da) (e : Ext S1 P1 H1 S5 P5 H5) (u : HO) : Ext S1 P1 H1 S5 (fun a => P5 a ∧ a ≠ Da) (upd H5 Da u) :=
  ⟨e.s, fun a h => ⟨e.p a h, pwd a h⟩, fun a h => (upd_ne (pwd a h)).trans (e.h a h), e.n⟩
theorem Free.wipe {P : Addr → Prop} {en : En} {σ σ0 : L2.St} {Da : Addr} {vs is : List Nat} (f : Free W P en σ Da) (his : ∀ i ∈ is, i ∈ vs) (ha : ∀ j, j ∉ is → σ[j]? = (L2.wipe σ0 vs)[j]?) : Free W P (wip en vs) (L2.wipe σ0 vs) Da := by
  refine ⟨f.1, f.2.1, f.2.2.1, fun j g d e nf hv => ?_⟩
  obtain ⟨hj, e'⟩ := wip_get e
  rw [← ha j fun z => hj (his j z)] at hv
  exact f.2.2.2 j g d e' nf hv
theorem Free.wipe0 {P : Addr → Prop} {en : En} {σ : L2.St} {Da : Addr} (f : Free W P en σ Da) (vs : List Nat) : Free W P (wip en vs) (L2.wipe σ vs) Da := by
  refine ⟨f.1, f.2.1, f.2.2.1, fun j g d e nf hv => ?_⟩
  obtain ⟨hj, e'⟩ := wip_get e
  rw [wipe_at hj] at hv
  exact f.2.2.2 j g d e' nf hv
theorem tv_lc2 {vs vs1 : List Nat} (gk : GOk W g t is) (sg : ShG t is) (his : ∀ i ∈ is, i ∈ vs) (gk1 : GOk W g1 t1 is1) (sg1 : ShG t1 is1) (his1 : ∀ i ∈ is1, i ∈ vs1) (hv1 : ∀ i ∈ vs1, i ∈ vs) (ht : ShT rt) (ht1 : ShT rt1) (hi1 : ∀ en, (ri1 en).all fun a => LkSub a.2 en) (he : ShR re)
    (hsz : (4096 : Nat) < sizeLine) {σ : L2.St} {H : Hp} {Q : VK} (h : TV W (rLc2 ri l t rt ri1 t1 rt1 re vs vs1) σ H Q) :
    tLc2 (TVI W ri l) g (TVT W rt) (TVJ W ri1) g1 (TVT W rt1) (TV W re) vs vs1 σ H Q := by
  obtain ⟨S, P, en, R, w⟩ := h
  have w := (T.wp_bind _ _ _).mp w
  refine ⟨S, P, en, R, T.wp_mono w fun r q J H1 S1 P1 Pw e1 R1 hPw hun _ wk => ?_⟩
  intro Da hD
  have q := (T.wp_bind _ _ _).mp q
  have pwd : ∀ a, Pw a → a ≠ Da := fun a h z => by obtain ⟨o, e⟩ := R1.pd a h; rw [z, hD] at e; cases e
  have dd1 : Da ≠ W.da ∧ NB W Da := by
    obtain ⟨ne, ns, i, j, k, h1, h2, h3⟩ := R1.dr
    exact ⟨fun z => (by rw [← z, hD] at h1; cases h1), NB.of_none ⟨_, h2⟩ R1.tb hD⟩
  have e0 : Ext S1 Pw H1 S1 Pw (upd H1 Da (.lst [])) := ⟨fun _ h => h, fun _ h => h, fun a h => upd_ne (pwd a h), fun _ h => .inl h⟩
  have R0 : Rel W S1 Pw (wip r.2 vs) (wipe σ vs) (upd H1 Da (.lst [])) ∧ Free W Pw (wip r.2 vs) (wipe σ vs) Da := by
    obtain ⟨_, R0⟩ := (R1.wipe0 vs).same (upd_keeps (u := .lst []) hD) (fun _ h => h) (fun _ h => .inl h) (fun a h => by obtain ⟨o, e⟩ := R1.dom a h; exact ⟨o, upd_keeps hD a o e⟩)
    have R0' : Rel W S1 Pw (wip r.2 vs) (wipe σ vs) (upd H1 Da (.lst [])) := by
      have eq : (fun a => Pw a ∨ S1 a) = Pw := by funext a; exact propext ⟨fun h => h.elim id (R1.sp a), .inl⟩
      rw [eq] at R0; exact R0
    refine ⟨R0', fun h => pwd Da h rfl, dd1.1, dd1.2, fun i f d e nf hv => ?_⟩
    obtain ⟨v, hv', _, _, ow⟩ := (R1.wipe0 vs).slot i f d e
    obtain ⟨q, o, ev, _, _, _, _, _, h3⟩ := ow nf
    rw [hv'] at hv
    cases hv
    cases ev
    rw [hD] at h3; cases h3
  -- what stands behind each turn of the outer walk
  let Post := fun (r' : List D × En) => ∀ v H' S' P', Ext S P H S' P' H' → Rel W S' P' (unl l (Sx.back r'.2 r.2 vs)) σ H' → OpOk W S' P' (unl l (Sx.back r'.2 r.2 vs)) σ H' v (.fr (.lst r'.1)) → Q v H'
  refine ⟨fun i m H2 => i ≤ r.1.length ∧ m = r.1.length - i ∧ ∃ S2 P2 en2 acc accD, Accu W S1 Pw H1 Da S2 P2 en2 (wipe σ vs) H2 acc accD ∧ acc.length ≤ 4096 ∧ (rLcO t rt ri1 t1 rt1 re vs vs1 (r.1.drop i) en2 accD).wp Post,
    ⟨_, Nat.zero_le _, rfl, S1, Pw, wip r.2 vs, [], [], ⟨e0, R0.1, fun h => pwd Da (R1.sp Da h) rfl, R0.2, upd_same, .nil⟩, Nat.zero_le _, q⟩, ?_⟩
  rintro i m H2 ⟨hi, rfl, S2, P2, en2, acc, accD, ⟨e2, R2, nS, fD, hD2, dl⟩, hacc, w2⟩
  by_cases hlt : i < r.1.length
  case neg =>
    have ei : i = r.1.length := by omega
    subst ei
    rw [List.drop_length] at w2
    refine .inl ⟨wk.stop _ H2 (fun a h => e2.h a h) (Nat.le_refl _), ?_⟩
    obtain ⟨P3, hP3, e3, R3⟩ := hun S2 P2 (Sx.back en2 r.2 vs) σ H2 (.inr rfl) e2 (R1.back e2 R2)
    refine w2 (.ref Da) H2 S2 P3 (e1.trans e3) R3 ⟨.lst hD2 dl, Da, _, rfl, ⟨fun h => fD.1 (hP3 Da h), dd1.1, dd1.2, fun j f d e nf hv => ?_⟩, hD2⟩
    obtain ⟨g', d', e', nf'⟩ := unl_nf e nf
    rcases back_get e' with ⟨_, rfl, _⟩ | ⟨hj, q1⟩
    · exact absurd rfl nf'
    · rw [← wipe_at hj] at hv
      exact fD.2.2.2 j g' d' q1 nf' hv
  refine .inr ⟨wk.go i H2 (fun a h => e2.h a h) hlt, fun H3 => ∃ S2 P2 en2 acc accD, Accu W S1 Pw H1 Da S2 P2 en2 (wipe σ vs) H3 acc accD ∧ acc.length ≤ 4096 ∧ (rLcO t rt ri1 t1 rt1 re vs vs1 (r.1.drop (i + 1)) en2 accD).wp Post,
    fun H3 z => ⟨r.1.length - (i + 1), by omega, hlt, rfl, z⟩, fun x H3 y => ?_⟩
  have Rg := R2.guard fD hD2
  have eg : Ext S2 P2 H2 S2 (add P2 Da) H2 := ⟨fun _ h => h, fun a h => .inl h, fun _ _ => rfl, fun _ h => .inl h⟩
  obtain ⟨d, S3, P3, hd, e3, R3, dz⟩ := wk.turn Rg (fun a h => e2.s a h) (fun a h => ⟨.inl (e2.p a h), e2.h a h⟩) hlt y
  have nS3 : ¬ S3 Da := fun h => (e3.n Da h).elim nS fun z => z (.inr rfl)
  have hD3 : H3 Da = some (.lst acc) := (e3.h Da (.inr rfl)).trans hD2
  rw [drop_at hd] at w2
  obtain ⟨en3, htg, w3⟩ := T.wp_ofOpt ((T.wp_bind _ _ _).mp w2)
  refine gk S3 P3 en2 en3 x d (wipe σ vs) H3 _ R3 dz htg fun σ3 ha hl R4 => ⟨wipe_eq his ha hl, ?_⟩
  obtain ⟨sga, sgb⟩ := sg d en2 en3 htg
  have lk3 : ∀ (j : Nat) (d' : D), en3[j]? = some (some (.lk, d')) → σ3[j]? ≠ some (some (.ref Da)) := by
    intro j d' e hv
    by_cases hj : j ∈ is
    · exact sgb j hj d' e
    · rw [ha j hj] at hv
      obtain ⟨d2, e2'⟩ := sga j d' e
      exact fD.2.2.2 j .lk d2 e2' (by decide) hv
  have w3 := (T.wp_bind _ _ _).mp w3
  have w3 := T.wp_all w3 (ht en3)
  have e13 : Ext S1 Pw H1 S3 P3 H3 := (e2.trans eg).trans e3
  refine ⟨S3, P3, en3, R4, T.wp_mono w3 fun b ⟨q4, sb⟩ H4 S4 P4 e4 R5 => ?_⟩
  have nS4 : ¬ S4 Da := fun h => (e4.n Da h).elim nS3 fun z => z (e3.p Da (.inr rfl))
  have pD4 : P4 Da := e4.p Da (e3.p Da (.inr rfl))
  have hD4 : H4 Da = some (.lst acc) := (e4.h Da (e3.p Da (.inr rfl))).trans hD3
  have lk4 : ∀ (j : Nat) (d' : D), b.2[j]? = some (some (.lk, d')) → σ3[j]? ≠ some (some (.ref Da)) := fun j d' e => by
    obtain ⟨d2, e'⟩ := sb j d' e
    exact lk3 j d2 e'
  have dl4 : DvL W S4 H4 acc accD := (dl.mono (fun a h => e3.s a h) fun a h => e3.h a (.inl (R2.sp a h))).mono (fun a h => e4.s a h) fun a h => e4.h a (R3.sp a h)
  obtain ⟨bb, enb⟩ := b
  cases bb with
  | false =>
    obtain ⟨R6, f6⟩ := R5.turn (u := .lst acc) pD4 nS4 lk4 (Tabs.upd R5.tb hD4 (nx_lst _))
    rw [upd_id hD4] at R6
    have d0 := Ext.drop pwd (e13.trans e4) (.lst acc)
    rw [upd_id hD4] at d0
    exact ⟨S4, _, wip enb vs, acc, accD, ⟨d0, R6.wipe his ha (by rw [hl, wipe_length]), nS4, f6.wipe his ha, hD4, dl4⟩, hacc, q4⟩
  | true =>
    have q4 := (T.wp_bind _ _ _).mp q4
    have q4 := T.wp_all q4 (hi1 enb)
    refine ⟨S4, P4, enb, R5, T.wp_mono q4 fun rr ⟨q5, si⟩ J1 H5 S5 P5 e5 R6 wk1 => ?_⟩
    have q5 : (if accD.length + rr.1.length ≤ 4096 then (rLcL t1 rt1 re vs1 rr.1 (wip rr.2 vs1) accD).bind fun r' => rLcO t rt ri1 t1 rt1 re vs vs1 (r.1.drop (i + 1)) (wip r'.2 vs) r'.1 else T.fail).wp Post := q5
    split at q5
    case isFalse => exact q5.elim
    rename_i hsum
    rw [← dl.len] at hsum
    have q5 := (T.wp_bind _ _ _).mp q5
    have nS5 : ¬ S5 Da := fun h => (e5.n Da h).elim nS4 fun z => z pD4
    have pD5 : P5 Da := e5.p Da pD4
    have hD5 : H5 Da = some (.lst acc) := (e5.h Da pD4).trans hD4
    have lk5 : ∀ (j : Nat) (d' : D), rr.2[j]? = some (some (.lk, d')) → σ3[j]? ≠ some (some (.ref Da)) := fun j d' e => by
      obtain ⟨d2, e'⟩ := si j d' e
      exact lk4 j d2 e'
    have dl5 : DvL W S5 H5 acc accD := dl4.mono (fun a h => e5.s a h) fun a h => e5.h a (R5.sp a h)
    obtain ⟨R7, f7⟩ := R6.turn (u := .lst acc) pD5 nS5 lk5 (Tabs.upd R6.tb hD5 (nx_lst _))
    rw [upd_id hD5] at R7
    have d5 := Ext.drop pwd ((e13.trans e4).trans e5) (.lst acc)
    rw [upd_id hD5] at d5
    -- behind the inner walk
    have w30 : ∀ j, j ∉ is ++ vs1 → (wipe σ3 vs1)[j]? = (wipe σ vs)[j]? := fun j hj => by
      rw [wipe_at fun z => hj (List.mem_append_right _ z)]
      exact ha j fun z => hj (List.mem_append_left _ z)
    have his' : ∀ j ∈ is ++ vs1, j ∈ vs := fun j hj => (List.mem_append.mp hj).elim (his j) (hv1 j)
    have pw5 : ∀ a, (P5 a ∧ a ≠ Da) → a ≠ Da := fun a h => h.2
    have sp5 : ∀ a, S5 a → P5 a ∧ a ≠ Da := fun a h => ⟨R6.sp a h, fun z => nS5 (z ▸ h)⟩
    refine ⟨fun j k H6 => j ≤ rr.1.length ∧ k = rr.1.length - j ∧ ∃ S6 P6 en6 acc6 accD6, Accu W S5 (fun a => P5 a ∧ a ≠ Da) H5 Da S6 P6 en6 (wipe σ3 vs1) H6 acc6 accD6 ∧ acc6.length ≤ acc.length + j ∧ (rLcL t1 rt1 re vs1 (rr.1.drop j) en6 accD6).wp fun r' => (rLcO t rt ri1 t1 rt1 re vs vs1 (r.1.drop (i + 1)) (wip r'.2 vs) r'.1).wp Post,
      ⟨_, Nat.zero_le _, rfl, S5, _, wip rr.2 vs1, acc, accD, ⟨.refl, R7.wipe0 vs1, nS5, f7.wipe0 vs1, hD5, dl5⟩, Nat.le_refl _, q5⟩, ?_⟩
    rintro j k H6 ⟨hj, rfl, S6, P6, en6, acc6, accD6, ⟨e6, R8, nS6, fD6, hD6, dl6⟩, hacc6, w6⟩
    by_cases hjt : j < rr.1.length
    case neg =>
      have ej : j = rr.1.length := by omega
      subst ej
      rw [List.drop_length] at w6
      refine .inl ⟨wk1.stop _ H6 (fun a h => e6.h a (sp5 a h)) (Nat.le_refl _), S6, P6, wip en6 vs, acc6, accD6, ⟨d5.trans e6, R8.wipe his' w30 (by rw [wipe_length, hl, wipe_length]), nS6, fD6.wipe his' w30, hD6, dl6⟩, by omega, w6⟩
    refine .inr ⟨wk1.go j H6 (fun a h => e6.h a (sp5 a h)) hjt, fun H7 => ∃ S6 P6 en6 acc6 accD6, Accu W S5 (fun a => P5 a ∧ a ≠ Da) H5 Da S6 P6 en6 (wipe σ3 vs1) H7 acc6 accD6 ∧ acc6.length ≤ acc.length + (j + 1) ∧ (rLcL t1 rt1 re vs1 (rr.1.drop (j + 1)) en6 accD6).wp fun r' => (rLcO t rt ri1 t1 rt1 re vs vs1 (r.1.drop (i + 1)) (wip r'.2 vs) r'.1).wp Post,
      fun H7 z => ⟨rr.1.length - (j + 1), by omega, hjt, rfl, z⟩, fun x1 H7 y1 => ?_⟩
    have Rg6 := R8.guard fD6 hD6
    have eg6 : Ext S6 P6 H6 S6 (add P6 Da) H6 := ⟨fun _ h => h, fun a h => .inl h, fun _ _ => rfl, fun _ h => .inl h⟩
    obtain ⟨d7, S7, P7, hd7, e7, R9, dz7⟩ := wk1.turn Rg6 (fun a h => e6.s a h) (fun a h => ⟨.inl (R8.sp a (e6.s a h)), e6.h a (sp5 a h)⟩) hjt y1
    have nS7 : ¬ S7 Da := fun h => (e7.n Da h).elim nS6 fun z => z (.inr rfl)
    have hD7 : H7 Da = some (.lst acc6) := (e7.h Da (.inr rfl)).trans hD6
    rw [drop_at hd7] at w6
    obtain ⟨en7, htg7, w7⟩ := T.wp_ofOpt ((T.wp_bind _ _ _).mp w6)
    refine gk1 S7 P7 en6 en7 x1 d7 (wipe σ3 vs1) H7 _ R9 dz7 htg7 fun σ4 ha4 hl4 R10 => ⟨wipe_eq his1 ha4 hl4, ?_⟩
    obtain ⟨sgc, sgd⟩ := sg1 d7 en6 en7 htg7
    have lk7 : ∀ (j : Nat) (d' : D), en7[j]? = some (some (.lk, d')) → σ4[j]? ≠ some (some (.ref Da)) := by
      intro j d' e hv
      by_cases hj : j ∈ is1
      · exact sgd j hj d' e
      · rw [ha4 j hj] at hv
        obtain ⟨d2, e2'⟩ := sgc j d' e
        exact fD6.2.2.2 j .lk d2 e2' (by decide) hv
    have w7 := (T.wp_bind _ _ _).mp w7
    have w7 := T.wp_all w7 (ht1 en7)
    have e67 : Ext S5 (fun a => P5 a ∧ a ≠ Da) H5 S7 P7 H7 := (e6.trans eg6).trans e7
    refine ⟨S7, P7, en7, R10, T.wp_mono w7 fun b ⟨q8, sb8⟩ H8 S8 P8 e8 R11 => ?_⟩
    have nS8 : ¬ S8 Da := fun h => (e8.n Da h).elim nS7 fun z => z (e7.p Da (.inr rfl))
    have pD8 : P8 Da := e8.p Da (e7.p Da (.inr rfl))
    have hD8 : H8 Da = some (.lst acc6) := (e8.h Da (e7.p Da (.inr rfl))).trans hD7
    have lk8 : ∀ (j : Nat) (d' : D), b.2[j]? = some (some (.lk, d')) → σ4[j]? ≠ some (some (.ref Da)) := fun j d' e => by
      obtain ⟨d2, e'⟩ := sb8 j d' e
      exact lk7 j d2 e'
    have dl8 : DvL W S8 H8 acc6 accD6 := (dl6.mono (fun a h => e7.s a h) fun a h => e7.h a (.inl (R8.sp a h))).mono (fun a h => e8.s a h) fun a h => e8.h a (R9.sp a h)
    obtain ⟨bb, enb8⟩ := b
    cases bb with
    | false =>
      obtain ⟨R12, f12⟩ := R11.turn (u := .lst acc6) pD8 nS8 lk8 (Tabs.upd R11.tb hD8 (nx_lst _))
      rw [upd_id hD8] at R12
      have d0 := Ext.drop pw5 (e67.trans e8) (.lst acc6)
      rw [upd_id hD8] at d0
      exact ⟨S8, _, wip enb8 vs1, acc6, accD6, ⟨d0, R12.wipe his1 ha4 (by rw [hl4, wipe_length]), nS8, f12.wipe his1 ha4, hD8, dl8⟩, by omega, q8⟩
    | true =>
      have q8 := (T.wp_bind _ _ _).mp q8
      have q8 := T.wp_all q8 (he enb8)
      refine ⟨S8, P8, enb8, R11, T.wp_mono q8 fun o ⟨q9, so⟩ yv H9 S9 P9 e9 R12 ok => ?_⟩
      obtain ⟨yd, hy, q9⟩ := T.wp_ofOpt ((T.wp_bind _ _ _).mp q9)
      have nS9 : ¬ S9 Da := fun h => (e9.n Da h).elim nS8 fun z => z pD8
      obtain ⟨S10, P10, e10, R13, dz10⟩ := ok.valz R12 hy
      have nS10 : ¬ S10 Da := fun h => (e10.n Da h).elim nS9 fun z => z (e9.p Da pD8)
      have pD10 : P10 Da := e10.p Da (e9.p Da pD8)
      have hD10 : H9 Da = some (.lst acc6) := (e9.h Da pD8).trans hD8
      have lk10 : ∀ (j : Nat) (d' : D), o.2[j]? = some (some (.lk, d')) → σ4[j]? ≠ some (some (.ref Da)) := fun j d' e => by
        obtain ⟨d2, e'⟩ := so j d' e
        exact lk8 j d2 e'
      have dl10 : DvL W S10 H9 acc6 accD6 := (dl8.mono (fun a h => e9.s a h) fun a h => e9.h a (R11.sp a h)).mono (fun a h => e10.s a h) fun a _ => rfl
      obtain ⟨R14, f14⟩ := R13.turn (u := .lst (acc6 ++ [yv])) pD10 nS10 lk10 (Tabs.upd R13.tb hD10 (nx_lst _))
      have hup : ∀ a, S10 a → upd H9 Da (.lst (acc6 ++ [yv])) a = H9 a := fun a h => upd_ne fun z => nS10 (z ▸ h)
      exact ⟨acc6, hD10, by omega, S10, _, wip o.2 vs1, acc6 ++ [yv], accD6 ++ [yd], ⟨Ext.drop pw5 ((e67.trans e8).trans (e9.trans e10)) _, R14.wipe his1 ha4 (by rw [hl4, wipe_length]), nS10, f14.wipe his1 ha4, upd_same, (dl10.snoc dz10).mono (fun _ h => h) hup⟩,
        by rw [List.length_append, List.length_singleton]; omega, q9⟩
theorem e_lc2 {tg iter tg1 iter1 elt : Expr} {ifs ifs1 : List Expr} {scope : Scope} [h1 : ShTg t is] [h2 : ShTst rt] [h3 : ShRun re] [k1 : ShTg t1 is1] [k2 : ShTst rt1] [k3 : ShIt ri1 none] (own : List (Str × Nat)) (vs1 : List Nat) (hNd : X.N.Nodup) (ok : BlkOk X.N X.env.scope scope own) (hi : PI X tg iter (TVI W ri l))
    (hg : ∀ (s : Shared) (H : Hp) (C : Addr) (cl : List (Str × Addr)) (fp : List Addr), PG (X.blk s H scope (compEnvC scope cl C X.env) fp) tg g) (gk : GOk W g t is)
    (ht : ∀ (s : Shared) (H : Hp) (C : Addr) (cl : List (Str × Addr)) (fp : List Addr), PTs (X.blk s H scope (compEnvC scope cl C X.env) fp) ifs (TVT W rt))
    (hi1 : ∀ (s : Shared) (H : Hp) (C : Addr) (cl : List (Str × Addr)) (fp : List Addr), PI (X.blk s H scope (compEnvC scope cl C X.env) fp) tg1 iter1 (TVJ W ri1))
    (hg1 : ∀ (s : Shared) (H : Hp) (C : Addr) (cl : List (Str × Addr)) (fp : List Addr), PG (X.blk s H scope (compEnvC scope cl C X.env) fp) tg1 g1) (gk1 : GOk W g1 t1 is1)
    (ht1 : ∀ (s : Shared) (H : Hp) (C : Addr) (cl : List (Str × Addr)) (fp : List Addr), PTs (X.blk s H scope (compEnvC scope cl C X.env) fp) ifs1 (TVT W rt1))
    (he : ∀ (s : Shared) (H : Hp) (C : Addr) (cl : List (Str × Addr)) (fp : List Addr), PE (X.blk s H scope (compEnvC scope cl C X.env) fp) elt (TV W re)) (his : ∀ i ∈ is, i ∈ own.map (·.2) := by decide) (his1 : ∀ i ∈ is1, i ∈ vs1 := by decide) (hv1 : ∀ i ∈ vs1, i ∈ own.map (·.2) := by decide) (hc : X.calm = true := by rfl)
    (hs : ∀ x, foldedSetIterable iter X.env x = pure x := by intro _; rfl) (hs1 : ∀ env x, foldedSetIterable iter1 env x = pure x := by intro _ _; rfl) :
    PE X (.ListComp elt [⟨tg, iter, ifs, 0⟩, ⟨tg1, iter1, ifs1, 0⟩] scope pos) (TV W (rLc2 ri l t rt ri1 t1 rt1 re (own.map (·.2)) vs1)) :=
  pe_weak (pe_lc2 hc hNd hi ok hv1 hg ht hi1 hg1 ht1 he hs hs1) fun σ H Q h => tv_lc2 gk h1.sh his gk1 k1.sh his1 hv1 h2.sh k2.sh (fun en => T.all_mono (k3.sh en) fun a ha => ha a.2 (LkSub.refl _)) h3.sh sz4096 h
theorem rlcO_sub {vs vs1 : List Nat} [h : ShTg t is] [h1 : ShTst rt] [g2 : ShIt ri1 none] [k : ShTg t1 is1] [k1 : ShTst rt1] [h2 : ShRun re] : ∀ (ds : List D) (en : En) (acc : List D), (rLcO t rt ri1 t1 rt1 re vs vs1 ds en acc).all fun b => LkSub b.2 en
  | [], en, acc => LkSub.refl _
  | d :: ds, en, acc => all_of fun e1 q => T.all_bind (T.all_mono (h1.sh e1) fun b hb => by
      have h0 := (h.sh d en e1 q).1
      split
      · refine T.all_bind (T.all_mono (g2.sh b.2) fun a ha => ?_)
        have ha := ha a.2 (LkSub.refl _)
        show T.all (if _ then _ else _) _
        split
        · exact T.all_bind (T.all_mono (lcl_sub (t := t1) (rt := rt1) (re := re) _ _ _) fun o ho => T.all_mono (rlcO_sub ds _ _) fun c hc => hc.trans ((wip_sub vs).trans (ho.trans ((wip_sub vs1).trans (ha.trans (hb.trans h0))))))
        · trivial
      · exact T.all_mono (rlcO_sub ds _ _) fun c hc => hc.trans ((wip_sub vs).trans (hb.trans h0)))
instance {vs vs1 : List Nat} [h0 : ShIt ri l] [h : ShTg t is] [h1 : ShTst rt] [g2 : ShIt ri1 none] [k : ShTg t1 is1] [k1 : ShTst rt1] [h2 : ShRun re] : ShRun (rLc2 ri l t rt ri1 t1 rt1 re vs vs1) := ⟨fun en => T.all_bind (T.all_mono (h0.sh en) fun a ha => T.all_bind (T.all_mono (rlcO_sub a.1 (wip a.2 vs) []) fun r hr => ha _ ((back_sub vs).trans (hr.trans (wip_sub vs)))))⟩
end
end Sx
set_option Elab.async false
set_option linter.all false
set_option maxRecDepth 100000
set_option maxHeartbeats 4000000
set_option autoImplicit false
namespace PyProof.Rows
open PySem
section
variable {prog : Program} {w : World} {A : Around} {E : Value → Shared → Prop} {s : Shared}
/-- the items of a tuple as they are collected for sorted -/
theorem collectT {l : Addr} {vs : List Value} {Q : List Value → Shared → Prop} (hl : s.heap.IsTuple l vs.toArray) (hsz : vs.length ≤ sizeLine)
    (h : Q vs { s with heap := (s.heap.push (seqObj "list" #[] 0)).update s.heap.objs.size (Obj.mapSeq (· ++ vs.toArray)) }) : wpAny (model prog w) A (collect (.ref l)) Q E s := by
  obtain ⟨o, ho, hc, n, hd⟩ := id hl
  have ho' : (s.heap.push (seqObj "list" #[] 0)).get? l = some o := Heap.get?_push_of_some _ ho
  have sz : (#[] ++ vs.toArray).size ≤ sizeLine + 1 := by
    simp only [Array.size_append, List.size_toArray, List.size_toArray, List.length_nil]
    omega
  have fin : wpAny (model prog w) A (do let o ← load s.heap.objs.size; match o.data with | .seq xs _ => pure xs.toList | _ => unsupported "internal:collect") Q E { s with heap := (s.heap.push (seqObj "list" #[] 0)).update s.heap.objs.size (Obj.mapSeq (· ++ vs.toArray)) } := by
    refine wpAny_bind (wpAny_load (get?_update_seq (Heap.get?_push_size _ rfl) _) (show wpAny _ _ (pure ((#[] : Array Value) ++ vs.toArray).toList) Q E _ from ?_))
    rw [show ((#[] : Array Value) ++ vs.toArray).toList = vs by simp]
    exact wpAny_pure h
  have ext : ∀ (A' : Around) (E' : Value → Shared → Prop), wpAny (model prog w) A' (Builtin.List.listExtendWith (.ref s.heap.objs.size) (.ref l) (.ref s.heap.objs.size)) (fun f s' => f = .done (.ret (.ref s.heap.objs.size)) ∧ s' = { s with heap := (s.heap.push (seqObj "list" #[] 0)).update s.heap.objs.size (Obj.mapSeq (· ++ vs.toArray)) }) E' { s with heap := s.heap.push (seqObj "list" #[] 0) } := fun A' E' => by
    unfold Builtin.List.listExtendWith
    refine wpAny_bind (wpAny_typeOf (T := "tuple") ⟨o, ho', hc⟩ ?_)
    rw [if_pos (by rw [show (Value.type "tuple" == Value.type "tuple") = true from rfl]; simp)]
    refine wpAny_bind (listItems_at ho' hd (wpAny_bind (listItems_at (xs := #[]) (n := 0) (Heap.get?_push_size _ rfl) rfl ?_)))
    rw [if_neg (by simp)]
    exact wpAny_bind (listUpdate_at (xs := #[]) (n := 0) (Heap.get?_push_size _ rfl) rfl (wpAny_pure ⟨rfl, rfl⟩) (Nat.zero_le _) sz)
  unfold collect
  refine wpAny_bind (wpAny_runValue (codeAny_builtin entry_proto_collect' (wpAny_bind (wpAny_newList (wpAny_pure ⟨Code.quiet_builtin _ (by decide +kernel), codeAny_builtin entry_list_iadd' ?_⟩)))))
  refine wpAny_mono (ext _ _) (fun f s' hf => ?_) fun _ _ e => e
  obtain ⟨rfl, rfl⟩ := hf
  exact fin
end
end PyProof.Rows
namespace PySem.W
open PySem PySem.Spec PySem.Calls PyProof.Rows
section
variable {prog : Program} {w : World} {A : Around} {E : Value → Shared → Prop} {s : Shared} {β : Type} {vs : List Value} {bs : List β} {enc : β → PyData} {R : Value → β → Prop}
theorem sortedT_of_sort {l : Addr} {Q : Value → Shared → Prop} (hl : s.heap.IsTuple l vs.toArray) (hL : vs.length ≤ sizeLine)
    (body : ∀ E' : Value → Shared → Prop, wpAny (model prog w) A.in1.in1 (Builtin.«list.sort» ⟨[.ref (s.heap.objs.size + 1)], []⟩) (fun f s' => f = .done (.ret .none) ∧ Q (.ref (s.heap.objs.size + 1)) s') E' { s with heap := copyHeap s.heap vs }) :
    wpAny (model prog w) A (call (.builtin "sorted") [.ref l] []) Q E s := by
  refine call_function_entry_kw kind_sorted plain_sorted entry_sorted (args_sorted1 _) ?_
  unfold Builtin.«sorted»
  refine wpAny_bind (m := checkCount "sorted" 1 1 _) (wpAny_pure (wpAny_bind (collectT hl hL (wpAny_bind (wpAny_newList ?_ hL)))))
  have hsz : ((s.heap.push (seqObj "list" #[] 0)).update s.heap.objs.size (Obj.mapSeq (· ++ vs.toArray))).objs.size = s.heap.objs.size + 1 := (Heap.size_update _ _ _).trans (size_push' _ _)
  show wpAny _ _ _ _ _ { s with heap := copyHeap s.heap vs }
  rw [hsz]
  refine wpAny_bind (wpAny_holding (wpAny_call_entry_kw slot_list_sort ⟨_, copyHeap_at s.heap vs, rfl⟩ entry_list_sort (wpAny_mono (body _) (fun f s' hf => ?_) fun _ _ e => e) (args_list_sort _)))
  obtain ⟨e, hq⟩ := hf
  subst e
  exact ⟨_, rfl, wpAny_pure ⟨_, rfl, hq⟩⟩
theorem sortedT_data {l : Addr} {Q : Value → Shared → Prop} (hl : s.heap.IsTuple l vs.toArray) (e : EachIs R vs bs) (er : EachIs (fun v b => ∃ as, Reads s.heap v (enc b) as) vs bs) (hal : AllAlike (bs.map enc)) (hk : Sortable (bs.map enc)) (hL : bs.length ≤ sizeLine)
    (hu : ∀ b, b ∈ bs → A.units + 2 + (enc b).depth < cLine) (h : ∀ out, out.length = bs.length → EachIs R out (bs.mergeSort (dataLe false enc)) → Q (.ref (s.heap.objs.size + 1)) { s with heap := sortedAll s.heap vs (List.toArray out) }) :
    wpAny (model prog w) A (call (.builtin "sorted") [.ref l]) Q E s := by
  have er2 : EachIs (fun v b => ∃ as, Reads (sortingHeap (copyHeap s.heap vs) (s.heap.objs.size + 1) vs) v (enc b) as) vs bs := er.mono fun _ _ z => let ⟨as, r⟩ := z; ⟨as, PyProof.Rows.Reads.keeps (fun _ _ => sorting_copy_old) r⟩
  have lv : vs.length ≤ sizeLine := by rw [e.length]; exact hL
  refine sortedT_of_sort hl lv fun _ => list_sort_vals (s := { s with heap := copyHeap s.heap vs }) (copyHeap_at s.heap vs) (SortsAt.data (s := { s with heap := sortingHeap (copyHeap s.heap vs) (s.heap.objs.size + 1) vs }) (each_map (R := fun v d => ∃ as, Reads (sortingHeap (copyHeap s.heap vs) (s.heap.objs.size + 1) vs) v d as) enc er2) hal hk (bound_map hu)) lv ⟨rfl, ?_⟩
  exact h _ ((sortVals_length false rfl).trans e.length) (sortVals_data false e er2 hal)
end
end PySem.W
namespace Sx
open PySem L2 PyProof.Rows
open PySem.W (EachIs dataLe dataLt alike AllAlike Sortable)
section
variable {W : Wd} {S P : Addr → Prop} {H : Hp} {X : Cx} {Q : VK} {v : V} {d : D} {en : En} {σ : L2.St}
/-! ### sorted of a tuple; of a list, a tuple or a dict -/
def rSortT (K : PySem.W.Frag) : List V → Hp → VK → Prop := fun vs H Q => ∃ (a : Addr) (xs : List V) (ps : List PyData), vs = [.ref a] ∧ SqT K H a xs ∧ DpAll K H xs ps ∧ AllAlike ps ∧ Sortable ps ∧ (∀ p ∈ ps, p.depth ≤ 50) ∧
  ∀ q, H q = none → Q (.ref q) (upd H q (.lst (((xs.zip ps).mergeSort (dataLe false fun z : V × PyData => z.2)).map (·.1))))
theorem cr_sortT (hu : X.A.units + 64 < cLine) : CallR X (.builtin "sorted") (rSortT X.K) := by
  intro pins s σ H vs us Q I r h
  obtain ⟨a, xs, ps, rfl, hs, dp, hal, hk, hdp, q⟩ := h
  obtain ⟨u, rfl, ru⟩ := vals1 r
  cases ru
  obtain ⟨its, rv, pl, hz⟩ := I.tuple hs
  obtain ⟨as, ra⟩ := Dp.readsAll I ps xs its dp rv
  have e0 := each_reads ra
  have hlen : xs.length = ps.length := by rw [rv.length, e0.length]
  have e1 := each_zip rv e0 hlen
  have hsnd : (xs.zip ps).map (fun z : V × PyData => z.2) = ps := List.map_snd_zip (l₁ := xs) (l₂ := ps) (by omega)
  refine PySem.W.sortedT_data (vs := its) (bs := xs.zip ps) (enc := fun z => z.2) (R := fun u z => RelV z.1 u) (show s.heap.IsTuple a its.toArray from pl) (e1.mono fun _ _ h => h.1) (e1.mono fun _ _ h => h.2) (by rw [hsnd]; exact hal) (by rw [hsnd]; exact hk) (by rw [List.length_zip]; omega) (fun b hb => ?_) fun out hl he => ?_
  · have := hdp _ (hsnd ▸ List.mem_map.mpr ⟨b, hb, rfl⟩ : b.2 ∈ ps)
    show X.A.units + 2 + b.2.depth < cLine
    omega
  · obtain ⟨e, hat⟩ := PyProof.Rows.sortedAll_at s.heap its out.toArray
    have hle : s.heap.objs.size ≤ s.heap.objs.size + 1 := Nat.le_succ _
    refine ⟨.ref (s.heap.objs.size + 1), _, I.laid (t' := s.toks) (a := s.heap.objs.size + 1) (o := .lst (((xs.zip ps).mergeSort (dataLe false fun z : V × PyData => z.2)).map (·.1))) (fun b o h => PyProof.Rows.sortedAll_old h) hle ⟨?_, out, e, each_vals he, hat⟩, rfl, q _ (I.hok.fresh hle)⟩
    rw [List.length_map, List.length_mergeSort, List.length_zip]; omega
def fSortU (ds : List D) : Option (Bool × D) := match ds with
  | [.tup xs] => fSorted [.lst xs]
  | [.dK kvs] => fSortedD [.dK kvs]
  | _ => fSorted ds
def rSortU (K : PySem.W.Frag) : List V → Hp → VK → Prop := fun vs H Q => rSortP K vs H Q ∨ rSortT K vs H Q ∨ rSortD vs H Q
theorem cr_sortU (hc : X.calm = true) (hu : X.A.units + 64 < cLine) : CallR X (.builtin "sorted") (rSortU X.K) := fun pins s σ H vs us Q I r h => by
  rcases h with h | h | h
  · exact cr_sortP hu pins s σ H vs us Q I r h
  · exact cr_sortT hu pins s σ H vs us Q I r h
  · exact call_sortedD hc pins s σ H vs us Q I r h
theorem sort_core {vs : List V} {xs : List Sx.D} {ps : List PyData} (dl : DvL W S H vs xs) (e1 : pyL xs = some ps) : DvL W S H (((vs.zip ps).mergeSort (dataLe false fun z : V × PyData => z.2)).map (·.1)) (xs.mergeSort leD) := by
  obtain ⟨zs, z1, z2, hz⟩ := dl.both
  have hps := pyL_key e1
  have hzip : vs.zip ps = zs.map fun z => (z.1, keyD z.2) := by
    rw [hps, ← z2, ← z1, List.map_map, List.zip_map']
    rfl
  have m1 : (zs.map fun z => (z.1, keyD z.2)).mergeSort (dataLe false fun z : V × PyData => z.2) = (zs.mergeSort fun a b => leD a.2 b.2).map fun z => (z.1, keyD z.2) :=
    (List.map_mergeSort (f := fun z : V × Sx.D => (z.1, keyD z.2)) (r := fun a b => leD a.2 b.2) (s := dataLe false fun z : V × PyData => z.2) fun a _ b _ => rfl).symm
  have m2 : (zs.mergeSort fun a b => leD a.2 b.2).map (·.2) = xs.mergeSort leD := by
    rw [List.map_mergeSort (f := fun z : V × Sx.D => z.2) (r := fun a b => leD a.2 b.2) (s := leD) fun a _ b _ => rfl, z2]
  rw [hzip, m1, List.map_map, ← m2]
  exact DvL.ofBoth fun z hz' => hz z ((List.mergeSort_perm zs _).mem_iff.mp hz')
theorem p_sortT {xs : List Sx.D} {c : Bool × Sx.D} (hd : DomS S H) {vs : List V} (h : DvA W S H vs [.tup xs]) (hf : fSorted [.lst xs] = some c) (r : PRes W S H c Q) : rSortT W.K vs H Q := by
  unfold fSorted at hf
  simp only at hf
  obtain ⟨v, rfl, dv⟩ := h.one
  obtain ⟨ps, e1, e2⟩ := Option.bind_eq_some_iff.mp hf
  split at e2
  · rename_i hok
    cases e2
    simp only [Bool.and_eq_true, decide_eq_true_eq] at hok
    obtain ⟨s1, s2, s3⟩ := sortOk_to hok.1
    obtain ⟨a, ys, rfl, ha, dl⟩ := dv.tup_at
    exact ⟨_, _, ps, rfl, ha, dl.dp e1, s1, s2, s3, PRes.lst hd (sort_core dl e1) r⟩
  · cases e2
theorem p_sortU : PureN W (rSortU W.K) fSortU := by
  intro S H vs ds c Q hd h hf r
  unfold fSortU at hf
  split at hf
  · exact .inr (.inl (p_sortT hd h hf r))
  · exact .inr (.inr (p_sortD S H vs _ c Q hd h hf r))
  · exact .inl (p_sorted S H vs ds c Q hd h hf r)
end
/-! ### defs with lambdas: the code object is known -/
section
variable {Pr : Program} {w : World} {K : PySem.W.Frag} {mg : Str → Option Value} {base : Heap} {CX : CXT} {k : Nat} {f : Addr} {fd : FuncData} {ps N : List Str} {sp : Sp} {cls : CT}
theorem fnG_ofC {x qual : Str} {st : Stmt} (F : Fun K x qual st f fd) (Sc : FnScope N ps (defScope st)) (len : ∀ vs H Q E, sp vs H Q E → vs.length = ps.length)
    (hb : ∀ (A : Around) (outer : List PySem.Env) (s : Shared) (H : Hp) (vs : List V) (Q : VK) (E : XK), Room k (A.deeper (envOfC qual (defScope st) s.heap.objs.size f fd.code)) → NoG (A.deeper (envOfC qual (defScope st) s.heap.objs.size f fd.code)) → sp vs H Q E →
      ∃ t, PSs (cxOf CX Pr w K mg base N qual (defScope st) f fd.code A outer s H E) (defBody st) t ∧ t { nx := fun _ H' => Q .non H', rt := Q } (L2.start N vs) H) : FnG Pr w K mg base CX (k + 1) f fd ps sp := by
  refine ⟨len, fun {A outer s H args us vs Q E} hr hg e0 hbd r hsp => ?_⟩
  obtain ⟨oc, od, kV, doc, pm, an, cdv', ct, osl, rfl, lk, hcd⟩ := F.ex
  have hb : Room k (A.deeper (envOfC qual (defScope st) s.heap.objs.size f cdv')) → NoG (A.deeper (envOfC qual (defScope st) s.heap.objs.size f cdv')) → sp vs H Q E →
      ∃ t, PSs (cxOf CX Pr w K mg base N qual (defScope st) f cdv' A outer s H E) (defBody st) t ∧ t { nx := fun _ H' => Q .non H', rt := Q } (L2.start N vs) H := hb A outer s H vs Q E
  have hl := len vs H Q E hsp
  have kin : K.In s.heap := e0.mod.kin.keeps fun b o e => (e0.bs b o e).1
  have kd : ∀ y ∈ ps.zip us, (defScope st).names.lookup y.1 = some .local ∨ ((defScope st).names.lookup y.1 = some .cell ∧ ((cellsFrom (s.heap.objs.size + 1) (defScope st).names []).lookup y.1).isSome = true) := fun y hy =>
    (Sc.par y.1 (List.of_mem_zip (a := y.1) (b := y.2) hy).1).imp id fun q => ⟨q, PySem.W.cellsFrom_some _ _ _ (.inl q)⟩
  refine codeAny_call_function hr.depth (kin _ _ lk) rfl Sc.co Sc.gen rfl (PySem.W.codeRec_of kin hcd) (hbd _ _ _ _ (wpAny_newFunctionEnv_cells Sc.kind kd fun env he s1 x => ?_))
  subst he
  refine ⟨(e0.mod.nolimit.keeps fun b o e => (e0.bs b o e).1).keeps x.toInCall.keep, codeAny_func ?_⟩
  obtain ⟨t, ht, hq⟩ := hb (hr.deeper _) hg hsp
  have I : Inv (cxOf CX Pr w K mg base N qual (defScope st) f cdv' A outer s H E) [] (L2.start N vs) H s1 := inv_start Sc hr.hd e0 hl r x
  refine wpAny_mono (ht.run [] s1 (L2.start N vs) H _ I hq) (fun fl s' hs => ?_) fun e s' hs => hs
  have fin : ∀ {σ' : L2.St} {H' : Hp} {v : V} {u : Value}, Inv (cxOf CX Pr w K mg base N qual (defScope st) f cdv' A outer s H E) [] σ' H' s' → RelV v u → Q v H' → CE outer Pr w H s Q u s' := fun {_ H' v _} J rv q => ⟨v, H', J.os, J.bare, J.base, J.hok, rv, q⟩
  cases fl with
  | ret u =>
    obtain ⟨v, σ', H', J, rv, q⟩ := hs
    exact fin J rv q
  | next =>
    obtain ⟨σ', H', J, q⟩ := hs
    exact fin (v := V.non) (u := Value.none) J rfl q
  | brk => exact hs.elim fun _ z => z.elim fun _ z => z.2.elim
  | cont => exact hs.elim fun _ z => z.elim fun _ z => z.2.elim
theorem fn_okC {x qual : Str} {st : Stmt} {run : RunS} {c : Addr} (F : Fun K x qual st f fd) (hcd : fd.code = .ref c) (Sc : FnScope N ps (defScope st))
    (hb : ∀ (A : Around) (outer : List PySem.Env) (s : Shared) (H : Hp) (E : XK), Room k (A.deeper (envOfC qual (defScope st) s.heap.objs.size f (.ref c))) → NoG (A.deeper (envOfC qual (defScope st) s.heap.objs.size f (.ref c))) → ∀ W : Wd, W.K = K → W.cls = cls →
      PSs (cxOf CX0 Pr w K mg base N qual (defScope st) f (.ref c) A outer s H E).nox (defBody st) (TVS W run)) : FnG Pr w K mg base CX0 (k + 1) f fd ps (spR K cls ps.length (runFn N.length run)) := by
  refine fnG_ofC F Sc (fun vs H Q E h => h.1) fun A outer s H vs Q E hr hg h => ?_
  rw [hcd] at hr hg ⊢
  obtain ⟨hl, W, S, ds, hK, hc, dr, tb, dom, n1, n2, dl, wpq⟩ := h
  refine ⟨_, (hb A outer s H E hr hg W hK hc).nox, S, Pall W H, en0 N.length ds, ?_, ?_⟩
  · have hd : ds.length = ps.length := dl.len.symm.trans hl
    refine ⟨fun a h => ⟨dom a h, fun z => n1 (z ▸ h), n2.nb h⟩, fun a h => h.1, fun i f d e => ?_, fun i j f g d e v h1 h2 h3 => ?_, ?_, dr, ⟨fun h => h.2.1 rfl, ⟨fun h => h.2.2.1 rfl, fun x hx h => h.2.2.2 x hx rfl⟩⟩, tb⟩
    · obtain ⟨rfl, hd'⟩ := en0_get e
      obtain ⟨v, hv, dz⟩ := (dl.at (i := i)).2 d hd'
      refine ⟨v, ?_, dz.2, fun _ => dz.1, fun z => absurd rfl z⟩
      unfold L2.start
      rw [List.getElem?_append_left (by simpa using lt_of_get hv), List.getElem?_map, hv]
      rfl
    · exact absurd (en0_get h1).1 h3
    · unfold en0 L2.start
      simp only [List.length_append, List.length_map, List.length_replicate, dl.len]
  · have wpq := (T.wp_bind _ _ _).mp wpq
    refine T.wp_mono wpq fun r q => ?_
    obtain ⟨fl, en⟩ := r
    cases fl with
    | nx => exact fun σ' H' S' P' e R' => q .non H' S' P' e ⟨R'.sp, R'.dom, R'.dr, R'.drP, R'.tb⟩ ⟨.non, fun _ => trivial, fun z => by cases z⟩
    | rt c => exact fun v H' S' P' e ro ok => q v H' S' P' e ro ok
    | bk => exact q.elim
    | ct => exact q.elim
end
end Sx
set_option Elab.async false
set_option linter.all false
set_option maxRecDepth 100000
set_option maxHeartbeats 4000000
set_option autoImplicit false
namespace Sx
open PySem L2 PyProof.Rows
/-! one keyword -/
def sw0 {α : Type} (us ws : List α) : List α := match us, ws with
  | [], [a] => [a]
  | _, _ => []
theorem pm0 {W : Wd} : PermOk W 1 sw0 sw0 := by
  intro S H vs ds ws es h g
  cases h with
  | cons => exact .nil
  | nil =>
    match g with
    | .nil => exact .nil
    | .cons t1 d1 .nil => exact .cons t1 d1 .nil
    | .cons _ _ (.cons _ _ _) => exact .nil
theorem q0_len {rs : Runs} (h : LenR rs 1) : ∀ en : En, (rs en).all fun b => ∀ ds, onlyV b.1 = some ds → (sw0 [] ds).length = 1 := fun en => T.all_mono (h en) fun a ha ds e => by
  have := (onlyV_len e).trans ha
  match ds, this with
  | [a], _ => rfl
theorem kb0 {K : PySem.W.Frag} {x qual p1 : Str} {st : Stmt} {f : Addr} {fd : FuncData} (F : Fun K x qual st f fd)
    (h : ∀ (kV doc pm : Value) (an : Option Addr) (cdv ct a : Value), bindArgs (PySem.W.fnOf x qual (defArgs st) (defBody st) (defScope st) .none kV doc pm an cdv ct) ⟨[], [(p1, a)]⟩ = pure [(p1, a)]) : KBinds K fd [p1] [p1] sw0 sw0 := by
  obtain ⟨oc, od, kV, doc, pm, an, cdv, ct, osl, rfl, lk, hcd⟩ := F.ex
  refine ⟨fun s us ws kin hl => ?_, fun {vs us zs ws} r q => ?_⟩
  · match us, ws, hl with
    | [], [a], _ => exact .of_eq (h kV doc pm an cdv ct a)
  · cases r with
    | cons => exact .nil
    | nil =>
      match q with
      | .nil => exact .nil
      | .cons t1 .nil => exact .cons t1 .nil
      | .cons _ (.cons _ _) => exact .nil
/-! two keywords, in order -/
def sw01 {α : Type} (us ws : List α) : List α := match us, ws with
  | [], [a, b] => [a, b]
  | _, _ => []
theorem pm01 {W : Wd} : PermOk W 2 sw01 sw01 := by
  intro S H vs ds ws es h g
  cases h with
  | cons => exact .nil
  | nil =>
    match g with
    | .nil => exact .nil
    | .cons _ _ .nil => exact .nil
    | .cons t1 d1 (.cons t2 d2 .nil) => exact .cons t1 d1 (.cons t2 d2 .nil)
    | .cons _ _ (.cons _ _ (.cons _ _ _)) => exact .nil
theorem q01_len {rs : Runs} (h : LenR rs 2) : ∀ en : En, (rs en).all fun b => ∀ ds, onlyV b.1 = some ds → (sw01 [] ds).length = 2 := fun en => T.all_mono (h en) fun a ha ds e => by
  have := (onlyV_len e).trans ha
  match ds, this with
  | [a, b], _ => rfl
theorem kb01 {K : PySem.W.Frag} {x qual p1 p2 : Str} {st : Stmt} {f : Addr} {fd : FuncData} (F : Fun K x qual st f fd)
    (h : ∀ (kV doc pm : Value) (an : Option Addr) (cdv ct a b : Value), bindArgs (PySem.W.fnOf x qual (defArgs st) (defBody st) (defScope st) .none kV doc pm an cdv ct) ⟨[], [(p1, a), (p2, b)]⟩ = pure [(p1, a), (p2, b)]) : KBinds K fd [p1, p2] [p1, p2] sw01 sw01 := by
  obtain ⟨oc, od, kV, doc, pm, an, cdv, ct, osl, rfl, lk, hcd⟩ := F.ex
  refine ⟨fun s us ws kin hl => ?_, fun {vs us zs ws} r q => ?_⟩
  · match us, ws, hl with
    | [], [a, b], _ => exact .of_eq (h kV doc pm an cdv ct a b)
  · cases r with
    | cons => exact .nil
    | nil =>
      match q with
      | .nil => exact .nil
      | .cons _ .nil => exact .nil
      | .cons t1 (.cons t2 .nil) => exact .cons t1 (.cons t2 .nil)
      | .cons _ (.cons _ (.cons _ _)) => exact .nil
theorem _root_.L2.Room.u1 {k : Nat} {A : Around} (h : Room k A) : A.units + 1 < cLine := by
  have := h.units
  omega
theorem bt_max : bootBuiltins "max" = some (.builtin "max") := by decide +kernel
theorem tabs_at {H : Hp} {tb : List (Addr × Str)} (h : ∀ x ∈ tb, H x.1 = some (.tbl #[])) : LamX.Tabs tb H := fun x hx => ⟨#[], h x hx, trivial, fun pos cv z => by cases z⟩
theorem tabs_nil {H : Hp} : LamX.Tabs [] H := fun x hx => by cases hx
theorem none_nil {a : Addr} : ∀ x ∈ ([] : List (Addr × Str)), x.1 ≠ a := fun x hx => by cases hx
theorem lawT_mk {l : PySem.W.OpenLaw} {w : World} {K : PySem.W.Frag} {k N : Nat} {mg : Str → Option Value} {fa : Addr} {h : Heap} {fd : FuncData} {cs : List (Addr × Addr)} {tb : List (Addr × Str)} {run : RunS} {x : Str} (e : tb.map (·.1) = cs.map (·.2))
    (hE : ∀ p ∈ cs, h.get? p.2 = some emptyT) (hK : ∀ p ∈ cs, K.lookup p.2 = none) (hC : ∀ p ∈ cs, PySem.W.CodeHd h p.1 p.2) (hb : ∀ (s : Shared) (u : Value), BindsTo s fd ⟨[u], []⟩ [(x, u)]) (truth : ∀ m, m ≤ 63 → (run (lawEn N m)).wp Yes)
    (F : ∀ b : Heap, K.In b → b.Ns mainGlobals mg → (∀ p ∈ cs, LamX.TabB b mg p.1 p.2) → FnG l.prog w K mg b CX0 k fa fd [x] (spLaw K tb N run)) : LawT l w K k 63 x mg fa h := by
  have to : ∀ y ∈ tb, ∃ p ∈ cs, p.2 = y.1 := fun y hy => by
    have : y.1 ∈ cs.map (·.2) := by rw [← e]; exact List.mem_map.mpr ⟨y, hy, rfl⟩
    obtain ⟨p, hp, q⟩ := List.mem_map.mp this
    exact ⟨p, hp, q⟩
  refine ⟨fd, cs, spLaw K tb N run, hE, hK, hC, hb, fun G a ns hl hG hna hS => ⟨a, ns, rfl, hS, tabs_at fun y hy => ?_, fun y hy z => ?_, hl, truth _ hl, fun _ => rfl⟩, F⟩
  · obtain ⟨p, hp, q⟩ := to y hy
    rw [← q]
    exact hG p hp
  · obtain ⟨p, hp, q⟩ := to y hy
    exact hna p hp (q.trans z)
end Sx
set_option Elab.async false
set_option linter.all false
set_option maxRecDepth 100000
set_option maxHeartbeats 4000000
set_option autoImplicit false
namespace Sx
open PySem L2 PyProof.Rows
/-! ### sorted(xs, key=f) where f is def f(x): return (len(x), x) -/
structure KeyDef (x qual : Str) (st : Stmt) : Prop where
  sc : FnScope [x] [x] (defScope st)
  cell : ∀ y ∈ (defScope st).names, y.2 ≠ .cell
  loc : (defScope st).names.lookup x = some .local
  len : (defScope st).names.lookup ("len" : Str) = some NameKind.globalImplicit
  form : ∃ p0 p1 p2 p3 p4 p5 k, defBody st = [.Return (some (.Tuple [.Call (.Name "len" p1) [.Name x p2] [] p3, .Name x p4] k p5)) p0]
  db : (x == ("__debug__" : Str)) = false
section
variable {prog : Program} {w : World} {A : Around} {E : Value → Shared → Prop} {s : Shared}
theorem def_call {K : PySem.W.Frag} {f t : Addr} {fd : FuncData} {nm qual x : Str} {st : Stmt} {its : Array Value} {mg mb : Str → Option Value} {Q : Value → Shared → Prop} (L : KeyDef x qual st) (F : Fun K nm qual st f fd) (hB : Binds K fd [x] []) (hroom : A.depth < recursionLimit) (kin : K.In s.heap)
    (lim : s.heap.NoLimit) (hg : s.heap.Ns mainGlobals mg) (hmg : mg "len" = none) (hb : s.heap.Ns builtinsNs mb) (hmb : mb "len" = some (.builtin "len")) (ht : IsTup s.heap t its) (hz : (its.size : Int) < 2 ^ 62)
    (h : ∀ h' b tk tk', (∀ b o, s.heap.get? b = some o → h'.get? b = some o) → h'.get? b = some { cls := .type "tuple", data := .seq #[.int its.size tk, .ref t] } → Q (.ref b) { s with heap := h', toks := tk' }) :
    wpAny (model prog w) A (call (.ref f) [.ref t]) Q E s := by
  have bd := hB s [.ref t] kin rfl
  obtain ⟨oc, od, kV, doc, pm, an, cdv, ct, osl, rfl, lk, hcd⟩ := F.ex
  refine wpAny_call (codeAny_call_function hroom (kin _ _ lk) rfl L.sc.co L.sc.gen rfl (PySem.W.codeRec_of kin hcd) (bd _ _ _ _ ?_))
  refine wpAny_newFunctionEnv L.cell (fun y hy => by rw [List.mem_singleton.mp hy]; exact L.loc) (fun h₁ hns hsb => ⟨lim.fresh _ hsb, ?_⟩) L.sc.kind
  have kp : ∀ b o, s.heap.get? b = some o → h₁.get? b = some o := fun b o e => hsb.extBut b o (Nat.ne_of_lt (Heap.lt_size e)) (Heap.get?_push_of_some _ e)
  obtain ⟨p0, p1, p2, p3, p4, p5, k, hbody⟩ := L.form
  refine codeAny_func ?_
  rw [hbody]
  refine wpAny_execs_cons (wpAny_Return_some ?_)
  refine key_eval (x := x) (m := fun y => ([(x, Value.ref t)] : List (Str × Value)).reverse.lookup y) (mg := mg) (mb := mb) (t := t) (its := its) L.sc.kind L.loc L.len hns (by simp) (hg.keeps kp) hmg (hb.keeps kp) hmb (by obtain ⟨o, e, r⟩ := ht; exact ⟨o, kp _ _ e, r⟩) hz L.db fun tk tk' => ?_
  exact h _ _ tk tk' (fun b o e => Heap.get?_push_of_some _ (kp b o e)) (Heap.get?_push_size _ rfl)
end
def tSortF (K : PySem.W.Frag) (t : TA) : TE := fun σ H Q => t σ H fun vs H1 => ∃ (a : Addr) (bs : List (List Str × V)), vs = [.ref a] ∧ SqL K H1 a (bs.map (·.2)) ∧ (∀ z ∈ bs, z.1.length ≤ 4096 ∧ ∃ u, z.2 = .ref u ∧ SqT K H1 u (z.1.map V.str)) ∧ bs.length ≤ 4096 ∧
  ∀ p, H1 p = none → Q (.ref p) (upd H1 p (.lst (srtK bs)))
theorem pe_sortF {X : Cx} {f : Addr} {fd : FuncData} {g nm qual x : Str} {st : Stmt} {e : Expr} {t : TA} {k : Nat} {p np pos kpos : Pos} (L : KeyDef x qual st) (F : Fun X.K nm qual st f fd) (hB : Binds X.K fd [x] []) (hm0 : X.mg g = some (.ref f))
    (hr : Room k X.A) (hm : X.mg "sorted" = none) (hml : X.mg "len" = none) (ha : PA X [e] t) (hg : Gl X "sorted" := by rfl) (hg0 : Gl X g := by rfl) (hd : (g == ("__debug__" : Str)) = false := by decide)
    (he : backTo pos (starEach [e] X.env) = (false, eval e X.env) :: backTo pos (starEach [] X.env) := by rfl) (hpl : (backTo pos (starEach [e] X.env)).any (·.1) = false := by rfl) :
    PE X (.Call (.Name "sorted" p) [e] [⟨some "key", .Name g np, kpos⟩] pos) (tSortF X.K t) := by
  refine ⟨fun pins s σ H Q I h => ?_⟩
  refine wpAny_Call_Name_kw (ld_blt I hg hm (by decide +kernel : bootBuiltins "sorted" = some (.builtin "sorted")) ?_)
  refine PyProof.Rows.callWith_kw (thn (ha.run pos pins s σ H _ I h) fun us s1 ⟨vs, H1, I1, r1, q1⟩ => ?_) he hpl
  obtain ⟨a, bs, rfl, hs, hb, hl, q⟩ := q1
  obtain ⟨u1, rfl, r1'⟩ := vals1 r1
  cases (show u1 = Value.ref a from r1')
  show wpAny _ _ (evalAll [(do let v ← eval (.Name g np) X.env; standAt pos; pure v)]) _ _ _
  refine wpAny_evalAll_cons (wpAny_bind (ld_glob I1 hg0 hm0 (wpAny_bind (wpAny_standAt (wpAny_pure (wpAny_evalAll_nil ?_)))) hd))
  obtain ⟨its, rv, pl, _⟩ := I1.list hs
  have each := rk_each I1 hb rv
  have gl := I1.mod.glob.keeps I1.bk
  obtain ⟨mb, bl1, bl2⟩ := I1.mod.blt
  have bl := bl1.keeps I1.bk
  have hmb : mb "len" = some (.builtin "len") := (bl2 "len" (by decide)).trans (by decide +kernel)
  have kin : X.K.In s1.heap := I1.kIn
  have szl : (4096 : Nat) < sizeLine := by rw [sizeLine_eq]; decide
  show wpAny _ _ (call (.builtin "sorted") [.ref a] [(Str.ofString "key", .ref f)]) _ _ _
  refine PySem.W.sorted_key_data (b := false) (R := RK s1.heap) (bs := bs) (fun z => keyL z.1) pl.isList each (fun d hd d' hd' => ?_) (.inl fun d hd => ?_) (by omega) (fun z _ => ?_) (ksk_s1 _ _) (fun _ => ksk_l1 _ _) (fun _ => ksk_t1 _ _) (fun v z hR hz h2 tk kept => ?_) fun out c2 h' tk kept fr at2 lo eo => ?_
  · obtain ⟨z, _, rfl⟩ := List.mem_map.mp hd
    obtain ⟨z', _, rfl⟩ := List.mem_map.mp hd'
    exact keyL_alike _ _
  · obtain ⟨z, _, rfl⟩ := List.mem_map.mp hd
    exact ⟨_, _, rfl⟩
  · have := keyL_depth z.1
    have := hr.un
    omega
  · obtain ⟨_, t0, its0, rfl, ht0, rv0⟩ := hR
    have hz4 := (hb z hz).1
    have len0 : its0.size = z.1.length := by
      have := rv0.length
      rw [List.length_map, Array.length_toList] at this
      exact this.symm
    refine def_call (A := X.A.in1.in1) (K := X.K) (mg := X.mg) (mb := mb) (x := x) (t := t0) (its := its0) L F hB (show X.A.depth < _ by have := hr.dp; omega) (kin.keeps kept) (I1.nolimit.keeps kept) (gl.keeps kept) hml (bl.keeps kept) hmb (by obtain ⟨o, e, r⟩ := ht0; exact ⟨o, kept _ _ e, r⟩) (by omega) fun h3 b tk1 tk2 kept3 atb => ?_
    refine ⟨h3, tk2, rfl, kept3, ?_⟩
    obtain ⟨o0, e0, c0, n0, d0⟩ := ht0
    refine .tuple atb rfl rfl (.cons (as := []) (bs := []) ?_ (.cons (as := []) (bs := []) (.tuple (kept3 _ _ (kept _ _ e0)) c0 d0 (reads_strs rv0)) .nil))
    rw [len0]
    exact .int _ _
  · have rvo := rk_vals eo
    have nh : H1 (s1.heap.objs.size + 1) = none := I1.hok.fresh (Nat.le_succ _)
    have lsz : (srtK bs).length ≤ sizeLine := by
      unfold srtK
      rw [List.length_map, List.length_mergeSort]
      omega
    exact ⟨.ref (s1.heap.objs.size + 1), upd H1 (s1.heap.objs.size + 1) (.lst (srtK bs)), I1.laid (t' := tk) kept (Nat.le_succ _) ⟨lsz, out, c2, rvo, at2⟩, rfl, q _ nh⟩
section
variable {W : Wd} {σ : L2.St} {H : Hp} {X : Cx}
theorem tv_sortF {rs : Runs} {Q : VK} (h : TV W (runN rs fSortK) σ H Q) : tSortF W.K (TVs W rs) σ H Q := by
  obtain ⟨S, P, en, R, w⟩ := h
  refine TVs.use R w fun r vs H1 S1 P1 e1 R1 p1 q1 => ?_
  obtain ⟨c, ec, q1⟩ := wp_ret1 q1
  obtain ⟨ds, hds, ec⟩ := Option.bind_eq_some_iff.mp ec
  have da := p1.now R1 hds
  unfold fSortK at ec
  split at ec
  case h_2 => cases ec
  rename_i xs
  obtain ⟨ls, hls, ec⟩ := Option.bind_eq_some_iff.mp ec
  split at ec
  case isFalse => cases ec
  rename_i hc
  cases ec
  obtain ⟨v, rfl, dv⟩ := da.one
  cases dv with
  | @lst a ys _ ha dl =>
    obtain ⟨bs, rfl, rfl, hb⟩ := tups_at dl hls
    refine ⟨a, bs, rfl, SqL.of ha, fun z hz => ⟨of_decide_eq_true (List.all_eq_true.mp hc.2 z.1 (List.mem_map.mpr ⟨z, hz, rfl⟩)), (hb z hz).1⟩, by simpa using hc.1, fun p hpn => ?_⟩
    obtain ⟨R3, fr, e3, nS, nP⟩ := R1.born (u := .lst (srtK bs)) hpn
    refine q1 (.ref p) _ S1 P1 (e1.trans e3) R3 ⟨.lst upd_same ?_, p, _, rfl, fr, upd_same⟩
    have eq : (sortK (bs.map (·.1))).map (fun l => D.tup (l.map D.str)) = (bs.mergeSort (PySem.W.dataLe false fun z => keyL z.1)).map fun z => D.tup (z.1.map D.str) := by
      unfold sortK
      rw [← PySem.W.sort_maps (r := PySem.W.dataLe false fun z : List Str × V => keyL z.1) (fun z : List Str × V => z.1) (fun _ _ _ _ => rfl), List.map_map]
      rfl
    rw [eq]
    have dl2 : DvL W S1 H1 (srtK bs) ((bs.mergeSort (PySem.W.dataLe false fun z => keyL z.1)).map fun z => D.tup (z.1.map D.str)) := by
      unfold srtK
      exact dvl_of fun z hz => (hb z (List.mem_mergeSort.mp hz)).2
    exact dl2.mono (fun _ h => h) fun b s => e3.h b (R1.sp b s)
  | _ => skip
theorem e_sortF {f : Addr} {fd : FuncData} {g nm qual x : Str} {st : Stmt} {e : Expr} {rs : Runs} {k : Nat} {p np pos kpos : Pos} (hK : X.K = W.K) (L : KeyDef x qual st) (F : Fun X.K nm qual st f fd) (hB : Binds X.K fd [x] []) (hm0 : X.mg g = some (.ref f))
    (hr : Room k X.A) (hm : X.mg "sorted" = none) (hml : X.mg "len" = none) (ha : PA X [e] (TVs W rs)) (hg : Gl X "sorted" := by rfl) (hg0 : Gl X g := by rfl) (hd : (g == ("__debug__" : Str)) = false := by decide)
    (he : backTo pos (starEach [e] X.env) = (false, eval e X.env) :: backTo pos (starEach [] X.env) := by rfl) (hpl : (backTo pos (starEach [e] X.env)).any (·.1) = false := by rfl) :
    PE X (.Call (.Name "sorted" p) [e] [⟨some "key", .Name g np, kpos⟩] pos) (TV W (runN rs fSortK)) :=
  pe_weak (pe_sortF L F hB hm0 hr hm hml ha hg hg0 hd he hpl) fun σ H Q h => by rw [hK]; exact tv_sortF h
/-! ### a written tuple without items, under a module's name -/
theorem e_gtup0 {x : Str} {a : Addr} {o : Obj} {n : Nat} {pos : Pos} (hK : X.K = W.K) (hm : X.mg x = some (.ref a)) (hl : X.K.lookup a = some o) (hc : o.cls = .type "tuple") (hd0 : o.data = .seq #[] n) (hg : Gl X x := by rfl) (hd : (x == ("__debug__" : Str)) = false := by decide) :
    PE X (.Name x pos) (TV W (rC (.tup []))) := pe_weak (pe_glob (v := .ref a) hg hm rfl hd) fun _ _ _ h => tv_c (d := .tup []) (fun _ _ => ⟨trivial, .tup (.inr (.inr ⟨o, #[], n, hK ▸ hl, hc, hd0, Nat.zero_le _, .nil⟩)) .nil⟩) h
end
end Sx
set_option Elab.async false
set_option linter.all false
set_option maxRecDepth 100000
set_option maxHeartbeats 4000000
set_option autoImplicit false
namespace Sx
open PySem L2 PyProof.Rows
/-! ### sets of texts that can be walked: sorted(set(texts)) -/
def keyT (e : Int × Value) : Str := match e.2 with
  | .str k _ => k
  | _ => Str.empty
def GoodT (P : Program) (w : World) (e : Int × Value) : Prop := ∃ (k : Str) (tk : Tok), e.2 = Value.str k tk ∧ e.1 = (strKind P w).hash k
def SetRT (P : Program) (w : World) (h : Heap) (a : Addr) (S : Str → Bool) (n : Nat) : Prop :=
  ∃ (o : Obj) (es : Array (Int × Value)) (ep : Nat) (t : SetTable), h.get? a = some o ∧ o.ExactSet ∧ o.data = .set es ep t ∧ (∀ e ∈ es.toList, GoodT P w e) ∧ (es.toList.map keyT).Nodup ∧ (∀ k, S k = true ↔ k ∈ es.toList.map keyT) ∧
    es.size < scanBound ∧ t.fits es.size = true ∧ es.size = n ∧ Ris t.place.toList ∧ (w.params.followText "set-order" = true ∨ t.led = true)
section
variable {P : Program} {w : World} {h h' : Heap} {a : Addr} {S : Str → Bool} {n : Nat}
theorem SetRT.at (R : SetRT P w h a S n) (kp : ∀ o, h.get? a = some o → h'.get? a = some o) : SetRT P w h' a S n := by
  obtain ⟨o, es, ep, t, go, rr⟩ := R
  exact ⟨o, es, ep, t, kp o go, rr⟩
theorem goodT_elems {l : List (Int × Value)} (g : ∀ e ∈ l, GoodT P w e) : ElemsOf (strKind P w) l := fun e he => by
  obtain ⟨k, tk, q1, q2⟩ := g e he
  exact ⟨⟨k, by rw [q1]; exact strKind_is P w k tk, q2⟩, by rw [q1] <;> rfl⟩
theorem goodT_is {e : Int × Value} (g : GoodT P w e) (k : Str) : (strKind P w).is k e.2 = true ↔ keyT e = k := by
  obtain ⟨k0, tk, q1, _⟩ := g
  unfold keyT
  rw [q1]
  show ((k0 == k) = true) ↔ k0 = k
  exact beq_iff_eq
theorem goodT_mem {l : List (Int × Value)} (g : ∀ e ∈ l, GoodT P w e) (k : Str) : k ∈ l.map keyT ↔ ∃ e ∈ l, (strKind P w).is k e.2 = true := by
  rw [List.mem_map]
  constructor
  · rintro ⟨e, he, q⟩
    exact ⟨e, he, (goodT_is (g e he) k).2 q⟩
  · rintro ⟨e, he, q⟩
    exact ⟨e, he, (goodT_is (g e he) k).1 q⟩
theorem SetRT.setOf (R : SetRT P w h a S n) : h.SetOf (strKind P w) a S n := by
  obtain ⟨o, es, ep, t, go, gx, gd, g, nd, gm, gb, gf, gn, _⟩ := R
  exact ⟨o, es, ep, t, go, gx, gd, goodT_elems g, fun k => (gm k).trans (goodT_mem g k), gb, gf, gn⟩
end
section
variable {P : Program} {w : World} {A : Around} {E : Value → Shared → Prop} {s : Shared} {a : Addr} {S : Str → Bool} {n : Nat}
theorem setRT_tail {g : Bool → Sem Unit} (gave0 : ∀ (b : Bool) (s₁ : Shared) (Q' : Unit → Shared → Prop), Q' () s₁ → wpAny (model P w) A (g b) Q' E s₁)
    {o : Obj} {es : Array (Int × Value)} {ep : Nat} {t : SetTable} (go : s.heap.get? a = some o) (gx : o.ExactSet) (gd : o.data = .set es ep t)
    {es1 : Array (Int × Value)} {t2 : SetTable} {S' : Str → Bool} (g1 : ∀ e ∈ es1.toList, GoodT P w e) (nd1 : (es1.toList.map keyT).Nodup) (m1 : ∀ k, S' k = true ↔ k ∈ es1.toList.map keyT)
    (hb1 : es1.size < scanBound) (hf2 : t2.fits es1.size = true) (hr : Ris t2.place.toList) (hl : w.params.followText "set-order" = true ∨ t2.led = true) {wasDummy : Bool} {R : Option Bool → Shared → Prop}
    (fin : ∀ h', Heap.SameBut a s.heap h' → SetRT P w h' a S' es1.size → R (some true) { s with heap := h' }) :
    wpAny (model P w) A (do
        storeSet a es1 t2
        if (!wasDummy && t2.tooFull) = true then do
            g (relayAll t2 es1 (SetTable.grown es1.size)).2.2
            storeSet a (relayAll t2 es1 (SetTable.grown es1.size)).1 (relayAll t2 es1 (SetTable.grown es1.size)).2.1
            pure (some true)
          else pure (some true)) R E s := by
  refine wpAny_bind (wpAny_storeSet_of go gd ?_ (fits_of_scanBound hb1))
  have ho1 := store_at (es' := es1) (t' := t2) go gd
  have sb1 := Heap.SameBut.update s.heap a (Obj.putSet es1 t2)
  split
  · have pm := relayAll_perm t2 es1 (SetTable.grown es1.size)
    have hf3 := relayAll_fits t2 es1 (SetTable.grown es1.size)
    have hr3 := relayAll_ris t2 es1 (SetTable.grown es1.size)
    have hl3 := relayAll_led t2 es1 (SetTable.grown es1.size)
    generalize relayAll t2 es1 (SetTable.grown es1.size) = Z at pm hf3 hr3 hl3 ⊢
    obtain ⟨es2, t3, gv⟩ := Z
    dsimp only at pm hf3 hr3 hl3 ⊢
    have hsz : es2.size = es1.size := by rw [← Array.length_toList, pm.length_eq, Array.length_toList]
    have hb2 : es2.size < scanBound := by rw [hsz]; exact hb1
    refine wpAny_bind (gave0 _ _ _ ?_)
    refine wpAny_bind (wpAny_storeSet_of ho1 rfl ?_ (fits_of_scanBound hb2))
    have ho2 := store_at (es' := es2) (t' := t3) ho1 rfl
    refine wpAny_pure (fin _ (sb1.trans (Heap.SameBut.update _ a _)) ?_)
    exact ⟨_, es2, _, t3, ho2, gx, rfl, fun e he => g1 e (pm.mem_iff.mp he), (pm.map keyT).nodup_iff.mpr nd1, fun k => (m1 k).trans (pm.map keyT).mem_iff.symm, hb2, hf3, hsz, hr3,
      hl.imp id fun z => hl3.trans z⟩
  · exact wpAny_pure (fin _ sb1 ⟨_, es1, _, t2, ho1, gx, rfl, g1, nd1, m1, hb1, hf2, rfl, hr, hl⟩)
theorem setRT_add {k : Str} {tk : Tok} {Q : Bool → Shared → Prop} (R : SetRT P w s.heap a S n) (room : n + 1 < scanBound)
    (hQ : ∀ h', Heap.SameBut a s.heap h' → SetRT P w h' a (fun j => S j || decide (j = k)) (if S k = true then n else n + 1) → Q (!S k) { s with heap := h' }) :
    wpAny (model P w) A (setAddHashed a (.str k tk) ((strKind P w).hash k)) Q E s := by
  obtain ⟨o, es, ep, t, go, gx, gd, g, nd, gm, gb, gf, gn, hr, hl⟩ := R
  have kis : (strKind P w).is k (.str k tk) = true := strKind_is P w k tk
  have sca : (Value.str k tk).scannable = true := rfl
  have els : ElemsOf (strKind P w) es.toList := goodT_elems g
  unfold setAddHashed setAddHashedIn
  refine wpAny_holding (wpAny_bind (wpAny_setState_of go gd gf ?_))
  dsimp only
  rw [byScan_of sca gb els]
  simp only [↓reduceIte]
  unfold setAddByScan
  refine wpAny_bind (wpAny_bind (wpAny_rule (wpAny_bind (wpAny_setScan_of kis go gd gf els ?_))))
  cases fi : List.findIdx? (fun e => (strKind P w).is k e.2) es.toList with
  | some j =>
    dsimp only
    obtain ⟨hj, pj, _⟩ := List.findIdx?_eq_some_iff_getElem.mp fi
    have inS : S k = true := (gm k).2 ((goodT_mem (P := P) (w := w) g k).2 ⟨es.toList[j], List.getElem_mem hj, pj⟩)
    refine wpAny_pure (wpAny_pure ?_)
    have q := hQ s.heap (Heap.SameBut.refl a s.heap) ⟨o, es, ep, t, go, gx, gd, g, nd, fun i => by
      rw [Bool.or_eq_true, decide_eq_true_eq, ← gm i]
      exact ⟨fun z => z.elim id (fun e => e ▸ inS), .inl⟩, gb, gf, by rw [if_pos inS]; exact gn, hr, hl⟩
    rw [inS] at q
    exact q
  | none =>
    dsimp only
    have out : k ∉ es.toList.map keyT := fun z => by
      obtain ⟨e, he, q⟩ := (goodT_mem (P := P) (w := w) g k).1 z
      have c := List.findIdx?_eq_none_iff.mp fi e he
      rw [q] at c
      cases c
    have notS : S k = false := by
      cases q : S k with
      | false => rfl
      | true => exact absurd ((gm k).1 q) out
    have way : ∀ (b : Bool) {s₁ : Shared} {Q' : Unit → Shared → Prop}, Q' () s₁ → wpAny (model P w) A (match b with | true => rule "set.scan.the-table-gave-way" | false => pure ()) Q' E s₁ :=
      fun b s₁ Q' q => by cases b <;> first | exact wpAny_pure q | exact wpAny_rule q
    have pm := layNew_perm t es ((strKind P w).hash k) (.str k tk)
    have hf1 := layNew_fits t es ((strKind P w).hash k) (.str k tk)
    have hr1 := layNew_ris t es ((strKind P w).hash k) (.str k tk) hr
    have hl1 := layNew_led t es ((strKind P w).hash k) (.str k tk)
    generalize layNew t es ((strKind P w).hash k) (.str k tk) = Z at pm hf1 hr1 hl1 ⊢
    obtain ⟨es1, t1, wasDummy, gv⟩ := Z
    dsimp only at pm hf1 hr1 hl1 ⊢
    rw [Array.toList_push] at pm
    have pc : es1.toList.Perm (((strKind P w).hash k, Value.str k tk) :: es.toList) := pm.trans (List.perm_append_singleton _ _)
    have pk : (es1.toList.map keyT).Perm (k :: es.toList.map keyT) := pc.map keyT
    have g1 : ∀ e ∈ es1.toList, GoodT P w e := fun e he => by
      rcases List.mem_cons.mp (pc.mem_iff.mp he) with z | z
      · rw [z]; exact ⟨k, tk, rfl, rfl⟩
      · exact g e z
    have nd1 : (es1.toList.map keyT).Nodup := pk.nodup_iff.mpr (List.nodup_cons.mpr ⟨out, nd⟩)
    have m1 : ∀ i, (S i || decide (i = k)) = true ↔ i ∈ es1.toList.map keyT := fun i => by
      rw [Bool.or_eq_true, decide_eq_true_eq, gm i, pk.mem_iff, List.mem_cons]
      exact Or.comm
    have hsz : es1.size = n + 1 := by rw [← Array.length_toList, pc.length_eq, List.length_cons, Array.length_toList, gn]
    have hb1 : es1.size < scanBound := by rw [hsz]; exact room
    have ledd : w.params.followText "set-order" = true ∨ t1.led = true := hl.imp id fun z => hl1.trans z
    have fin : ∀ h', Heap.SameBut a s.heap h' → SetRT P w h' a (fun j => S j || decide (j = k)) es1.size → Q true { s with heap := h' } := fun h' sb r => by
      have q := hQ h' sb
      rw [notS] at q
      rw [hsz] at r
      exact q r
    refine wpAny_bind (way _ ?_)
    split
    · refine wpAny_bind ?_
      rw [hashByValue_scannable 8 sca]
      refine wpAny_pure ?_
      refine setRT_tail ?_ go gx gd g1 nd1 m1 hb1 ?_ ?_ ?_ ?_
      · intro b s₁ Q' q; cases b <;> first | exact wpAny_pure q | exact wpAny_rule q
      · first | (split <;> first | exact hf1 | exact SetTable.fits_plain_off hf1) | exact hf1
      · first | (split <;> exact hr1) | exact hr1
      · first | (split <;> exact ledd) | exact ledd
      · intro h' sb r; dsimp only; exact wpAny_pure (fin h' sb r)
    · refine wpAny_bind (wpAny_pure ?_)
      simp only [↓reduceIte]
      refine setRT_tail ?_ go gx gd g1 nd1 m1 hb1 hf1 hr1 ledd ?_
      · intro b s₁ Q' q; cases b <;> first | exact wpAny_pure q | exact wpAny_rule q
      · intro h' sb r; dsimp only; exact wpAny_pure (fin h' sb r)
theorem setRT_fresh {h : Heap} (P : Program) (w : World) : SetRT P w (h.push { cls := .type "set", dict := none, data := .set #[] 0 (.fresh 0 0 (!w.params.followText "set-order")) }) h.objs.size (fun _ => false) 0 :=
  ⟨_, #[], 0, _, Heap.get?_push_size _ rfl, ⟨rfl, rfl, rfl⟩, rfl, (fun e he => by simp at he), (by simp), (fun k => by simp), (by decide), (by rfl), rfl, List.Pairwise.nil, by
    show _ ∨ (!w.params.followText "set-order") = true
    cases w.params.followText "set-order"
    · exact .inr rfl
    · exact .inl rfl⟩
theorem SetRT.congr {h : Heap} {S' : Str → Bool} {m : Nat} (R : SetRT P w h a S n) (e : ∀ k, S' k = S k) (en : m = n) : SetRT P w h a S' m := by
  obtain rfl : S' = S := funext e
  rw [en]
  exact R
end
section
variable {Pr : Program} {w : World} {A : Around} {R : Result → Shared → Prop} {I : Addr} {fp wr : List Addr} {G : Array GenState → Array GenState → Prop} {n : Nat} {Pv : Nat → Value → Prop} {St : Nat → Shared → Prop}
/-- the filling of such a set -/
theorem fillRT (T : WalksS Pr w A.in1 I fp wr G n Pv St) (D0 : Addr) (out : D0 ∉ fp) (xs : List Str) (len : xs.length = n) (few : n < 4096) (at' : ∀ i v, Pv i v → ∃ t, v = .str (xs.getD i Str.empty) t) :
    ∀ (m i : Nat) (s : Shared), n - i = m → i ≤ n → St i s → SetRT Pr w s.heap D0 (fun y => (mets (xs.take i)).any (· == y)) (mets (xs.take i)).length →
      (∀ s2, Moved (D0 :: wr) G s s2 → SetRT Pr w s2.heap D0 (fun y => (mets xs).any (· == y)) (mets xs).length → R (.ok (.ret .none)) s2) → codeAny (model Pr w) A (.builtin "set.update.loop" ⟨[.ref D0, .ref I], []⟩) R s := by
  have notw : D0 ∉ wr := fun h => out (T.sub _ h)
  have keep : ∀ {s s2 : Shared} {S : Str → Bool} {c : Nat}, Moved wr G s s2 → SetRT Pr w s.heap D0 S c → SetRT Pr w s2.heap D0 S c := fun mv z => z.at fun o ho => mv.heap D0 _ notw ho
  intro m
  induction m with
  | zero =>
    intro i s hm hi st hS fin
    obtain rfl : i = n := by omega
    refine codeAny_builtin (PyProof.Rows.F.entry_set_update_loop) ?_
    rw [Around.under_plainId PyProof.Rows.F.plain_set_update_loop]
    refine wpAny_bind (m := pyNext (.ref I)) (T.done s _ _ st fun s2 mv => wpAny_pure (fin s2 (mv.mono fun b hb => List.mem_cons_of_mem _ hb) ?_))
    rw [← len, List.take_length] at hS
    exact keep mv hS
  | succ m ih =>
    intro i s hm hi st hS fin
    have hlt : i < n := by omega
    refine codeAny_builtin (PyProof.Rows.F.entry_set_update_loop) ?_
    rw [Around.under_plainId PyProof.Rows.F.plain_set_update_loop]
    refine wpAny_bind (m := pyNext (.ref I)) (T.item i s _ _ hlt st fun v s2 hv st2 mv => ?_)
    obtain ⟨t, rfl⟩ := at' i v hv
    have room : (mets (xs.take i)).length + 1 < scanBound := by
      have h1 := mets_le (xs.take i)
      rw [List.length_take] at h1
      unfold scanBound
      omega
    have hS2 := keep mv hS
    refine wpAny_bind (m := holding _ (setAdd D0 _)) (wpAny_holding ?_)
    unfold setAdd
    refine wpAny_holding (wpAny_bind ((strKind Pr w).pyHash (k := xs.getD i Str.empty) (strKind_is _ _ _ _) (setRT_add (s := { s2 with toks := s2.toks + 1 }) hS2 room fun h2 sb new => ?_)))
    have new2 : SetRT Pr w h2 D0 (fun y => (mets (xs.take (i + 1))).any (· == y)) (mets (xs.take (i + 1))).length :=
      new.congr (fun y => by rw [take_snoc (by omega), mets_snoc, mStep_any]) (by rw [take_snoc (by omega), mets_snoc, mStep_len])
    refine wpAny_pure ⟨plainId_quiet PyProof.Rows.F.plain_set_update_loop _, ih (i + 1) _ (by omega) hlt (T.frame _ s2 _ _ st2 (Nat.le_succ _) fun b hb o e => (sb.2 b fun z => out (z ▸ hb)).trans e) new2 fun s3 mv3 S3 => fin s3 (Moved.trans T.gtrans ((mv.mono fun b hb => List.mem_cons_of_mem _ hb).then_heap (Nat.le_succ _) fun b o hb e => (sb.2 b fun z => hb (z ▸ List.mem_cons_self)).trans e) mv3) S3⟩
end
section
variable {Pr : Program} {w : World} {A : Around} {E : Value → Shared → Prop} {s : Shared}
set_option maxHeartbeats 3200000 in
theorem call_setRT {ty it : String} (Y : Seqy ty it) {l : Addr} {o : Obj} {items : Array Value} {nn : Nat} {xs : List Str} {Q : Value → Shared → Prop} (hh : A.handled = none) (ho : s.heap.get? l = some o) (hc : o.cls = .type ty) (hd : o.data = .seq items nn) (hi : StrsAre items.toList xs) (few : xs.length < 4096)
    (hit : ∀ {B : Around} {E' : Value → Shared → Prop} {z : Shared} {Q' : Value → Shared → Prop}, z.heap.get? l = some o → Q' (.ref z.heap.objs.size) { z with heap := z.heap.push { cls := .type it, data := .fields #[.ref l, .int 0 0] } } → wpAny (model Pr w) B (pyIter (.ref l)) Q' E' z)
    (walk : ∀ {B : Around}, B.handled = none → ∀ I : Addr, l ≠ I → ∃ St : Nat → Heap → Prop, PySem.Walks Pr w B I [I, l] [I] items.size (fun i v => items[i]? = some v) St ∧ ∀ h : Heap, h.get? I = some { cls := .type it, data := .fields #[.ref l, .int 0 0] } → h.get? l = some o → St 0 h)
    (q : ∀ (h2 : Heap) (tk : Nat), SetRT Pr w h2 s.heap.objs.size (fun y => (mets xs).any (· == y)) (mets xs).length → (∀ b u, b < s.heap.objs.size → s.heap.get? b = some u → h2.get? b = some u) → Q (.ref s.heap.objs.size) { s with heap := h2, toks := tk }) :
    wpAny (model Pr w) A (call (.type "set") [.ref l]) Q E s := by
  have ⟨c0, tl0, mro0⟩ := PySem.F.called_set.mro
  have made0 := PySem.F.called_set.made
  have sub0 := PySem.F.called_set.sub
  have nt0 := PySem.F.called_set.notType
  have cc0 := PySem.F.called_set.canCreate
  have tc0 := PySem.F.typeCall_set_1 (.ref l)
  refine wpAny_call (codeAny_of_tree (show wpAny _ _ (callAny (.type "set") _) _ _ _ from wpAny_pure ⟨Code.quiet_builtin _ (by decide +kernel), codeAny_builtin PySem.F.entry_type_call ?_⟩))
  rw [Around.under_plain (weight_type_call_type "set" [Value.ref l] []) rfl]
  repeat (any_goals (first | wp_step | assumption))
  refine codeAny_mono (code_set_led1 (.ref l) (E := E) (Q₁ := fun u z => u = .ref s.heap.objs.size ∧ z = { s with heap := s.heap.push (fresh (!w.params.followText "set-order")) }) ⟨rfl, rfl⟩) fun r z hr => ?_
  match r, hr with
  | .error e, hr => exact hr
  | .ok (.ret u), ⟨e1, e2⟩ =>
    subst e1; subst e2
    have led0 := setRT_fresh (h := s.heap) Pr w
    generalize hled : (!w.params.followText "set-order") = led at led0 ⊢
    have g0 : (s.heap.push (fresh led)).get? s.heap.objs.size = some (fresh led) := Heap.get?_push_size _ rfl
    have ty0 : Shared.TypeIs { s with heap := s.heap.push (fresh led) } (.ref s.heap.objs.size) "set" := ⟨_, g0, rfl⟩
    have lk0 := PySem.F.called_set.init.lookup
    have bd0 := PySem.F.called_set.init.bind (.ref s.heap.objs.size)
    repeat (any_goals (first | wp_step | assumption))
    refine codeAny_mono (codeAny_call_builtin (R := wants (fun r z => r = .none ∧ ∃ h2 tk, z = { s with heap := h2, toks := tk } ∧ SetRT Pr w h2 s.heap.objs.size (fun y => (mets xs).any (· == y)) (mets xs).length ∧ (∀ b u, b < s.heap.objs.size → s.heap.get? b = some u → h2.get? b = some u)) E)
      PySem.F.called_set.init.plain PySem.F.entry_set_init (check_set_init_1 ty0 ?_)) fun r2 z2 hr2 => ?_
    · obtain ⟨ocls, odict, odata, oslots⟩ := o
      simp only at hc hd
      subst hc; subst hd
      have gl := Heap.get?_push_of_some (fresh led) ho
      obtain ⟨y1, y2, y3⟩ := Y
      unfold Builtin.«set.__init__» noKeywords Builtin.Frozenset.updateFrom
      generalize hP : pyIter = P0
      wp_walk
      subst hP
      refine hit gl (wpAny_bind (wpAny_runValue ?_))
      have lo : l < s.heap.objs.size := Heap.lt_size ho
      obtain ⟨St, W, w0⟩ := walk (B := A.in1.in1.in1) (by simp [hh]) (s.heap.push (fresh led)).objs.size (by rw [Heap.size_push]; exact Nat.ne_of_lt (Nat.lt_succ_of_lt lo))
      refine fillRT W.toS s.heap.objs.size (fun z => by
        rcases List.mem_cons.mp z with z | z
        · rw [Heap.size_push] at z; exact Nat.ne_of_lt (Nat.lt_succ_self _) z
        · exact Nat.ne_of_gt lo (List.mem_singleton.mp z)) xs (by rw [← StrsAre.len_eq hi, Array.length_toList]) (by rw [← Array.length_toList, StrsAre.len_eq hi]; exact few) (fun i v hv => SS.strs_at hi i v (by rw [Array.getElem?_toList]; exact hv)) (items.size - 0) 0 _ (by omega) (Nat.zero_le _) (w0 _ (Heap.get?_push_size _ rfl) (Heap.get?_push_of_some _ gl)) ?_ ?_
      · exact (led0.at fun o e => Heap.get?_push_of_some _ e).congr (fun _ => rfl) rfl
      · rintro ⟨h2, g2, d2, tk2, os2⟩ mv S2
        obtain rfl : g2 = s.gens := mv.gens
        obtain rfl : d2 = s.drawn := mv.drawn
        obtain rfl : os2 = s.os := mv.os
        show wpAny _ _ _ _ _ _
        refine wpAny_pure (show wpAny _ _ (ret Value.none) _ _ _ from wpAny_pure ⟨rfl, h2, tk2, rfl, S2, fun b u hb e => mv.heap b u ?_ (Heap.get?_push_of_some _ (Heap.get?_push_of_some _ e))⟩)
        intro z
        rcases List.mem_cons.mp z with z | z
        · exact Nat.ne_of_lt hb z
        · rw [List.mem_singleton.mp z, Heap.size_push] at hb
          exact Nat.lt_irrefl _ (Nat.lt_trans hb (Nat.lt_succ_self _))
    · match r2, hr2 with
      | .error e, hr2 => exact hr2
      | .ok (.ret u), ⟨e1, h2, tk, e2, S2, k2⟩ =>
        subst e1; subst e2
        repeat (any_goals (first | wp_step | assumption))
        exact q _ _ S2 k2
end
end Sx
set_option Elab.async false
set_option linter.all false
set_option maxRecDepth 100000
set_option maxHeartbeats 4000000
set_option autoImplicit false
namespace Sx
open PySem L2 PyProof.Rows
open PySem.W (EachIs dataLe dataLt alike AllAlike Sortable SortsAt each_map bound_map sortVals_data list_sort_vals)
theorem mets_nd : ∀ (xs σ : List Str), σ.Nodup → (xs.foldl mStep σ).Nodup ∧ ∀ y, y ∈ xs.foldl mStep σ ↔ y ∈ σ ∨ y ∈ xs
  | [], σ, h => ⟨h, fun y => by simp⟩
  | x :: xs, σ, h => by
    have h2 : (mStep σ x).Nodup ∧ ∀ y, y ∈ mStep σ x ↔ y ∈ σ ∨ y = x := by
      unfold mStep
      split
      · rename_i e
        obtain ⟨z, hz, ez⟩ := List.any_eq_true.mp e
        cases eq_of_beq ez
        exact ⟨h, fun y => ⟨.inl, fun q => q.elim id fun q => q ▸ hz⟩⟩
      · rename_i e
        have nx : x ∉ σ := fun z => e (List.any_eq_true.mpr ⟨x, z, beq_self_eq_true x⟩)
        refine ⟨List.nodup_append.mpr ⟨h, (by simp), fun a ha b hb => ?_⟩, fun y => by simp⟩
        cases List.mem_singleton.mp hb
        exact fun z => nx (z ▸ ha)
    obtain ⟨i1, i2⟩ := mets_nd xs (mStep σ x) h2.1
    refine ⟨i1, fun y => ?_⟩
    show y ∈ xs.foldl mStep (mStep σ x) ↔ _
    rw [i2 y, h2.2 y, List.mem_cons, or_assoc]
theorem mets_no (xs : List Str) : (mets xs).Nodup := (mets_nd xs [] List.nodup_nil).1
theorem mets_mem {xs : List Str} {y : Str} : y ∈ mets xs ↔ y ∈ xs := by
  have := (mets_nd xs [] List.nodup_nil).2 y
  simpa [mets] using this
section
variable {P : Program} {w : World} {A : Around} {E : Value → Shared → Prop} {s : Shared} {a : Addr} {S : Str → Bool} {n : Nat}
def txtOf (v : Value) : Str := match v with
  | .str k _ => k
  | _ => Str.empty
theorem each_txt : ∀ {vs : List Value}, (∀ v ∈ vs, ∃ k t, v = Value.str k t) → EachIs (fun v (b : Str) => ∃ t, v = Value.str b t) vs (vs.map txtOf)
  | [], _ => .nil
  | v :: vs, h => by
    obtain ⟨k, t, rfl⟩ := h v List.mem_cons_self
    exact .cons ⟨t, rfl⟩ (each_txt fun u hu => h u (List.mem_cons_of_mem _ hu))
theorem txt_vals {vs : List Value} {ns : List Str} (h : EachIs (fun v (b : Str) => ∃ t, v = Value.str b t) vs ns) : Vals (ns.map V.str) vs := by
  induction h with
  | nil => exact .nil
  | cons h1 _ ih => exact .cons h1 ih
theorem leS_data : (dataLe false PyData.str) = leS := by
  funext x y
  unfold leS
  show (!dataLt (.str y) (.str x)) = _
  rw [PySem.W.dataLt_str]
  rfl
theorem sorted_setRT {Q : Value → Shared → Prop} (R : SetRT P w s.heap a S n) (hh : A.handled = none) (hn : n ≤ 4096) (hu : A.units + 64 < cLine)
    (hQ : ∀ s' p (out : Array Value) (c : Nat) (ns : List Str), (∀ b o, s.heap.get? b = some o → s'.heap.get? b = some o) → s'.gens = s.gens → s'.os = s.os → s.heap.objs.size ≤ p →
      s'.heap.get? p = some (seqObj "list" out c) → Vals (ns.map V.str) out.toList → ns.Pairwise Lt → (∀ k, k ∈ ns ↔ S k = true) → ns.length = n → Q (.ref p) s') :
    wpAny (model P w) A (call (.builtin "sorted") [.ref a]) Q E s := by
  obtain ⟨o, es, ep, t, go, gx, gd, g, nd, gm, gb, gf, gn, hr, hl⟩ := R
  refine Calls.call_function_entry kind_sorted plain_sorted entry_sorted (args_sorted1 _) ?_
  unfold Builtin.«sorted»
  refine wpAny_bind (m := checkCount "sorted" 1 1 _) (wpAny_pure (wpAny_bind (collect_set (A := A.in1) hh ⟨o, go, gx.1, gd⟩ gf gb hr hl fun s1 vs k1 hz g1 o1 pm => ?_)))
  have lv : vs.length = n := by rw [pm.length_eq, List.length_map, Array.length_toList]; exact gn
  have isT : ∀ v ∈ vs, ∃ k t, v = Value.str k t := fun v hv => by
    obtain ⟨e, he, q⟩ := List.mem_map.mp (pm.mem_iff.mp hv)
    obtain ⟨k, tk, q1, _⟩ := g e he
    exact ⟨k, tk, by rw [← q]; exact q1⟩
  have et := each_txt isT
  have pk : (vs.map txtOf).Perm (es.toList.map keyT) := by
    have q := pm.map txtOf
    rw [List.map_map] at q
    exact q
  have lz : vs.length ≤ sizeLine := by rw [lv, sizeLine_eq]; omega
  refine wpAny_bind (wpAny_newList ?_ lz)
  have hoL : (s1.heap.push (seqObj "list" vs.toArray 0)).get? s1.heap.objs.size = some (seqObj "list" vs.toArray 0) := Heap.get?_push_size _ rfl
  have hal : AllAlike ((vs.map txtOf).map PyData.str) := fun d hd d' hd' => by
    obtain ⟨x, _, rfl⟩ := List.mem_map.mp hd
    obtain ⟨y, _, rfl⟩ := List.mem_map.mp hd'
    rw [PySem.W.alike]
  have hk : Sortable ((vs.map txtOf).map PyData.str) := .inr fun d hd => by
    obtain ⟨x, _, rfl⟩ := List.mem_map.mp hd
    exact ⟨(fun z => by cases z), (fun _ z => by cases z)⟩
  have er : ∀ h : Heap, EachIs (fun v (b : Str) => ∃ as, Reads h v (PyData.str b) as) vs (vs.map txtOf) := fun h => et.mono fun v b ⟨t, e⟩ => ⟨[], by rw [e]; exact .str b t⟩
  refine wpAny_bind (wpAny_holding (wpAny_call_entry slot_list_sort ⟨_, hoL, rfl⟩ entry_list_sort (list_sort_vals (s := { s1 with heap := s1.heap.push (seqObj "list" vs.toArray 0) }) hoL (SortsAt.data (s := { s1 with heap := PySem.W.sortingHeap (s1.heap.push (seqObj "list" vs.toArray 0)) s1.heap.objs.size vs })
    (each_map (R := fun v d => ∃ as, Reads (PySem.W.sortingHeap (s1.heap.push (seqObj "list" vs.toArray 0)) s1.heap.objs.size vs) v d as) PyData.str (er _)) hal hk (bound_map (enc := PyData.str) fun b _ => ?_)) lz ⟨_, rfl, ?_⟩) (args_list_sort _)))
  · show A.units + 2 + PyData.depth (.str b) < cLine
    rw [PyData.depth]
    omega
  have sv := sortVals_data (h' := PySem.W.sortingHeap (s1.heap.push (seqObj "list" vs.toArray 0)) s1.heap.objs.size vs) false et (er _) hal
  obtain ⟨out, eout⟩ : ∃ out : List Value, out = PySem.W.sortVals (PySem.W.dataKind (PySem.W.sortingHeap (s1.heap.push (seqObj "list" vs.toArray 0)) s1.heap.objs.size vs) ((vs.map txtOf).map PyData.str)) false vs vs := ⟨_, rfl⟩
  rw [← eout, leS_data] at sv
  obtain ⟨c, hc⟩ := sortedHeap_at (vs := vs) (out := out.toArray) hoL
  have pn : (srt (vs.map txtOf)).Perm (es.toList.map keyT) := (srt_perm _).trans pk
  refine wpAny_pure ⟨_, rfl, ?_⟩
  show Q (.ref s1.heap.objs.size) { s1 with heap := sortedHeap (s1.heap.push (seqObj "list" vs.toArray 0)) s1.heap.objs.size vs (PySem.W.sortVals (PySem.W.dataKind (PySem.W.sortingHeap (s1.heap.push (seqObj "list" vs.toArray 0)) s1.heap.objs.size vs) ((vs.map txtOf).map PyData.str)) false vs vs).toArray }
  rw [← eout]
  refine hQ _ s1.heap.objs.size out.toArray c (srt (vs.map txtOf)) (fun b u e => ?_) g1 o1 hz hc (txt_vals sv) (srt_lt (pk.nodup_iff.mpr nd)) (fun k => by rw [pn.mem_iff, ← gm k]) ?_
  · have q := k1 b u e
    have hlt := Heap.lt_size q
    show (sortedHeap (s1.heap.push (seqObj "list" vs.toArray 0)) s1.heap.objs.size vs out.toArray).get? b = some u
    rw [sortedHeap_old (Nat.ne_of_lt hlt) (by rw [size_push']; exact Nat.lt_succ_of_lt hlt)]
    exact Heap.get?_push_of_some _ q
  · rw [pn.length_eq, List.length_map, Array.length_toList]; exact gn
end
section
variable {X : Cx} {W : Wd} {ra : Run}
theorem inv_more {pins : List (Addr × Obj)} {σ : L2.St} {H : Hp} {s s' : Shared} {p : Addr} {ys : List V} {out : Array Value} {c : Nat} (I : Inv X pins σ H s) (k : ∀ b o, s.heap.get? b = some o → s'.heap.get? b = some o) (g : s'.gens = s.gens) (o : s'.os = s.os) (hp : s.heap.objs.size ≤ p)
    (hlen : ys.length ≤ sizeLine) (vv : Vals ys out.toList) (hat : s'.heap.get? p = some (seqObj "list" out c)) : Inv X pins σ (upd H p (.lst ys)) s' := by
  have J : Inv X pins σ (upd H p (.lst ys)) { s with heap := s'.heap, gens := s'.gens, drawn := s'.drawn, toks := s'.toks } :=
    I.call (ch := []) (Un.laid k hp (I.hok.fresh hp)) (I.hok.laid k hp ⟨hlen, out.toList, c, vv, hat⟩) (by rw [g]; exact I.bare) (fun _ z => nomatch z)
  have e : s' = { s with heap := s'.heap, gens := s'.gens, drawn := s'.drawn, toks := s'.toks } := by
    cases s'
    cases s
    cases o
    rfl
  rw [e]
  exact J
def rSrtS (K : PySem.W.Frag) : V → Hp → VK → Prop := fun x H Q => ∃ l, ∃ xs : List Str, x = .ref l ∧ (SqL K H l (xs.map V.str) ∨ SqT K H l (xs.map V.str)) ∧ xs.length < 4000 ∧ ∀ p, H p = none → Q (.ref p) (upd H p (.lst ((srt (mets xs)).map V.str)))
def fSrtS (d : D) : Option (Bool × D) := match d with
  | .lst ds => (strsOf ds).bind fun xs => if xs.length < 4000 then some1 (.lst (Sl (srt (mets xs)))) else none
  | .tup ds => (strsOf ds).bind fun xs => if xs.length < 4000 then some1 (.lst (Sl (srt (mets xs)))) else none
  | _ => none
theorem p_srtS : Pure1 W (rSrtS W.K) fSrtS := by
  intro S H x d c Q hd hx h r
  unfold fSrtS at h
  split at h
  · obtain ⟨xs, hs, h⟩ := Option.bind_eq_some_iff.mp h
    split at h
    · cases h
      cases hx with
      | lst ha dl =>
        obtain rfl := dl.strs hs
        exact ⟨_, _, rfl, .inl (SqL.of ha), by assumption, PRes.lst hd (strL_dv _) r⟩
    · cases h
  · obtain ⟨xs, hs, h⟩ := Option.bind_eq_some_iff.mp h
    split at h
    · cases h
      cases hx with
      | tup ha dl =>
        obtain rfl := dl.strs hs
        exact ⟨_, _, rfl, .inr (tup_sq ha), by assumption, PRes.lst hd (strL_dv _) r⟩
    · cases h
  · cases h
theorem pe_srtS {a : Expr} {ta : TE} {p p2 q pos : Pos} (hc : X.calm = true) (hu : X.A.units + 64 < cLine) (hg : Gl X "sorted") (hm : X.mg "sorted" = none) (hg2 : Gl X "set") (hm2 : X.mg "set" = none) (ha : PE X a ta) (na : starEach [a] X.env = (false, eval a X.env) :: starEach [] X.env) :
    PE X (.Call (.Name "sorted" p) [.Call (.Name "set" p2) [a] [] q] [] pos) (fun σ H Q => ta σ H fun x H1 => rSrtS X.K x H1 Q) := by
  refine ⟨fun pins s σ H Q I h => Call_ (ld_blt I hg hm (by decide +kernel : bootBuiltins "sorted" = some (.builtin "sorted")) (callWith_builtin1 (args_cons (Call_ (ld_blt I hg2 hm2 boot_set (callWith_type1 (args_cons (thn (ha.run pins s σ H _ I h) fun v s1 ⟨x, H1, I1, r1, l, xs, ex, hq, few, q1⟩ => args_nil ?_) na) na rfl))) rfl) rfl rfl))⟩
  subst ex
  cases r1
  have fin : ∀ (h2 : Heap) (tk : Nat), SetRT X.prog X.w h2 s1.heap.objs.size (fun y => (mets xs).any (· == y)) (mets xs).length → (∀ b u, b < s1.heap.objs.size → s1.heap.get? b = some u → h2.get? b = some u) →
      wpAny (model X.prog X.w) X.A (spliced (backTo pos (starEach [] X.env))) (fun vs s₂ => wpAny (model X.prog X.w) X.A (call (.builtin "sorted") (Value.ref s1.heap.objs.size :: vs)) (EP X pins σ Q) X.xe s₂) X.xe { s1 with heap := h2, toks := tk } := fun h2 tk SR k2 => by
    have I2 : Inv X pins σ H1 { s1 with heap := h2, toks := tk } := I1.kept fun b o e => k2 b o (Heap.lt_size e) e
    have := mets_le xs
    refine args_nil (sorted_setRT SR (I2.ok.hd hc) (by omega) hu fun s' p out c ns k g o hp hat vv hs hm hl => ?_)
    have hlen : (ns.map V.str).length ≤ sizeLine := by rw [List.length_map, hl, sizeLine_eq]; omega
    have hn : H1 p = none := I2.hok.fresh hp
    have J := inv_more I2 k g o hp hlen vv hat
    have en : ns = srt (mets xs) := lt_unique hs (srt_lt (mets_no xs)) fun y => by
      rw [hm y, srt_mem, List.any_eq_true]
      exact ⟨fun ⟨z, hz, ez⟩ => by rw [← eq_of_beq ez]; exact hz, fun z => ⟨y, z, beq_self_eq_true y⟩⟩
    rw [en] at J
    exact ⟨.ref p, _, J, rfl, q1 p hn⟩
  rcases hq with hq | hq
  · obtain ⟨its, r, pl, hz⟩ := I1.list hq
    obtain ⟨o, ho, hc', nn, hd⟩ := pl.isList
    refine call_setRT seqy_l (I1.ok.hd hc) ho hc' hd (by simpa using strsAre_of r) (by omega) (fun {B E' z Q'} g q' => wpAny_pyIter_list ⟨o, g, hc', nn, hd⟩ q') (fun {B} hB I hne => ⟨_, PySem.Walks.list hB I l hne its.toArray, fun h g1 g2 => ⟨⟨_, g1, rfl, rfl⟩, ⟨o, g2, hc', nn, hd⟩⟩⟩) fin
  · obtain ⟨its, r, ⟨o, ho, hc', nn, hd⟩, hz⟩ := I1.tuple hq
    refine call_setRT seqy_t (I1.ok.hd hc) ho hc' hd (by simpa using strsAre_of r) (by omega) (fun {B E' z Q'} g q' => wpAny_pyIter_tuple ⟨o, g, hc', nn, hd⟩ q') (fun {B} hB I hne => ⟨_, PySem.Walks.tuple hB I l hne its.toArray, fun h g1 g2 => ⟨⟨_, g1, rfl, rfl⟩, ⟨o, g2, hc', nn, hd⟩⟩⟩) fin
theorem e_srtS {a : Expr} {k : Nat} {p p2 q pos : Pos} (hK : X.K = W.K) (hr : Room k X.A) (hm : X.mg "sorted" = none) (hm2 : X.mg "set" = none) (ha : PE X a (TV W ra)) (hc : X.calm = true := by rfl) (hg : Gl X "sorted" := by rfl) (hg2 : Gl X "set" := by rfl) (na : starEach [a] X.env = (false, eval a X.env) :: starEach [] X.env := by rfl) :
    PE X (.Call (.Name "sorted" p) [.Call (.Name "set" p2) [a] [] q] [] pos) (TV W (run1 ra fSrtS)) := pe_weak (pe_srtS hc hr.units hg hm hg2 hm2 ha na) fun σ H Q h => by rw [hK]; exact tv1 p_srtS h
end
end Sx
set_option Elab.async false
set_option linter.all false
set_option maxRecDepth 100000
set_option maxHeartbeats 4000000
set_option autoImplicit false
namespace Sx
open PySem L2 PyProof.Rows HT
/-! ### t[::-1] of a tuple -/
theorem fm_congr {α β : Type} {f g : α → Option β} : ∀ {l : List α}, (∀ x ∈ l, f x = g x) → l.filterMap f = l.filterMap g
  | [], _ => rfl
  | x :: l, h => by
    rw [List.filterMap_cons, List.filterMap_cons, h x List.mem_cons_self, fm_congr fun y hy => h y (List.mem_cons_of_mem _ hy)]
section
variable {prog : Program} {w : World} {A : Around} {E : Value → Shared → Prop} {s : Shared}
theorem adjust_rev (n : Nat) : Builtin.Slice.sliceAdjust none none (-1) (n : Int) = ((n : Int) - 1, -1) := by
  unfold Builtin.Slice.sliceAdjust
  simp
theorem places_rev (n : Nat) : Builtin.Slice.slicePlaces ((n : Int) - 1) (-1) (-1) = n := by
  unfold Builtin.Slice.slicePlaces
  have h1 : ¬ ((-1 : Int) > 0) := by omega
  simp only [h1, if_false]
  have h2 : -(-1 : Int) = 1 := by omega
  rw [h2, Int.ediv_one]
  split <;> omega
theorem applied_rev {sl : Addr} {vs : Value} {n : Nat} {Q : Int × Int × Nat → Shared → Prop} (hs : s.heap.IsSliceOf sl .none .none vs) (ps : IsPart vs (some (-1))) (h : Q ((n : Int) - 1, -1, n) s) : wpAny (model prog w) A (Builtin.Slice.sliceApplied (.ref sl) (pure (n : Int))) Q E s := by
  obtain ⟨os, hos, hcs, hds⟩ := id hs
  unfold Builtin.Slice.sliceApplied Builtin.Slice.sliceFields
  refine wpAny_bind (wpAny_bind (wpAny_field hos hds (x := .none) rfl (wpAny_bind (wpAny_field hos hds (x := .none) rfl (wpAny_bind (wpAny_field hos hds (x := vs) rfl (wpAny_pure ?_)))))))
  refine wpAny_bind (slicePart_ ps ?_)
  show wpAny _ _ (if ((-1 : Int) == 0) = true then _ else _) _ _ s
  rw [if_neg (by decide)]
  refine wpAny_bind (slicePart_ .none (wpAny_bind (slicePart_ .none (wpAny_bind (wpAny_pure ?_)))))
  show wpAny _ _ (match Builtin.Slice.sliceAdjust none none (-1) (n : Int) with | (lo, hi) => pure (lo, (-1 : Int), Builtin.Slice.slicePlaces lo hi (-1))) _ _ s
  rw [adjust_rev n]
  show wpAny _ _ (pure ((n : Int) - 1, (-1 : Int), Builtin.Slice.slicePlaces ((n : Int) - 1) (-1) (-1))) _ _ s
  rw [places_rev]
  exact wpAny_pure h
theorem pick_rev (xs : Array Value) : ((List.range xs.size).filterMap fun (m : Nat) => xs[(((xs.size : Int) - 1) + (m : Int) * (-1)).toNat]?).toArray = xs.toList.reverse.toArray := by
  have e := PySem.W.krv_pick xs
  unfold slicePick at e
  rw [PySem.W.krv_bounds] at e
  have e2 : ((sliceRange ((xs.size : Int) - 1) (-1) (-1)).filterMap (xs[·]?)).toArray = xs.toList.reverse.toArray := e
  rw [PySem.W.krv_sliceRange, List.filterMap_map] at e2
  rw [← e2]
  congr 1
  refine fm_congr fun m hm => ?_
  have := List.mem_range.mp hm
  have e3 : (((xs.size : Int) - 1) + (m : Int) * (-1)).toNat = xs.size - 1 - m := by omega
  rw [e3]
  rfl
theorem item_tuple_rev {t sl : Addr} {items : Array Value} {vs : Value} {Q : Value → Shared → Prop} (ht : IsTup s.heap t items) (hs : s.heap.IsSliceOf sl .none .none vs) (ps : IsPart vs (some (-1)))
    (h : Q (.ref s.heap.objs.size) { s with heap := s.heap.push { cls := .type "tuple", data := .seq items.toList.reverse.toArray } })
    (hsz : items.size ≤ sizeLine) : wpAny (model prog w) A (getItem (.ref t) (.ref sl)) Q E s := by
  have htake : sizeOk (.seq items.toList.reverse.toArray) := by
    show items.toList.reverse.toArray.size ≤ sizeLine
    rw [List.size_toArray, List.length_reverse, Array.length_toList]
    exact hsz
  obtain ⟨os, hos, hcs, hds⟩ := id hs
  have hTs : s.TypeIs (.ref sl) "slice" := ⟨os, hos, hcs⟩
  unfold getItem
  try with_reducible refine wpAny_holding ?_
  first | refine wpAny_bind (wpAny_pure ?_) | skip
  refine wpAny_bind (wpAny_sequenceKey ht.typeIs (by decide) ?_)
  refine wpAny_bind (wpAny_callSpecial?_slot (name := Str.ofString "__getitem__") ht.typeIs PyProof.Rows.slot_tuple_getitem
    (wpAny_call_entry PyProof.Rows.slot_tuple_getitem ht.typeIs entry_tuple_getitem (show wpAny _ _ (Builtin.Tuple.tupleItemsOf (.ref t) >>= _) _ _ s from ?_) (args_tuple_getitem _ _)))
  refine wpAny_bind (tupleItemsOf_ ht (wpAny_bind (wpAny_typeOf hTs ?_)))
  rw [if_pos (by decide)]
  refine wpAny_bind (applied_rev hs ps ?_)
  have hno : ¬ ((((items.size : Int) - 1) == 0 && (-1 : Int) == 1 && items.size == items.size) = true) := by
    intro q
    rw [Bool.and_eq_true, Bool.and_eq_true] at q
    exact absurd q.1.2 (by decide)
  show wpAny _ _ (if (((items.size : Int) - 1) == 0 && (-1 : Int) == 1 && items.size == items.size) = true then _ else _) _ _ s
  rw [if_neg hno, pick_rev]
  first
    | exact wpAny_bind (m := Builtin.Tuple.tupleExact _) (wpAny_newObj_type (wpAny_pure ⟨_, rfl, wpAny_pure h⟩) htake)
    | exact wpAny_bind (m := Builtin.Tuple.tupleExact _) (wpAny_newObj_type (wpAny_bind (wpAny_pure (wpAny_pure ⟨_, rfl, wpAny_pure h⟩))) htake)
    | exact wpAny_bind (wpAny_bind (m := Builtin.Tuple.tupleExact _) (wpAny_newObj_type (wpAny_pure (wpAny_pure ⟨_, rfl, wpAny_pure h⟩)) htake))
    | exact wpAny_bind (wpAny_bind (m := Builtin.Tuple.tupleExact _) (wpAny_newObj_type (wpAny_pure ⟨_, rfl, wpAny_pure h⟩) htake))
end
section
variable {X : Cx} {W : Wd}
def tRevX (K : PySem.W.Frag) (te : TE) : TE := fun σ H Q => te σ H fun x H1 => ∃ a xs, x = .ref a ∧ ((SqL K H1 a xs ∧ ∀ p, H1 p = none → Q (.ref p) (upd H1 p (.lst xs.reverse))) ∨ (SqT K H1 a xs ∧ ∀ p, H1 p = none → Q (.ref p) (upd H1 p (.tup xs.reverse))))
theorem pe_revX {e : Expr} {te : TE} {k : Nat} {p1 p2 p3 pos : Pos} (he : PE X e te) : PE X (.Subscript e (.Slice none none (some (.UnaryOp .USub (.Constant (.int 1) k p1) p2)) p3) pos) (tRevX X.K te) := by
  refine ⟨fun pins s σ H Q I h => ?_⟩
  refine Subscript_ (thn (he.run pins s σ H _ I h) fun v s1 ⟨x, H1, I1, r1, a, xs, ex, q⟩ => ?_)
  subst ex
  cases r1
  have hst : PO X (some (.UnaryOp .USub (.Constant (.int 1) k p1) p2)) (tPart (tUn (rU fun i => .int (-i)) (tC (.int 1)))) := po_some (pe_un un_neg pe_int)
  refine wpAny_Slice (thn (po_none.run pins s1 σ H1 (fun o H2 => o = none ∧ H2 = H1) I1 ⟨rfl, rfl⟩) fun vl s2 ⟨l, H2, I2, pl, el, e2⟩ => ?_)
  subst el e2
  refine thn (po_none.run pins s2 σ H2 (fun o H3 => o = none ∧ H3 = H2) I2 ⟨rfl, rfl⟩) fun vu s3 ⟨u, H3, I3, pu, eu, e3⟩ => ?_
  subst eu e3
  refine thn (hst.run pins s3 σ H3 (fun o H4 => o = some (-1) ∧ H4 = H3) I3 ⟨1, rfl, -1, rfl, rfl, rfl⟩) fun vs s4 ⟨o, H4, I4, ps, eo, e4⟩ => ?_
  subst eo e4
  have I5 : Inv X pins σ H4 { s4 with heap := s4.heap.push { cls := .type "slice", data := .fields #[vl, vu, vs] } } := I4.kept (t' := s4.toks) fun b ob q => Heap.get?_push_of_some _ q
  show wpAny (model X.prog X.w) X.A (subscriptTail e (.Slice none none (some (.UnaryOp .USub (.Constant (.int 1) k p1) p2)) p3) (.ref a) (.ref s4.heap.objs.size)) (EP X pins σ Q) X.xe { s4 with heap := s4.heap.push { cls := .type "slice", data := .fields #[vl, vu, vs] } }
  rcases q with ⟨hx, q⟩ | ⟨hx, q⟩
  · obtain ⟨its, r, ht, hz⟩ := I5.list hx
    have hlen := r.length
    refine tail_any (ops := [.ref a, .ref s4.heap.objs.size]) ht.isList.typeIs (PySem.slot_list_getitem.lookup) ?_ (by with_unfolding_all rfl)
    refine wpAny_getItem_list_slice ht.isList (Heap.IsSliceOf.new _ vl vu vs) pl pu ps (by decide) ?_ (by rw [List.size_toArray]; omega)
    rw [PySem.W.krv_pick]
    refine ⟨.ref _, _, I5.laid (t' := s4.toks) (o := .lst xs.reverse) (fun b ob q => Heap.get?_push_of_some _ q) (Nat.le_refl _) ?_, rfl, q _ (I5.hok.fresh (Nat.le_refl _))⟩
    exact ⟨by rw [List.length_reverse]; exact hz, _, 0, r.reverse, Heap.get?_push_size _ rfl⟩
  · obtain ⟨its, r, ht, hz⟩ := I5.tuple hx
    have hlen := r.length
    cases pl
    cases pu
    refine tail_any (ops := [.ref a, .ref s4.heap.objs.size]) ht.typeIs (PyProof.Rows.slot_tuple_getitem.lookup) ?_ (by with_unfolding_all rfl)
    refine item_tuple_rev ht (Heap.IsSliceOf.new _ .none .none vs) ps ?_ (by rw [List.size_toArray]; omega)
    refine ⟨.ref _, _, I5.laid (t' := s4.toks) (o := .tup xs.reverse) (fun b ob q => Heap.get?_push_of_some _ q) (Nat.le_refl _) ?_, rfl, q _ (I5.hok.fresh (Nat.le_refl _))⟩
    exact ⟨by rw [List.length_reverse]; exact hz, its.reverse, r.reverse, IsTup.new _ _⟩
def fRevX (x : D) : Option (Bool × D) := match x with
  | .lst ds => some1 (.lst ds.reverse)
  | .tup ds => some0 (.tup ds.reverse)
  | _ => none
theorem e_revX {e : Expr} {ra : Run} {k : Nat} {p1 p2 p3 pos : Pos} (hK : X.K = W.K) (he : PE X e (TV W ra)) : PE X (.Subscript e (.Slice none none (some (.UnaryOp .USub (.Constant (.int 1) k p1) p2)) p3) pos) (TV W (run1 ra fRevX)) := by
  refine pe_weak (pe_revX he) fun σ H Q h => tv1 (r := fun x H1 Q => ∃ a xs, x = .ref a ∧ ((SqL X.K H1 a xs ∧ ∀ p, H1 p = none → Q (.ref p) (upd H1 p (.lst xs.reverse))) ∨ (SqT X.K H1 a xs ∧ ∀ p, H1 p = none → Q (.ref p) (upd H1 p (.tup xs.reverse))))) (f := fRevX) ?_ h
  intro S H x d c Q hd hx hf r
  unfold fRevX at hf
  split at hf
  · cases hf
    cases hx with
    | lst ha dl => exact ⟨_, _, rfl, .inl ⟨by rw [hK]; exact SqL.of ha, PRes.lst hd dl.rev r⟩⟩
  · cases hf
    cases hx with
    | tup ha dl => exact ⟨_, _, rfl, .inr ⟨by rw [hK]; exact tup_sq ha, PRes.tup hd dl.rev r⟩⟩
  · cases hf
/-! ### x[i] = e of a name's own list -/
def intAt (en : En) (j : Nat) : Option Int := match en[j]? with
  | some (some (.fz, .int k)) => some k
  | _ => none
theorem intAt_some {en : En} {j : Nat} {k : Int} (h : intAt en j = some k) : en[j]? = some (some (.fz, .int k)) := by
  unfold intAt at h
  split at h
  · rename_i k' e; cases h; exact e
  · cases h
def sPut (i j : Nat) (ra : Run) : RunS := fun en => (ra en).bind fun a => (T.ofOpt (valO a.1)).bind fun d => (T.ofOpt (intAt a.2 j)).bind fun k => (T.ofOpt (ownL a.2 i)).bind fun ds => (T.ofOpt (ixN ds.length k)).bind fun n => .ret (.nx, a.2.set i (some (.ow, .lst (ds.set n d))))
theorem DvL.set {S : Addr → Prop} {H : Hp} {vs : List V} {ds : List D} (n : Nat) {v : V} {d : D} (h : DvL W S H vs ds) (dz : Dz W S H v d) : DvL W S H (vs.set n v) (ds.set n d) := by
  induction n generalizing vs ds with
  | zero => cases h with
    | nil => exact .nil
    | cons _ _ r => exact .cons dz.1 dz.2 r
  | succ n ih => cases h with
    | nil => exact .nil
    | cons t dv r => exact .cons t dv (ih r)
theorem s_put {x y : Str} {e : Expr} {ra : Run} {px py p pos : Pos} (i j : Nat) (hx : PE X (.Name x px) (tVar i)) (hy : PE X (.Name y py) (tVar j)) (he : PE X e (TV W ra)) (hs : swapsWithSole [.Subscript (.Name x px) (.Name y py) p] e pos.line X.env = pure false := by rfl) (hw : swappedStores [.Subscript (.Name x px) (.Name y py) p] e X.env = pure none := by rfl)
    (h1 : (assignEach [.Subscript (.Name x px) (.Name y py) p] X.env).map (·.2) = [assign (.Subscript (.Name x px) (.Name y py) p) X.env] := by rfl) : PS X (.Assign [.Subscript (.Name x px) (.Name y py) p] e pos) (TVS W (sPut i j ra)) := ps_weak (ps_asg he (pg_sub hx hy set_list) hs hw h1) fun D σ H h => by
  obtain ⟨S, P, en, R, w⟩ := h
  have w := (T.wp_bind _ _ _).mp w
  refine ⟨S, P, en, R, T.wp_mono w fun r q v H' S' P' e R' ok => ?_⟩
  obtain ⟨d, hd, q⟩ := T.wp_ofOpt ((T.wp_bind _ _ _).mp q)
  obtain ⟨k, hk, q⟩ := T.wp_ofOpt ((T.wp_bind _ _ _).mp q)
  obtain ⟨ds, hds, q⟩ := T.wp_ofOpt ((T.wp_bind _ _ _).mp q)
  obtain ⟨n, hn, q⟩ := T.wp_ofOpt ((T.wp_bind _ _ _).mp q)
  obtain ⟨S2, P2, e2, R2, dz⟩ := ok.valz R' hd
  obtain ⟨p, xs, hv, hp, dl, mk⟩ := R2.ownL hds
  obtain ⟨e3, R3⟩ := mk _ _ (dl.set n dz)
  obtain ⟨u, hu, du, _⟩ := R2.slot j .fz _ (intAt_some hk)
  cases du
  exact ⟨.ref p, hv, _, hu, p, xs, k, n, rfl, rfl, hp, by rw [dl.len]; exact hn, q σ _ S2 P2 (e.trans (e2.trans e3)) R3⟩
end
end Sx
set_option Elab.async false
set_option linter.all false
set_option maxRecDepth 100000
set_option maxHeartbeats 4000000
set_option autoImplicit false
namespace Sx
open PySem L2 PyProof.Rows
/-! ### repr of lists that hold dicts at any depth -/
mutual
inductive Dg (K : PySem.W.Frag) (H : Hp) : V → PyData → Prop
  | leaf {v : V} {p : PyData} : Dp K H v p → p.hasDict = false → Dg K H v p
  | lst {a : Addr} {xs : List V} {ps : List PyData} : SqL K H a xs → DgL K H xs ps → Dg K H (.ref a) (.list ps)
  | tup {a : Addr} {xs : List V} {ps : List PyData} : SqT K H a xs → DgL K H xs ps → Dg K H (.ref a) (.tuple ps)
  | dct {a : Addr} {kvs : List (Key × V)} {ks : List Str} {ps : List PyData} : Rd H a (.dK kvs) → kvs.map (·.1) = ks.map Sum.inr → DgL K H (kvs.map (·.2)) ps → Dg K H (.ref a) (.dict ((ks.map PyData.str).zip ps))
inductive DgL (K : PySem.W.Frag) (H : Hp) : List V → List PyData → Prop
  | nil : DgL K H [] []
  | cons {v : V} {p : PyData} {vs : List V} {ps : List PyData} : Dg K H v p → DgL K H vs ps → DgL K H (v :: vs) (p :: ps)
end
theorem DgL.len {K : PySem.W.Frag} {H : Hp} : ∀ {vs : List V} {ps : List PyData}, DgL K H vs ps → vs.length = ps.length
  | _, _, .nil => rfl
  | _, _, .cons _ r => by rw [List.length_cons, List.length_cons, DgL.len r]
section
variable {X : Cx} {pins : List (Addr × Obj)} {σ : L2.St} {H : Hp} {s : Shared}
theorem strs_nodict : ∀ xs : List Str, PyData.hasDictAll (xs.map PyData.str) = false
  | [] => by simp [PyData.hasDictAll]
  | x :: xs => by rw [List.map_cons, PyData.hasDictAll, strs_nodict xs, PyData.hasDict]; rfl
theorem strs_showable : ∀ xs : List Str, PyData.showableAll (xs.map PyData.str) = true
  | [] => by simp [PyData.showableAll]
  | x :: xs => by rw [List.map_cons, PyData.showableAll, strs_showable xs, PyData.showable]; rfl
theorem dict_rows {P : Program} {w : World} : ∀ {es : List DictEntry} {vs : List (Key × Value)} {kvs : List (Key × V)} {ks : List Str}, Pairs (mixKind P w) es vs → KV kvs vs → kvs.map (·.1) = ks.map Sum.inr → Vals (ks.map V.str) (es.map (·.key)) ∧ Vals (kvs.map (·.2)) (es.map (·.val))
  | _, _, kvs, ks, .nil, kv, e => by
    cases kv
    cases ks with
    | nil => exact ⟨.nil, .nil⟩
    | cons _ _ => cases e
  | _, _, _, ks, .cons h1 h2 r, kv, e => by
    cases kv with | cons q1 q2 =>
    cases ks with
    | nil => cases e
    | cons k ks =>
      rw [List.map_cons, List.map_cons] at e
      injection e with e1 e2
      obtain ⟨i1, i2⟩ := dict_rows r q2 e2
      refine ⟨.cons ?_ i1, .cons ?_ i2⟩
      · rw [← q1.1, e1, mixKind_is] at h1
        rcases keyIs_shape h1 with ⟨i, t, z, _⟩ | ⟨x, t, z, z2⟩
        · cases z
        · cases z
          exact ⟨t, z2⟩
      · have z := q1.2
        rw [← h2] at z
        exact z
mutual
theorem Dg.shows (I : Inv X pins σ H s) : ∀ {v : V} {p : PyData} {u : Value}, Dg X.K H v p → RelV v u → p.showable = true → p.shown.length ≤ sizeLine → ∃ as bs, Reads s.heap u p as ∧ ReadAtMost s.heap p.depth bs ∧ ReprK X.prog X.w bs s.heap p.depth u p.shown
  | _, _, _, .leaf dp nd, r, sh, sz => by
    obtain ⟨as, rs⟩ := Dp.reads I _ _ _ dp r
    obtain ⟨bs, m, k⟩ := ReprK.of_reads (prog := X.prog) (w := X.w) rs sh (PyData.noDict_hsm nd) sz
    exact ⟨as, bs, rs, m, k⟩
  | _, _, u, .lst (a := a) (xs := xs) (ps := ps) sq dl, r, sh, sz => by
    cases (show u = Value.ref a from r)
    have sz2 : (listText (PyData.shownAll ps)).length ≤ sizeLine := by simpa only [PyData.shown] using sz
    obtain ⟨its, rv, pl, _⟩ := I.list sq
    obtain ⟨o, ho, hc, n, hd⟩ := pl.isList
    obtain ⟨as, bs, ra, rm, rk⟩ := DgL.shows I dl rv (by simpa [PyData.showable] using sh) fun t ht => Nat.le_trans (listText_mem_le ht) sz2
    have rd : Reads s.heap (.ref a) (.list ps) _ := .list ho hc hd (by simpa using ra)
    have nin : a ∉ bs := not_mem_of_deeper rd (by simp only [PyData.depth]; omega) rm
    refine ⟨_, a :: bs, rd, ReadAtMost.cons rd (by simp only [PyData.depth]; omega) rm, ?_⟩
    simp only [PyData.depth, PyData.shown]
    cases its with
    | nil =>
      cases ra
      simp only [PyData.shownAll, listText_nil]
      exact ReprK.listEmpty ho hc hd
    | cons y l => exact ReprK.list ho hc hd nin (by simpa using rk.length_eq) fun i z e => rk.item i z (by simpa using e)
  | _, _, u, .tup (a := a) (xs := xs) (ps := ps) sq dl, r, sh, sz => by
    cases (show u = Value.ref a from r)
    have sz2 : (tupleText (PyData.shownAll ps)).length ≤ sizeLine := by simpa only [PyData.shown] using sz
    obtain ⟨its, rv, pl, _⟩ := I.tuple sq
    obtain ⟨o, ho, hc, n, hd⟩ := pl
    obtain ⟨as, bs, ra, rm, rk⟩ := DgL.shows I dl rv (by simpa [PyData.showable] using sh) fun t ht => Nat.le_trans (tupleText_mem_le ht) sz2
    have rd : Reads s.heap (.ref a) (.tuple ps) _ := .tuple ho hc hd (by simpa using ra)
    have nin : a ∉ bs := not_mem_of_deeper rd (by simp only [PyData.depth]; omega) rm
    refine ⟨_, a :: bs, rd, ReadAtMost.cons rd (by simp only [PyData.depth]; omega) rm, ?_⟩
    simp only [PyData.depth, PyData.shown]
    exact ReprK.tuple ho hc hd nin (by simpa using rk)
  | _, _, u, .dct (a := a) (kvs := kvs) (ks := ks) (ps := ps) rd0 ek dl, r, sh, sz => by
    cases (show u = Value.ref a from r)
    have sz2 : (dictText (PyData.shownKv ((ks.map PyData.str).zip ps))).length ≤ sizeLine := by simpa only [PyData.shown] using sz
    obtain ⟨_, low, vs, kv, o, es, ep, h1, h2, h3, _, h5, _⟩ := dk_rd I.hok rd0
    obtain ⟨vk, vv⟩ := dict_rows h5 kv ek
    have lk : ks.length = ps.length := by
      have := congrArg List.length ek
      rw [List.length_map, List.length_map] at this
      rw [← this, ← dl.len, List.length_map]
    have e1 : ((ks.map PyData.str).zip ps).map (·.1) = ks.map PyData.str := List.map_fst_zip (by rw [List.length_map]; omega)
    have e2 : ((ks.map PyData.str).zip ps).map (·.2) = ps := List.map_snd_zip (by rw [List.length_map]; omega)
    obtain ⟨s1, s2⟩ := PyData.showableKv_split _ (by simpa [PyData.showable] using sh)
    have k0 : ReadsAll s.heap (es.toList.map (·.key)) (ks.map PyData.str) [] := reads_strs vk
    have z1 : ∀ t ∈ PyData.shownAll (((ks.map PyData.str).zip ps).map (·.1)), t.length ≤ sizeLine := fun t ht => let ⟨p, hp, hl⟩ := PyData.shownKv_key_le _ t ht; Nat.le_trans hl (Nat.le_trans (dictText_mem_le hp) sz2)
    have z2 : ∀ t ∈ PyData.shownAll (((ks.map PyData.str).zip ps).map (·.2)), t.length ≤ sizeLine := fun t ht => let ⟨p, hp, hl⟩ := PyData.shownKv_val_le _ t ht; Nat.le_trans hl (Nat.le_trans (dictText_mem_le hp) sz2)
    rw [e1] at z1 s1
    rw [e2] at z2 s2
    obtain ⟨b1, m1, k1⟩ := ReprAllK.of_readsAll (prog := X.prog) (w := X.w) k0 s1 (fun z => by rw [strs_nodict] at z; cases z) z1
    obtain ⟨as, b2, ra, m2, k2⟩ := DgL.shows I dl vv s2 z2
    have rd : Reads s.heap (.ref a) (.dict ((ks.map PyData.str).zip ps)) _ := .dict h1 h2.1 h3 (by rw [e1]; exact k0) (by rw [e2]; exact ra)
    have d1 := PyData.depthAll_keys_le ((ks.map PyData.str).zip ps)
    have d2 := PyData.depthAll_vals_le ((ks.map PyData.str).zip ps)
    rw [e1] at d1
    rw [e2] at d2
    have mm : ReadAtMost s.heap (PyData.depthKv ((ks.map PyData.str).zip ps)) (b1 ++ b2) := (m1.mono d1).append (m2.mono d2)
    have nin : a ∉ b1 ++ b2 := not_mem_of_deeper rd (by simp only [PyData.depth]; omega) mm
    refine ⟨_, a :: (b1 ++ b2), rd, ReadAtMost.cons rd (by simp only [PyData.depth]; omega) mm, ?_⟩
    simp only [PyData.depth, PyData.shown, PyData.shownKv_eq]
    rw [e1, e2]
    exact ReprK.dict h1 h2.1 h3 low nin (ReprEntriesK.of_two es.toList _ _ (k1.more_le (fun b hb => List.mem_append_left _ hb) d1) (k2.more_le (fun b hb => List.mem_append_right _ hb) d2))
theorem DgL.shows (I : Inv X pins σ H s) : ∀ {vs : List V} {ps : List PyData} {us : List Value}, DgL X.K H vs ps → Vals vs us → PyData.showableAll ps = true → (∀ t ∈ PyData.shownAll ps, t.length ≤ sizeLine) →
    ∃ as bs, ReadsAll s.heap us ps as ∧ ReadAtMost s.heap (PyData.depthAll ps) bs ∧ ReprAllK X.prog X.w bs s.heap (PyData.depthAll ps) us (PyData.shownAll ps)
  | _, _, _, .nil, .nil, _, _ => ⟨[], [], .nil, (fun _ h => nomatch h), by rw [PyData.shownAll]; exact .nil⟩
  | _, _, _, .cons (p := p) (ps := ps) h t, .cons r rs, sh, sz => by
    have sh : p.showable = true ∧ PyData.showableAll ps = true := by simpa [PyData.showableAll] using sh
    obtain ⟨a1, b1, r1, m1, k1⟩ := Dg.shows I h r sh.1 (sz _ (by rw [PyData.shownAll]; exact List.mem_cons_self))
    obtain ⟨a2, b2, r2, m2, k2⟩ := DgL.shows I t rs sh.2 fun t ht => sz t (by rw [PyData.shownAll]; exact List.mem_cons_of_mem _ ht)
    have d1 : p.depth ≤ PyData.depthAll (p :: ps) := by rw [PyData.depthAll]; omega
    have d2 : PyData.depthAll ps ≤ PyData.depthAll (p :: ps) := by rw [PyData.depthAll]; omega
    refine ⟨a1 ++ a2, b1 ++ b2, .cons r1 r2, (m1.mono d1).append (m2.mono d2), ?_⟩
    rw [PyData.shownAll]
    exact .cons ((k1.more fun b hb => List.mem_append_left _ hb).level_le d1) (k2.more_le (fun b hb => List.mem_append_right _ hb) d2)
end
/-! the rule: a list that is not empty -/
def shOkG (p : PyData) : Bool := p.showable && p.leavesShort 1000 && decide (p.bulk ≤ 15000) && decide (p.depth ≤ 50)
theorem shOkG_sz {p : PyData} (h : shOkG p = true) : p.shown.length ≤ sizeLine := by
  unfold shOkG at h
  simp only [Bool.and_eq_true, decide_eq_true_eq] at h
  have := PyData.shown_le_bulk 1000 (by decide) p h.1.1.2
  have h2 := h.1.2
  rw [sizeLine_eq]
  omega
def rReprG (K : PySem.W.Frag) : List V → Hp → VK → Prop := fun vs H Q => ∃ a xs p ps, vs = [.ref a] ∧ SqL K H a xs ∧ DgL K H xs (p :: ps) ∧ shOkG (.list (p :: ps)) = true ∧ Q (.str (PyData.list (p :: ps)).shown) H
theorem cr_reprG (hu : X.A.units + 64 < cLine) (hg : NoG X.A) : CallR X (.builtin "repr") (rReprG X.K) := by
  intro pins s σ H xs us Q I r h
  obtain ⟨a, ys, p, ps, rfl, hs, hp, ok, q⟩ := h
  obtain ⟨u, rfl, ru⟩ := vals1 r
  cases (show u = Value.ref a from ru)
  obtain ⟨its, rv, pl, _⟩ := I.list hs
  obtain ⟨o, ho, hc, n, hd⟩ := pl.isList
  have sz := shOkG_sz ok
  unfold shOkG at ok
  simp only [Bool.and_eq_true, decide_eq_true_eq] at ok
  obtain ⟨⟨⟨h1, h3⟩, h4⟩, h5⟩ := ok
  have sz' : (listText (PyData.shownAll (p :: ps))).length ≤ sizeLine := by simpa only [PyData.shown] using sz
  obtain ⟨as, bs, rd, rm, rk⟩ := DgL.shows I hp rv (by simpa [PyData.showable] using h1) fun t ht => Nat.le_trans (listText_mem_le ht) sz'
  cases its with
  | nil => cases rd
  | cons y l =>
    have hna : a ∉ bs := not_mem_of_deeper (.list ho hc hd rd) (by simp only [PyData.depth]; omega) rm
    simp only [PyData.depth] at h5
    refine call_repr_slot (by omega) ⟨o, ho, hc⟩ F.slot_list_repr.toG (call_list_reprK ho hc hd hna (by simpa using rk.length_eq) (fun i z e => rk.item i z (by simpa using e)) hg (fun b _ => Clear.nil b) (by show X.A.units + 1 + _ < cLine; omega) (fun _ _ e => e) (fun h' u tk k => ⟨_, _, rfl, .str (PyData.list (p :: ps)).shown, H, I.kept k, ⟨u, by rw [PyData.shown]⟩, q⟩) sz')
end
mutual
def pyG : D → Option PyData
  | .non => some .none
  | .bl b => some (.bool b)
  | .int i => some (.int i)
  | .str x => some (.str x)
  | .lst xs => (pyGL xs).bind fun ps => some (.list ps)
  | .tup xs => (pyGL xs).bind fun ps => some (.tuple ps)
  | .dK kvs => (strKs kvs).bind fun ks => (pyGK kvs).bind fun ps => some (.dict ((ks.map PyData.str).zip ps))
  | _ => none
def pyGL : List D → Option (List PyData)
  | [] => some []
  | x :: xs => (pyG x).bind fun p => (pyGL xs).bind fun ps => some (p :: ps)
def pyGK : List (Key × D) → Option (List PyData)
  | [] => some []
  | (_, x) :: xs => (pyG x).bind fun p => (pyGK xs).bind fun ps => some (p :: ps)
end
section
variable {W : Wd} {S : Addr → Prop} {H : Hp}
mutual
theorem Dv.dg : ∀ {v : V} {d : D} {p : PyData}, Dv W S H v d → pyG d = some p → Dg W.K H v p
  | _, _, _, .non, e => by cases e; exact .leaf .non rfl
  | _, _, _, .bl b, e => by cases e; exact .leaf (.bl b) rfl
  | _, _, _, .int i, e => by cases e; exact .leaf (.int i) rfl
  | _, _, _, .str x, e => by cases e; exact .leaf (.str x) rfl
  | _, _, _, .lst h r, e => by
    obtain ⟨ps, e1, e2⟩ := Option.bind_eq_some_iff.mp e
    cases e2
    exact .lst (SqL.of h) (DvL.dg r e1)
  | _, _, _, .tup h r, e => by
    obtain ⟨ps, e1, e2⟩ := Option.bind_eq_some_iff.mp e
    cases e2
    exact .tup (tup_sq h) (DvL.dg r e1)
  | _, _, _, .dK h r, e => by
    obtain ⟨ks, e0, e⟩ := Option.bind_eq_some_iff.mp e
    obtain ⟨ps, e1, e2⟩ := Option.bind_eq_some_iff.mp e
    cases e2
    obtain ⟨k1, k2⟩ := DvP.dg r e1
    exact .dct h (k2.trans (strKs_keys e0)) k1
  | _, _, _, .dT _ _, e => by cases e
  | _, _, _, .obj .., e => by cases e
  | _, _, _, .scr .., e => by cases e
  | _, _, _, .drw .., e => by cases e
  | _, _, _, .ty .., e => by cases e
  | _, _, _, .cl .., e => by cases e
  | _, _, _, .adr .., e => by cases e
  | _, _, _, .exc .., e => by cases e
  | _, _, _, .exc0 .., e => by cases e
theorem DvL.dg : ∀ {vs : List V} {ds : List D} {ps : List PyData}, DvL W S H vs ds → pyGL ds = some ps → DgL W.K H vs ps
  | _, _, _, .nil, e => by cases e; exact .nil
  | _, _, _, .cons _ h r, e => by
    obtain ⟨p, e1, e⟩ := Option.bind_eq_some_iff.mp e
    obtain ⟨ps, e2, e⟩ := Option.bind_eq_some_iff.mp e
    cases e
    exact .cons (Dv.dg h e1) (DvL.dg r e2)
theorem DvP.dg : ∀ {vs : List (Key × V)} {ds : List (Key × D)} {ps : List PyData}, DvP W S H vs ds → pyGK ds = some ps → DgL W.K H (vs.map (·.2)) ps ∧ vs.map (·.1) = ds.map (·.1)
  | _, _, _, .nil, e => by cases e; exact ⟨.nil, rfl⟩
  | _, _, _, .cons _ h r, e => by
    obtain ⟨p, e1, e⟩ := Option.bind_eq_some_iff.mp e
    obtain ⟨ps, e2, e⟩ := Option.bind_eq_some_iff.mp e
    cases e
    obtain ⟨i1, i2⟩ := DvP.dg r e2
    exact ⟨.cons (Dv.dg h e1) i1, by rw [List.map_cons, List.map_cons, i2]⟩
end
end
def fReprG (ds : List D) : Option (Bool × D) := match ds with
  | [.lst (x :: xs)] => (pyG x).bind fun p => (pyGL xs).bind fun ps => if shOkG (.list (p :: ps)) then some0 (.str (PyData.list (p :: ps)).shown) else none
  | _ => none
theorem p_reprG {W : Wd} : PureN W (rReprG W.K) fReprG := by
  intro S H vs ds c Q hd hv h r
  unfold fReprG at h
  split at h
  · obtain ⟨p, hp, h⟩ := Option.bind_eq_some_iff.mp h
    obtain ⟨ps, hps, h⟩ := Option.bind_eq_some_iff.mp h
    split at h
    · cases h
      obtain ⟨v, rfl, dv⟩ := hv.one
      cases dv with
      | lst ha dl =>
        cases dl with
        | cons t d1 dl => exact ⟨_, _, p, ps, rfl, SqL.of ha, .cons (d1.dg hp) (dl.dg hps), by assumption, r.str hd⟩
    · cases h
  · cases h
end Sx
set_option Elab.async false
set_option linter.all false
set_option maxRecDepth 100000
set_option maxHeartbeats 4000000
set_option autoImplicit false
namespace Sx
open PySem L2 PyProof.Rows
/-! ### a, b, c = x, y, z: the first two become shared, the last may be owned -/
def putTwo (i j : Nat) (d e : D) (en : En) : Option En := if i < en.length ∧ j < en.length then some ((en.set i (some (.fz, d))).set j (some (.fz, e))) else none
def sPar3 (i j l : Nat) (ra rb rc : Run) : RunS := fun en => (ra en).bind fun a => (T.ofOpt (valO a.1)).bind fun d => (rb a.2).bind fun b => (T.ofOpt (valO b.1)).bind fun e => (rc b.2).bind fun c => (T.ofOpt (putTwo i j d e c.2)).bind fun en3 => (T.ofOpt (putO l (c.1, en3))).bind fun en4 => .ret (.nx, en4)
section
variable {W : Wd} {σ : L2.St} {H : Hp} {X : Cx} {ra rb rc : Run} {Dn : Ends} {pos : Pos}
theorem tvs_par3U {i j l : Nat} (h : TVS W (sPar3 i j l ra rb rc) Dn σ H) : tAsg (tTup (tCons (TV W ra) (tCons (TV W rb) (tCons (TV W rc) tNil)))) (gTup W.K 3 (gCons (gName i) (gCons (gName j) (gCons (gName l) gNil)))) Dn σ H := by
  have late : ∀ {S P S2 P2 : Addr → Prop} {H H2 H3 : Hp} {en : En} {τ : L2.St}, (∀ σ' H' S' P', Ext S P H S' P' H' → Rel W S' P' en σ' H' → Dn.nx σ' H') → Ext S P H S2 P2 H2 → Rel W S2 P2 en τ H2 → (∀ a o, H2 a = some o → H3 a = some o) → Dn.nx τ H3 := fun k e R hk => by
    obtain ⟨e3, R3⟩ := R.same hk (fun _ h => h) (fun _ h => .inl h) fun a h => by obtain ⟨o, z⟩ := R.dom a h; exact ⟨o, hk a o z⟩
    exact k _ _ _ _ (e.trans e3) R3
  obtain ⟨S, P, en, R, w⟩ := h
  refine ⟨S, P, en, R, T.wp_mono ((T.wp_bind _ _ _).mp w) fun a q v H1 S1 P1 e1 R1 ok => ?_⟩
  obtain ⟨d1, hd1, q⟩ := T.wp_ofOpt ((T.wp_bind _ _ _).mp q)
  obtain ⟨S2, P2, e2, R2, dz1⟩ := ok.valz R1 hd1
  refine ⟨S2, P2, a.2, R2, T.wp_mono ((T.wp_bind _ _ _).mp q) fun b q u H3 S3 P3 e3 R3 okb => ?_⟩
  obtain ⟨d2, hd2, q⟩ := T.wp_ofOpt ((T.wp_bind _ _ _).mp q)
  obtain ⟨S4, P4, e4, R4, dz2⟩ := okb.valz R3 hd2
  refine ⟨S4, P4, b.2, R4, T.wp_mono ((T.wp_bind _ _ _).mp q) fun c q z H5 S5 P5 e5 R5 okc => ?_⟩
  obtain ⟨en3, h3, qa⟩ := T.wp_ofOpt ((T.wp_bind _ _ _).mp q)
  obtain ⟨en4, h4, qq⟩ := T.wp_ofOpt ((T.wp_bind _ _ _).mp qa)
  unfold putTwo at h3
  split at h3
  case isFalse => cases h3
  rename_i hl
  cases h3
  have z1 : Dz W S5 H5 v d1 := R2.top (e3.trans (e4.trans e5)) dz1
  have z2 : Dz W S5 H5 u d2 := R4.top e5 dz2
  have R6 := (R5.put hl.1 z1).put (i := j) (by rw [List.length_set]; exact hl.2) z2
  have all := e1.trans (e2.trans (e3.trans (e4.trans e5)))
  refine ⟨by show 3 ≤ sizeLine; rw [sizeLine_eq]; decide, fun p hp => ⟨p, [v, u, z], rfl, SqT.of upd_same, rfl, v, [u, z], rfl, u, [z], rfl, z, [], rfl, rfl, late qq all (OpOk.put (a := (c.1, _)) R6 ?_ h4) (upd_keeps hp)⟩⟩
  obtain ⟨oc, enc⟩ := c
  cases oc with
  | v d => exact okc
  | fr d =>
    obtain ⟨dv, pp, uu, rfl, hf, hu⟩ := okc
    refine ⟨dv, pp, uu, rfl, (hf.put R5.len hl.1 (.inr rfl)).put ?_ (by rw [List.length_set]; exact hl.2) (.inr rfl), hu⟩
    rw [List.length_set, List.length_set]
    exact R5.len
  | b k =>
    unfold putO at h4
    split at h4 <;> cases h4
theorem s_par3U {x y z : Str} {a b c : Expr} {px py pz pt pt2 : Pos} {kt k2 : Nat} (i j l : Nat) (hNd : X.N.Nodup) (hK : X.K = W.K) (ha : PE X a (TV W ra)) (hb : PE X b (TV W rb)) (hcc : PE X c (TV W rc)) (hc : X.calm = true := by rfl) (hi : X.N[i]? = some x := by rfl) (hj : X.N[j]? = some y := by rfl) (hl : X.N[l]? = some z := by rfl)
    (hx : Loc X.env.scope x := by first | exact Or.inl rfl | exact Or.inr rfl) (hy : Loc X.env.scope y := by first | exact Or.inl rfl | exact Or.inr rfl) (hz : Loc X.env.scope z := by first | exact Or.inl rfl | exact Or.inr rfl) (hfx : X.fn x = true ∨ X.env.scope.names.lookup x = some .local := by exact Or.inl rfl) (hfy : X.fn y = true ∨ X.env.scope.names.lookup y = some .local := by exact Or.inl rfl) (hfz : X.fn z = true ∨ X.env.scope.names.lookup z = some .local := by exact Or.inl rfl)
    (hs : swapsWithSole [.Tuple [.Name x px, .Name y py, .Name z pz] kt pt] (.Tuple [a, b, c] k2 pt2) pos.line X.env = pure false := by rfl) (hw : swappedStores [.Tuple [.Name x px, .Name y py, .Name z pz] kt pt] (.Tuple [a, b, c] k2 pt2) X.env = pure none := by rfl)
    (h1 : starEach [a, b, c] X.env = (false, eval a X.env) :: starEach [b, c] X.env := by rfl) (h2 : starEach [b, c] X.env = (false, eval b X.env) :: starEach [c] X.env := by rfl) (h3 : starEach [c] X.env = (false, eval c X.env) :: starEach [] X.env := by rfl)
    (t1 : (assignEach [.Tuple [.Name x px, .Name y py, .Name z pz] kt pt] X.env).map (·.2) = [assign (.Tuple [.Name x px, .Name y py, .Name z pz] kt pt) X.env] := by rfl)
    (t2 : (assignEach [.Name x px, .Name y py, .Name z pz] X.env).map (·.2) = assign (.Name x px) X.env :: (assignEach [.Name y py, .Name z pz] X.env).map (·.2) := by rfl) (t3 : (assignEach [.Name y py, .Name z pz] X.env).map (·.2) = assign (.Name y py) X.env :: (assignEach [.Name z pz] X.env).map (·.2) := by rfl)
    (t6 : (assignEach [.Name z pz] X.env).map (·.2) = assign (.Name z pz) X.env :: (assignEach [] X.env).map (·.2) := by rfl)
    (t4 : (assignEach [.Name x px, .Name y py, .Name z pz] X.env).length = 3 := by rfl) (t5 : (assignEach [.Name x px, .Name y py, .Name z pz] X.env).findIdx? (·.1) = none := by rfl) :
    PS X (.Assign [.Tuple [.Name x px, .Name y py, .Name z pz] kt pt] (.Tuple [a, b, c] k2 pt2) pos) (TVS W (sPar3 i j l ra rb rc)) :=
  ps_weak (ps_asg (pe_tup (pa_cons ha (pa_cons hb (pa_cons hcc pa_nil h3) h2) h1)) (pg_tup hc (pgs_cons (pg_name hNd hi hx hfx) (pgs_cons (pg_name hNd hj hy hfy) (pgs_cons (pg_name hNd hl hz hfz) pgs_nil t6) t3) t2) t4 t5) hs hw t1) fun _ _ _ h => by rw [hK]; exact tvs_par3U h
end
end Sx
set_option Elab.async false
set_option linter.all false
set_option maxRecDepth 100000
set_option maxHeartbeats 4000000
set_option autoImplicit false
namespace Sx
open PySem L2 PyProof.Rows
/-! ### range(a, b); a written empty tuple; three keywords in the order 2 3 1 -/
section
variable {W : Wd} {S P : Addr → Prop} {H : Hp} {X : Cx} {en : En} {σ : L2.St}
def iRange2 (rs : Runs) : RunI := fun en => (rs en).bind fun a => (T.ofOpt (match frcs a.2 a.1 with
  | some [.int i, .int j] => if 0 ≤ i ∧ i ≤ 4096 ∧ j ≤ 4096 ∧ -4096 ≤ j then some ((List.range (j - i).toNat).map fun k => D.int (i + (k : Nat))) else none
  | _ => none)).bind fun ds => .ret (ds, a.2)
theorem x_range2 {tg a b : Expr} {ra rb : Run} {p pos : Pos} (hg : Gl X "range") (hm : X.mg "range" = none) (ha : PE X a (TV W ra)) (hb : PE X b (TV W rb)) (hs : starEach [a, b] X.env = (false, eval a X.env) :: starEach [b] X.env) (hs2 : starEach [b] X.env = (false, eval b X.env) :: starEach [] X.env) :
    PI X tg (.Call (.Name "range" p) [a, b] [] pos) (TVI W (iRange2 (rCons ra (rCons rb rNil))) none) := by
  refine ⟨fun pins s σ H R I q => (pi_range2 (tg := tg) hg hm (x_cons ha (x_cons hb x_nil hs2) hs) (by rw [hs, hs2]; rfl) hs2).run pins s σ H R I ?_⟩
  obtain ⟨S, P, en, Rl, w⟩ := q
  refine TVs.use Rl w fun c vs H1 S1 P1 e1 R1 p1 q => ?_
  obtain ⟨ds, hds, q⟩ := T.wp_ofOpt ((T.wp_bind _ _ _).mp q)
  split at hds
  · rename_i i j hj
    split at hds
    · rename_i hb
      obtain ⟨v, u, rfl, dv, du⟩ := (p1.now R1 hj).two
      cases dv
      cases du
      refine ⟨i, j, rfl, ⟨by omega, by omega, by omega, by omega⟩, q (Itr i (j - i).toNat) H1 S1 P1 P1 e1 R1 (fun _ h => h) (fun S3 P3 en3 σ3 H3 _ e3 R3 => ⟨P3, fun _ h => h, e3, R3⟩) (fun _ => rfl) ?_⟩
      cases hds
      exact walks_rng
    · cases hds
  · cases hds
theorem e_gtupE {x : Str} {a : Addr} {pos : Pos} (hK : X.K = W.K) (hm : X.mg x = some (.ref a)) (hl : ∃ o n, X.K.lookup a = some o ∧ o.cls = .type "tuple" ∧ o.data = .seq #[] n) (hg : Gl X x := by rfl) (hd : (x == ("__debug__" : Str)) = false := by decide) :
    PE X (.Name x pos) (TV W (rC (.tup []))) := by
  obtain ⟨o, n, h1, h2, h3⟩ := hl
  exact e_gtup0 hK hm h1 h2 h3 hg hd
end
def sw201 {α : Type} (us ws : List α) : List α := match us, ws with
  | [], [a, b, c] => [c, a, b]
  | _, _ => []
theorem pm201 {W : Wd} : PermOk W 3 sw201 sw201 := by
  intro S H vs ds ws es h g
  cases h with
  | cons => exact .nil
  | nil =>
    match g with
    | .nil => exact .nil
    | .cons _ _ .nil => exact .nil
    | .cons _ _ (.cons _ _ .nil) => exact .nil
    | .cons t1 d1 (.cons t2 d2 (.cons t3 d3 .nil)) => exact .cons t3 d3 (.cons t1 d1 (.cons t2 d2 .nil))
    | .cons _ _ (.cons _ _ (.cons _ _ (.cons _ _ _))) => exact .nil
theorem q201_len {rs : Runs} (h : LenR rs 3) : ∀ en : En, (rs en).all fun b => ∀ ds, onlyV b.1 = some ds → (sw201 [] ds).length = 3 := fun en => T.all_mono (h en) fun a ha ds e => by
  have := (onlyV_len e).trans ha
  match ds, this with
  | [a, b, c], _ => rfl
section
variable {K : PySem.W.Frag}
theorem kb201 {x qual p1 p2 p3 : Str} {st : Stmt} {f : Addr} {fd : FuncData} (F : Fun K x qual st f fd)
    (h : ∀ (kV doc pm : Value) (an : Option Addr) (cdv ct a b c : Value), bindArgs (PySem.W.fnOf x qual (defArgs st) (defBody st) (defScope st) .none kV doc pm an cdv ct) ⟨[], [(p2, a), (p3, b), (p1, c)]⟩ = pure [(p1, c), (p2, a), (p3, b)]) : KBinds K fd [p1, p2, p3] [p2, p3, p1] sw201 sw201 := by
  obtain ⟨oc, od, kV, doc, pm, an, cdv, ct, osl, rfl, lk, hcd⟩ := F.ex
  refine ⟨fun s us ws kin hl => ?_, fun {vs us zs ws} r q => ?_⟩
  · match us, ws, hl with
    | [], [a, b, c], _ => exact .of_eq (h kV doc pm an cdv ct a b c)
  · cases r with
    | cons => exact .nil
    | nil =>
      match q with
      | .nil => exact .nil
      | .cons _ .nil => exact .nil
      | .cons _ (.cons _ .nil) => exact .nil
      | .cons t1 (.cons t2 (.cons t3 .nil)) => exact .cons t3 (.cons t1 (.cons t2 .nil))
      | .cons _ (.cons _ (.cons _ (.cons _ _))) => exact .nil
end
end Sx
set_option Elab.async false
set_option linter.all false
set_option maxRecDepth 100000
set_option maxHeartbeats 4000000
set_option autoImplicit false
namespace Sx
open PySem L2 PyProof.Rows
/-! ### xs != [], xs == []: the items may be anything -/
def rNilL (K : PySem.W.Frag) (f : Bool → Bool) : R2 := fun x y H Q => ∃ a b xs, x = .ref a ∧ y = .ref b ∧ SqL K H a xs ∧ SqL K H b [] ∧ Q (.bl (f xs.isEmpty)) H
section
variable {X : Cx} {W : Wd}
theorem op_neN (hu : X.A.units + 64 < cLine) : OpR X (compareOp .NotEq) (rNilL X.K not) := by
  intro pins s σ H x y v u Q I rx ry h
  obtain ⟨a, b, xs, rfl, rfl, ha, hb, k⟩ := h
  cases rx
  cases ry
  obtain ⟨its, r1, p1, _⟩ := I.list ha
  obtain ⟨its2, r2, p2, _⟩ := I.list hb
  cases r2
  cases r1 with
  | nil => exact SeqAt.RcNeAt.lists (e := fun _ => true) p1.isList p2.isList rfl (by omega) (fun j h1 _ => absurd h1 (Nat.not_lt_zero j)) X.prog X.w _ _ ⟨.bl _, H, I, rfl, k⟩
  | cons r rs => exact SeqAt.RcNeAt.lists_lengths p1.isList p2.isList rfl (by omega) X.prog X.w _ _ ⟨.bl _, H, I, rfl, k⟩
theorem op_eqN (hu : X.A.units + 64 < cLine) : OpR X (compareOp .Eq) (rNilL X.K id) := by
  intro pins s σ H x y v u Q I rx ry h
  obtain ⟨a, b, xs, rfl, rfl, ha, hb, k⟩ := h
  cases rx
  cases ry
  obtain ⟨its, r1, p1, _⟩ := I.list ha
  obtain ⟨its2, r2, p2, _⟩ := I.list hb
  cases r2
  cases r1 with
  | nil => exact SeqAt.eq_listAt (e := fun _ => true) p1.isList p2.isList rfl (by omega) (fun j h1 _ => absurd h1 (Nat.not_lt_zero j)) ⟨.bl _, H, I, rfl, k⟩
  | cons r rs => exact SeqAt.eq_list_lengthsAt p1.isList p2.isList rfl (by omega) ⟨.bl _, H, I, rfl, k⟩
def fNilG (f : Bool → Bool) (x y : D) : Option (Bool × D) := match x, y with
  | .lst xs, .lst [] => some0 (.bl (f xs.isEmpty))
  | _, _ => none
theorem p_nil (f : Bool → Bool) : Pure2 W (rNilL W.K f) (fNilG f) := by
  intro S H v u x y c Q hd hx hy h r
  unfold fNilG at h
  split at h
  · cases h
    cases hx with
    | lst ha dl =>
      cases hy with
      | lst hb dl2 =>
        cases dl2
        refine ⟨_, _, _, rfl, rfl, SqL.of ha, SqL.of hb, ?_⟩
        cases dl <;> exact r.bl hd
  · cases h
variable {k : Nat} {a b : Expr} {ra rb : Run} {pos : Pos}
theorem e_neN (hK : X.K = W.K) (hr : Room k X.A) (ha : PE X a (TV W ra)) (hb : PE X b (TV W rb)) (hm : behindInMarks .NotEq b = false := by rfl) : PE X (.Compare a [.NotEq] [b] pos) (TV W (run2 ra rb (fNilG not))) := x_cmp (by rw [← hK]; exact op_neN hr.units) (p_nil not) ha hb hm
theorem t_neN (hK : X.K = W.K) (hr : Room k X.A) (ha : PE X a (TV W ra)) (hb : PE X b (TV W rb)) (hm : behindInMarks .NotEq b = false := by rfl) : PT X (.Compare a [.NotEq] [b] pos) (TVT W (toT (run2 ra rb (fNilG not)))) := t_cmp (by rw [← hK]; exact op_neN hr.units) (p_nil not) ha hb hm
theorem e_eqN (hK : X.K = W.K) (hr : Room k X.A) (ha : PE X a (TV W ra)) (hb : PE X b (TV W rb)) (hm : behindInMarks .Eq b = false := by rfl) : PE X (.Compare a [.Eq] [b] pos) (TV W (run2 ra rb (fNilG id))) := x_cmp (by rw [← hK]; exact op_eqN hr.units) (p_nil id) ha hb hm
theorem t_eqN (hK : X.K = W.K) (hr : Room k X.A) (ha : PE X a (TV W ra)) (hb : PE X b (TV W rb)) (hm : behindInMarks .Eq b = false := by rfl) : PT X (.Compare a [.Eq] [b] pos) (TVT W (toT (run2 ra rb (fNilG id)))) := t_cmp (by rw [← hK]; exact op_eqN hr.units) (p_nil id) ha hb hm
end
end Sx
set_option Elab.async false
set_option linter.all false
set_option maxRecDepth 100000
set_option maxHeartbeats 4000000
set_option autoImplicit false
namespace Sx
open PySem PySem.W PySem.Calls PyProof.Rows PySem.HandSPX
/-! ### own errors whose __init__ says super().__init__("..") -/
structure ErK (P : Program) (K : Frag) (mg : Str → Option Value) (C fI cc cda : Addr) : Prop where
  cls : ∃ nm q N bs bm sn sub ab col dd k0 k1 k2 k3 k5, K.lookup C = some (excClassObj nm q C N bs bm true sn sub ab col dd k0 k1 k2 k3 k5 "ValueError.__new__") ∧ refsVE bm = true ∧ alongIn K "__init__" bm = some (some (.builtin "ValueError.__init__"))
  sa : findIn K (.ref C) "__setattr__" = some (some (.builtin "object.__setattr__"))
  iC : findIn K (.ref C) "__init__" = some (some (.ref fI))
  tC : typeIn K (.ref fI) = some (.type "function")
  kC : keepIn K (.ref C) = true
  exC : subIn K (.ref C) (.type "BaseException") = some true
  vC : subIn K (.ref C) (.type "ValueError") = some true
  sC : mroIn K C (.ref C) = some true
  tyC : typeIn K (.ref C) = some (.type "type")
  op : nsIn K cStatics "thirdparty.any" = some none
  cell : ∃ cl cld csl, K.lookup cc = some ⟨cl, cld, .cell (some (.ref C)), csl⟩
  code : ∃ ccl cdd vs ccs file tf, K.lookup cda = some ⟨ccl, cdd, .fields vs, ccs⟩ ∧ vs[2]? = some (.str file tf) ∧ ((P.main.file : Str) == file) = true
  top : (P.main.scope.names.lookup ("super" : Str)).isSome = false
  sup : mg "super" = none
section
variable {prog : Program} {w : World} {A : Around} {E : Value → Shared → Prop} {K : Frag} {mg mb : Str → Option Value} {C fI cc cda : Addr}
theorem ve_call {u e t0 : Addr} {rest : List Value} {Q : Value → Shared → Prop} {h : Heap} {g : Array GenState} {d : Drawn} {t : Nat} {os : OsState} {nm q : Str} {N : Addr} {bs bm : List Value} {hdct : Bool} {sn : List Str} {sub : List Value} {ab : Bool} {col : Option Bool} {dd : Option Addr} {k0 k1 k2 k3 k5 : Option Value}
    (hC : h.get? C = some (excClassObj nm q C N bs bm hdct sn sub ab col dd k0 k1 k2 k3 k5 "ValueError.__new__")) (he : h.get? e = some (excO C t0)) (hu : h.get? u = some (kxs_mw "ValueError.__init__" e)) (hz : rest.length ≤ sizeLine)
    (hq : ∀ h' t1, (∀ b o, b ≠ e → h.get? b = some o → h'.get? b = some o) → h'.get? e = some (excO C t1) → Q .none ⟨h', g, d, t, os⟩) :
    wpAny (model prog w) A (call (.ref u) rest) Q E ⟨h, g, d, t, os⟩ := by
  have FB := F.excBase_ValueError
  refine wpAny_call (codeAny_of_tree ?_)
  show wpAny _ A.in1 (callAny (.ref u) ⟨rest, []⟩) _ _ _
  simp only [callAny]
  refine wpAny_bind (wpAny_load hu ?_)
  simp only [kxs_mw, show (Value.type "method-wrapper" == Value.type "method" || Value.type "method-wrapper" == Value.type "builtin_function_or_method" || Value.type "method-wrapper" == Value.type "method-wrapper") = true by decide, if_true]
  refine KFB.if_so (by decide) ?_
  refine wpAny_bind (check_bound_init FB.toExcCallFacts hC he rfl ?_)
  refine wpAny_bind (wpAny_pure (wpAny_pure ?_))
  refine ⟨plainId_quiet FB.init.plain _, codeAny_builtin FB.initEntry ?_⟩
  exact exc_init_tree (cls := .ref C) (t0 := t0) (dv := none) (c2 := .none) (c3 := .none) (b4 := .bool false) he hz fun h' k e' _ => hq h' _ k e'
theorem er_super (T : ErK prog K mg C fI cc cda) {q : Str} {scope : Scope} {fd : FuncData} {ar : Arg} {oc : Value} {od : Option Addr} {osl : Array (Option Value)} {body : List Stmt} {L x t0 : Addr} {m : Str → Option Value} {s : Shared} {txt : Str} {p0 p1 p2 p3 p4 : Pos} {kk : Nat} {Q : Value → Shared → Prop}
    (X : K.In s.heap) (hf : K.lookup fI = some ⟨oc, od, .func fd, osl⟩) (hp : (fd.params.posonlyargs ++ fd.params.args).head? = some ar) (hn : s.heap.Ns L m) (hv : m ar.arg = some (.ref x)) (hx : s.heap.get? x = some (excO C t0))
    (g : s.heap.Ns mainGlobals mg) (b : s.heap.Ns builtinsNs mb) (hmb : mb "super" = some (.type "super"))
    (hpos : (p2.endLine == p4.line) = true) (hks : scope.names.lookup ("super" : Str) = some .globalImplicit) (hkc : scope.names.lookup ("__class__" : Str) = some .free) (hka : scope.names.lookup ar.arg = some .local) (hk : scope.kind = .function)
    (hq : ∀ h' tk t1, (∀ b o, b ≠ x → s.heap.get? b = some o → h'.get? b = some o) → h'.get? x = some (excO C t1) → Q .none { s with heap := h', toks := tk }) :
    _root_.PySem.wpAt (model prog w) A (.func body (ksEnv q scope L fI (.ref cda) cc)) (eval (.Call (.Attribute (.Call (.Name "super" p0) [] [] p1) "__init__" p2) [.Constant (.str txt) kk p3] [] p4) (ksEnv q scope L fI (.ref cda) cc)) Q E s := by
  obtain ⟨nm, qn, N, bs, bm, sn, sub, ab, col, dd, k0, k1, k2, k3, k5, hC, hbm, hal⟩ := T.cls
  obtain ⟨cl, cld, csl, hcell⟩ := T.cell
  obtain ⟨ccl, cdd, vs, ccs, file, tf, hcode, hvs, hfile⟩ := T.code
  have hcl : clsIn K C = some { name := nm, bases := bs, mro := .ref C :: bm, ns := N, qualname := qn, hasDict := true, slotNames := sn, subclasses := sub, abstract := ab, collection := col, hasDel := false } := by unfold clsIn; rw [hC] <;> rfl
  obtain ⟨hh, gg, d, t, os⟩ := s
  have hCh := X _ _ hC
  have he : eval (.Call (.Attribute (.Call (.Name "super" p0) [] [] p1) "__init__" p2) [.Constant (.str txt) kk p3] [] p4) (ksEnv q scope L fI (.ref cda) cc) = (do
      let ov ← attributeBase (.Call (.Name "super" p0) [] [] p1) "__init__" (ksEnv q scope L fI (.ref cda) cc) (eval (.Call (.Name "super" p0) [] [] p1) (ksEnv q scope L fI (.ref cda) cc))
      standAt p2.atName
      let (f, first) ← holding [ov] (getMethod ov "__init__" (do return (← importBound (.Call (.Name "super" p0) [] [] p1) (ksEnv q scope L fI (.ref cda) cc)).getD true))
      callWith p4 f first (backTo p4 (starEach [.Constant (.str txt) kk p3] (ksEnv q scope L fI (.ref cda) cc))) []) := by
    rw [arm_eval_Call]
    unfold methodCall methodCallPos
    rw [hpos]
    rfl
  refine ks_wpAt_MethodCall ?_ he
  refine ks_wpAt_super_base (env := ksEnv q scope L fI (.ref cda) cc) hks hkc (by decide) rfl (X _ _ hf) rfl hp rfl (X _ _ hcode) rfl hvs hfile T.top ?_
  refine ks_loadName_global hk hks (loadGlobal_builtin (env := ksEnv q scope L fI (.ref cda) cc) g T.sup b hmb ⟨rfl, ?_⟩)
  refine wpAny_loadName_free hk hkc rfl ⟨_, X _ _ hcell, rfl⟩ ?_
  refine wpAny_loadName_local hk hka hn hv ?_
  refine ks_wpAny_isType_cls hCh rfl ⟨rfl, ?_⟩
  refine ks_wpAny_call_super hCh rfl hx rfl (fun c e => by cases e) (looks_mroIn X T.sC) (fun h1 e1 k1 => ?_)
  have X1 : K.In h1 := X.keeps k1
  have I1 : InstAt h1 x (excO C t0) C none := ⟨k1 _ _ hx, rfl, rfl, trivial⟩
  have hI : Looks (model prog w) h1 (isInstance (.ref x) (.type "ValueError")) true := I1.type.andThen (looks_subIn X1 T.vC)
  have xC : x ≠ C := fun z => by
    rw [z, hCh] at hx
    have := congrArg Obj.data (Option.some.inj hx)
    cases this
  refine kxs_getMethod kxs_ValueError e1 (looks_opaque X1 T.op) (l₀ := .ref C :: bm) (l := bm) (fun A Q E s k q => wpAny_bind ((looks_clsIn X1 hcl) A _ E s k (wpAny_pure q))) (by simp [List.dropWhile_cons]) X1 hal hI xC (by decide) ?_
  have hmw : (h1.push (kxs_mw "ValueError.__init__" x)).get? h1.objs.size = some (kxs_mw "ValueError.__init__" x) := Heap.get?_push_size _ rfl
  refine kxs_callWith (i := "ValueError.__init__") (x := x) rfl (evalArgs_plain ?_)
  show wpAny _ _ (spliced ((false, eval (.Constant (.str txt) kk p3) (ksEnv q scope L fI (.ref cda) cc)) :: [])) _ _ _
  refine Calls.spliced_cons (Calls.Constant_str ?_)
  refine Calls.spliced_nil ⟨hmw, ?_⟩
  have k2 : ∀ b o, hh.get? b = some o → (h1.push (kxs_mw "ValueError.__init__" x)).get? b = some o := fun b o e => Heap.get?_push_of_some _ (k1 b o e)
  refine ve_call (k2 _ _ hCh) (k2 _ _ hx) hmw (by rw [sizeLine_eq]; show 1 ≤ 16777216; decide) fun h' t1 k e => ?_
  exact hq h' _ t1 (fun b o ne z => k b o ne (k2 b o z)) e
end
end Sx
set_option Elab.async false
set_option linter.all false
set_option maxRecDepth 100000
set_option maxHeartbeats 4000000
set_option autoImplicit false
namespace Sx
open PySem PySem.W PySem.Calls PyProof.Rows PySem.HandSPX
/-! ### such an error, made -/
/-- its dict -/
def ErD (h h' : Heap) (x : Addr) (fl : Option (Str × Value)) (dv : Option Addr) : Prop := match fl with
  | none => dv = none
  | some p => ∃ d, dv = some d ∧ h.objs.size ≤ d ∧ d ≠ x ∧ h'.Ns1 d (fun y => if y = p.1 then some p.2 else none)
structure ErEnd (h h' : Heap) (x C : Addr) (fl : Option (Str × Value)) (dv : Option Addr) : Prop where
  keep : ∀ b o, b ≠ x → h.get? b = some o → h'.get? b = some o
  obj : ∃ t1, h'.get? x = some { cls := .ref C, dict := dv, data := .fields #[.ref t1, .none, .none, .none, .bool false, .none] }
  dic : ErD h h' x fl dv
/-- the def __init__ of the class -/
structure ErF (K : Frag) (fI cc cda : Addr) (q : Str) (params : Arguments) (body : List Stmt) (scope : Scope) : Prop where
  lk : ∃ oc od kV doc pm an ct osl, K.lookup fI = some ⟨oc, od, .func (ksFn "__init__" q params body scope .none kV doc pm an (.ref cda) ct cc), osl⟩
  cd : codeIn K (.ref cda) q = true
  hks : scope.names.lookup ("super" : Str) = some .globalImplicit
  hkc : scope.names.lookup ("__class__" : Str) = some .free
  self : scope.names.lookup ("self" : Str) = some .local
  kind : scope.kind = .function
  co : scope.isCoroutine = false
  gen : scope.isGenerator = false
  cell : ∀ x ∈ scope.names, x.2 ≠ .cell
  hd : ∃ ar, (params.posonlyargs ++ params.args).head? = some ar ∧ ar.arg = "self"
def erB0 (body : List Stmt) : Prop := ∃ p0 p1 p2 p3 p4 p5 txt kk, body = [.Expr (.Call (.Attribute (.Call (.Name "super" p0) [] [] p1) "__init__" p2) [.Constant (.str txt) kk p3] [] p4) p5] ∧ (p2.endLine == p4.line) = true
def erB1 (body : List Stmt) (f : Str) : Prop := ∃ p0 p1 p2 p3 p4 p5 txt kk q1 q2 q3 q4, body = [.Expr (.Call (.Attribute (.Call (.Name "super" p0) [] [] p1) "__init__" p2) [.Constant (.str txt) kk p3] [] p4) p5, .Assign [.Attribute (.Name "self" q1) f q2] (.Name f q3) q4] ∧ (p2.endLine == p4.line) = true
section
variable {prog : Program} {w : World} {A : Around} {E : Value → Shared → Prop} {R : Result → Shared → Prop} {s : Shared} {K : Frag} {mg mb : Str → Option Value} {C fI cc cda : Addr} {q : Str} {params : Arguments} {body : List Stmt} {scope : Scope}
theorem er_int {fd : FuncData} {L a : Addr} (h : fd.scope.kind = .function) : interactive (callEnv fd L a) = false := by
  unfold interactive
  rw [show (callEnv fd L a).scope.kind = .function from h]
  rfl
theorem er_init0 (T : ErK prog K mg C fI cc cda) (Fd : ErF K fI cc cda q params body scope) (hB : erB0 body) (X : K.In s.heap) (g : s.heap.Ns mainGlobals mg) (b : s.heap.Ns builtinsNs mb) (hmb : mb "super" = some (.type "super")) (lim : s.heap.NoLimit) {x t0 : Addr} (hx : s.heap.get? x = some (excO C t0)) (hroom : A.depth < recursionLimit)
    (hbind : ∀ (kV doc pm ct : Value) (an : Option Addr), BindsTo s (ksFn "__init__" q params body scope .none kV doc pm an (.ref cda) ct cc) ⟨[.ref x], []⟩ [("self", .ref x)])
    (hq : ∀ h' tk, ErEnd s.heap h' x C none none → R (.ok (.ret .none)) { s with heap := h', toks := tk }) : codeAny (model prog w) A (.call (.ref fI) ⟨[.ref x], []⟩) R s := by
  obtain ⟨oc, od, kV, doc, pm, an, ct, osl, lk⟩ := Fd.lk
  obtain ⟨ar, har, hself⟩ := Fd.hd
  obtain ⟨p0, p1, p2, p3, p4, p5, txt, kk, rfl, hpos⟩ := hB
  refine ks_codeAny_call_defAt (fd := ksFn "__init__" q params _ scope .none kV doc pm an (.ref cda) ct cc) (binds := [("self", .ref x)]) hroom (X _ _ lk) rfl lim (codeRec_of X Fd.cd) rfl (hbind _ _ _ _ _) Fd.cell (fun y hy => by
    rw [List.mem_singleton.mp hy]; exact Fd.self) (fun h₀ hns k₀ => ?_) Fd.co Fd.gen Fd.kind
  refine ks_wpAt_execs_cons (ks_wpAt_Expr_any (hi := er_int Fd.kind) (er_super (m := fun y => ([("self", Value.ref x)] : List (Str × Value)).reverse.lookup y) (mb := mb) T (X.keeps k₀) lk har hns (by rw [hself]; rfl) (k₀ _ _ hx) (g.keeps k₀) (b.keeps k₀) hmb hpos Fd.hks Fd.hkc (by rw [hself]; exact Fd.self) Fd.kind fun h' tk t1 k e => ?_))
  exact wpAt_of_wpAny (wpAny_execs_nil (hq h' tk ⟨fun b o ne z => k b o ne (k₀ b o z), ⟨t1, e⟩, rfl⟩))
theorem er_init1 (T : ErK prog K mg C fI cc cda) (Fd : ErF K fI cc cda q params body scope) {f : Str} (hB : erB1 body f) (hf : scope.names.lookup f = some .local) (hfs : ¬ f = "self") (hfd : (f == ("__debug__" : Str)) = false) (noN : findIn K (.ref C) f = some none) (X : K.In s.heap) (g : s.heap.Ns mainGlobals mg) (b : s.heap.Ns builtinsNs mb) (hmb : mb "super" = some (.type "super")) (lim : s.heap.NoLimit) {x t0 : Addr} {v : Value} (hnx : K.lookup x = none) (hx : s.heap.get? x = some (excO C t0)) (hroom : A.depth < recursionLimit)
    (hbind : ∀ (kV doc pm ct : Value) (an : Option Addr), BindsTo s (ksFn "__init__" q params body scope .none kV doc pm an (.ref cda) ct cc) ⟨[.ref x, v], []⟩ [("self", .ref x), (f, v)])
    (hsw : ∀ (env : Env) (a b : Pos) (q1 q2 : Pos) (l : Nat), swapsWith (.Name f a) (some (.Attribute (.Name "self" q1) f q2)) l env = pure false)
    (hq : ∀ h' tk dx, ErEnd s.heap h' x C (some (f, v)) (some dx) → R (.ok (.ret .none)) { s with heap := h', toks := tk }) : codeAny (model prog w) A (.call (.ref fI) ⟨[.ref x, v], []⟩) R s := by
  obtain ⟨oc, od, kV, doc, pm, an, ct, osl, lk⟩ := Fd.lk
  obtain ⟨ar, har, hself⟩ := Fd.hd
  obtain ⟨p0, p1, p2, p3, p4, p5, txt, kk, q1, q2, q3, q4, rfl, hpos⟩ := hB
  obtain ⟨nm, qn, N, bs, bm, sn, sub, ab, col, dd, k0, k1, k2, k3, k5, hC, hbm, hal⟩ := T.cls
  have hcl : clsIn K C = some { name := nm, bases := bs, mro := .ref C :: bm, ns := N, qualname := qn, hasDict := true, slotNames := sn, subclasses := sub, abstract := ab, collection := col, hasDel := false } := by unfold clsIn; rw [hC] <;> rfl
  refine ks_codeAny_call_defAt (fd := ksFn "__init__" q params _ scope .none kV doc pm an (.ref cda) ct cc) (binds := [("self", .ref x), (f, v)]) hroom (X _ _ lk) rfl lim (codeRec_of X Fd.cd) rfl (hbind _ _ _ _ _) Fd.cell (fun y hy => by
    rcases List.mem_cons.mp hy with e | hy
    · rw [e]; exact Fd.self
    · rw [List.mem_singleton.mp hy]; exact hf) (fun h₀ hns k₀ => ?_) Fd.co Fd.gen Fd.kind
  have hsf : (("self" : Str) == f) = false := by
    cases z : (("self" : Str) == f) with
    | false => rfl
    | true => exact absurd (eq_of_beq z).symm hfs
  have m1 : ([("self", Value.ref x), (f, v)] : List (Str × Value)).reverse.lookup ("self" : Str) = some (.ref x) := by
    show List.lookup ("self" : Str) [(f, v), ("self", Value.ref x)] = _
    rw [List.lookup_cons, hsf]
    rfl
  have m2 : ([("self", Value.ref x), (f, v)] : List (Str × Value)).reverse.lookup f = some v := by
    show List.lookup f [(f, v), ("self", Value.ref x)] = _
    rw [List.lookup_cons, beq_self_eq_true]
  refine ks_wpAt_execs_cons (ks_wpAt_Expr_any (hi := er_int Fd.kind) (er_super (m := fun y => ([("self", Value.ref x), (f, v)] : List (Str × Value)).reverse.lookup y) (mb := mb) T (X.keeps k₀) lk har hns (by rw [hself]; exact m1) (k₀ _ _ hx) (g.keeps k₀) (b.keeps k₀) hmb hpos Fd.hks Fd.hkc (by rw [hself]; exact Fd.self) Fd.kind fun h' tk t1 k e => ?_))
  have sL : s.heap.objs.size ≠ x := Nat.ne_of_gt (Heap.lt_size hx)
  have kL : ∀ b o, s.heap.get? b = some o → b ≠ x → h'.get? b = some o := fun b o z ne => k b o ne (k₀ b o z)
  have X1 : K.In h' := fun a o z => kL a o (X a o z) fun ea => by rw [ea, hnx] at z; cases z
  have hn1 : h'.Ns s.heap.objs.size (fun y => ([("self", Value.ref x), (f, v)] : List (Str × Value)).reverse.lookup y) := by
    obtain ⟨oL, es, ep, hL, r⟩ := hns
    exact ⟨oL, es, ep, k _ _ sL hL, r⟩
  refine wpAt_of_wpAny (wpAny_execs_cons (plainObj_wpAny_Assign_Attribute ?_ (hsw _ _ q3 _ _ _)))
  refine wpAny_Name (wpAny_loadName_local (v := v) Fd.kind hf hn1 m2 ?_) hfd
  refine wpAny_Name (wpAny_loadName_local (v := .ref x) Fd.kind Fd.self hn1 m1 ?_) (by decide)
  refine set_plain X1 (ox := excO C t1) (od := none) ⟨e, rfl, rfl, trivial⟩ T.sa ?_
  refine exc_osa X1 e hcl (show refsVE (.ref C :: bm) = true from hbm) rfl noN (fun h₃ tk₃ dx k₃ dn dne hx₃ hn₃ => ?_)
  show wpAny _ _ (execs _ _) _ _ _
  have sz : s.heap.objs.size ≤ h'.objs.size := by
    obtain ⟨oL, es, ep, hL, r⟩ := hn1
    exact Nat.le_of_lt (Heap.lt_size hL)
  exact wpAny_execs_nil (hq h₃ tk₃ dx ⟨fun b o ne z => k₃ b o ne (kL b o z ne), ⟨t1, hx₃⟩, dx, rfl, Nat.le_trans sz dn, dne, hn₃⟩)
end
end Sx
set_option Elab.async false
set_option linter.all false
set_option maxRecDepth 100000
set_option maxHeartbeats 4000000
set_option autoImplicit false
namespace Sx
section
open PySem PySem.W PySem.Calls PyProof.Rows PySem.HandSPX
structure ErMade (h h' : Heap) (e C : Addr) (fl : Option (Str × Value)) (dv : Option Addr) : Prop where
  keep : ∀ b o, h.get? b = some o → h'.get? b = some o
  new : h.objs.size ≤ e
  obj : ∃ oe vs, h'.get? e = some oe ∧ oe.cls = .ref C ∧ oe.dict = dv ∧ oe.data = .fields vs ∧ vs[1]? = some .none
  dic : ErD h h' e fl dv
/-- what the class's __init__ does, with these arguments -/
def ErI (prog : Program) (w : World) (K : Frag) (mg : Str → Option Value) (C fI : Addr) (rest : List Value) (fl : Option (Str × Value)) : Prop :=
  ∀ (A : Around) (R : Result → Shared → Prop) (s : Shared) (mb : Str → Option Value) (x t0 : Addr), K.In s.heap → s.heap.Ns mainGlobals mg → s.heap.Ns builtinsNs mb → mb "super" = some (.type "super") → s.heap.NoLimit → K.lookup x = none → s.heap.get? x = some (excO C t0) → A.depth < recursionLimit →
    (∀ h' tk dv, ErEnd s.heap h' x C fl dv → R (.ok (.ret .none)) { s with heap := h', toks := tk }) → codeAny (model prog w) A (.call (.ref fI) ⟨.ref x :: rest, []⟩) R s
variable {prog : Program} {w : World} {A : Around} {E : Value → Shared → Prop} {R : Result → Shared → Prop} {s : Shared} {K : Frag} {mg mb : Str → Option Value} {C fI cc cda : Addr} {rest : List Value} {fl : Option (Str × Value)}
theorem er_made (T : ErK prog K mg C fI cc cda) (hI : ErI prog w K mg C fI rest fl) (X : K.In s.heap) (g : s.heap.Ns mainGlobals mg) (b : s.heap.Ns builtinsNs mb) (hmb : mb "super" = some (.type "super")) (lim : s.heap.NoLimit) (hroom : A.depth + 1 < recursionLimit) (hz : rest.length ≤ sizeLine)
    (hq : ∀ h' tk e dv, ErMade s.heap h' e C fl dv → R (.ok (.ret (.ref e))) { s with heap := h', toks := tk }) : codeAny (model prog w) A (.call (.ref C) ⟨rest, []⟩) R s := by
  obtain ⟨nm, q, N, bs, bm, sn, sub, ab, col, dd, k0, k1, k2, k3, k5, hC, hbm, _⟩ := T.cls
  obtain ⟨hp, gg, dr, tk, os⟩ := s
  have k : ∀ b o, hp.get? b = some o → ((hp.push (kdv_tup rest)).push (excO C hp.objs.size)).get? b = some o := fun b o e => Heap.get?_push_of_some _ (Heap.get?_push_of_some _ e)
  have hget : ((hp.push (kdv_tup rest)).push (excO C hp.objs.size)).get? (hp.objs.size + 1) = some (excO C hp.objs.size) := by heap_get
  have hnx : K.lookup (hp.objs.size + 1) = none := by
    cases e : K.lookup (hp.objs.size + 1) with
    | none => rfl
    | some o =>
      have z : hp.get? (hp.objs.size + 1) = some o := X _ _ e
      exact absurd (Nat.lt_of_succ_lt (Heap.lt_size z)) (Nat.lt_irrefl _)
  refine call_own F.excBase_ValueError (fun X => refsVE_contains X bm hbm) (X _ _ hC) (looks_findIn X T.iC) (fun self => bind_fn X self T.tC) hz ?_
  refine hI _ _ ⟨(hp.push (kdv_tup rest)).push (excO C hp.objs.size), gg, dr, tk, os⟩ mb _ _ (X.keeps k) (g.keeps k) (b.keeps k) hmb (lim.keeps k) hnx hget ?_ fun h' tk' dv M => ?_
  · show A.depth + 1 < recursionLimit
    exact hroom
  · obtain ⟨k', ⟨t1, hx⟩, dic⟩ := M
    have old : ∀ b o, hp.get? b = some o → h'.get? b = some o := fun b o e => k' b o (Nat.ne_of_lt (Nat.lt_succ_of_lt (Heap.lt_size e))) (k b o e)
    refine ⟨rfl, hq h' tk' (hp.objs.size + 1) dv ⟨old, Nat.le_succ _, ⟨_, _, hx, rfl, rfl, rfl, rfl⟩, ?_⟩⟩
    cases fl with
    | none => exact dic
    | some p =>
      obtain ⟨d, e1, dn, dne, hns⟩ := dic
      refine ⟨d, e1, ?_, dne, hns⟩
      have : ((hp.push (kdv_tup rest)).push (excO C hp.objs.size)).objs.size ≤ d := dn
      rw [Heap.size_push, Heap.size_push] at this
      exact Nat.le_trans (show hp.objs.size ≤ hp.objs.size + 1 + 1 by omega) this
end
end Sx
namespace Sx
open PySem L2 PySem.Spec PyProof.Rows
theorem relO_er {v : V} {v' : Value} (r : RelV v v') (g f : Str) : RelO (List.lookup f [(g, v)]) (if f = g then some v' else none) := by
  by_cases hw : f = g
  · subst hw
    rw [if_pos rfl]
    have q : List.lookup f [(f, v)] = some v := by simp [List.lookup]
    rw [q]
    exact r
  · rw [if_neg hw]
    have qw : (f == g) = false := by simpa using hw
    have q2 : List.lookup f [(g, v)] = none := by simp [List.lookup, qw]
    rw [q2]
    trivial
section
variable {X : Cx} {C fI cc cda : Addr}
theorem er_blt {X : Cx} (ok : X.Ok) : ∃ mb, X.base.Ns builtinsNs mb ∧ mb "super" = some (.type "super") := by
  obtain ⟨mb, h1, h2⟩ := ok.mod.blt
  exact ⟨mb, h1, (h2 "super" (by decide)).trans (by decide +kernel)⟩
/-- C(e) -/
def tMkE (C : Addr) (f : Str) (ta : TA) : L2.St → Hp → XK → Prop := fun σ H Q => ta σ H fun vs H1 => ∃ v, vs = [v] ∧ ∀ d, H1 d = none → Q (.ref C) (some d) (upd H1 d (.xd [(f, v)]))
theorem pmk_er1 {x f : Str} {a : Expr} {ta : TA} {p pos : Pos} {k : Nat} (T : ErK X.prog X.K X.mg C fI cc cda) (hI : ∀ v, ErI X.prog X.w X.K X.mg C fI [v] (some (f, v))) (hm : X.mg x = some (.ref C)) (hr : Room (k + 1) X.A) (ha : PA X [a] ta) (hg : Gl X x := by rfl) (hd : (x == ("__debug__" : Str)) = false := by decide)
    (he : starEach (a :: []) X.env = (false, eval a X.env) :: starEach [] X.env := by rfl) (hpl : (backTo pos (starEach [] X.env)).any (·.1) = false := by rfl) :
    PMk X (.Call (.Name x p) [a] [] pos) (tMkE C f ta) := by
  intro pins s σ H Q I h
  refine wpAny_Call_Name_kw (ld_glob I hg hm ?_ hd)
  refine PySem.W.callWith_K (h₀ := X.base) I.ok.mod.kin T.kC (thn (ha.run pos pins s σ H _ I h) fun us s1 hh => ?_) he hpl
  obtain ⟨vs, H1, I1, r1, v, ev, q1⟩ := hh
  subst ev
  refine ⟨I1.kIn, ?_⟩
  cases r1 with
  | cons rv rn =>
    rename_i v' us'
    cases rn
    show wpAny _ _ (call (.ref C) [v']) _ _ _
    have hlim := I1.nolimit
    obtain ⟨mb, b1, b2⟩ := er_blt I1.ok
    have gl := I1.mod.glob.keeps I1.bk
    have bl := b1.keeps I1.bk
    obtain ⟨hp, g, dr, tk, os⟩ := s1
    refine wpAny_call (er_made (mb := mb) T (hI v') I1.kIn gl bl b2 hlim (by have := hr.dp; omega) (by rw [sizeLine_eq]; show 1 ≤ 16777216; decide) fun h' tk' e dv M => ?_)
    show MkP X pins σ Q (.ref e) ⟨h', g, dr, tk', os⟩
    obtain ⟨oe, fv, hoe, hc, hd, hdat, h1⟩ := M.obj
    obtain ⟨d, rfl, dbig, dne, hns⟩ := M.dic
    obtain ⟨G', g1, g2⟩ := restrict h' fun b => decide (b ≠ e)
    have gk : ∀ b, b ≠ e → G'.get? b = h'.get? b := fun b hb => g1 b (decide_eq_true hb)
    have ge : G'.get? e = none := g2 e (by simp)
    have old : ∀ b o, hp.get? b = some o → G'.get? b = some o := fun b o q => (gk b (Nat.ne_of_lt (Nat.lt_of_lt_of_le (Heap.lt_size q) M.new))).trans (M.keep b o q)
    have ob : ObjOk X.prog X.w (upd H1 d (.xd [(f, v)])) G' d (.xd [(f, v)]) :=
      ⟨_, hns.at (fun o q => (gk d dne).trans q), fun y => relO_er rv f y⟩
    have J : Inv X pins σ (upd H1 d (.xd [(f, v)])) ⟨G', g, dr, tk', os⟩ := I1.laid (t' := tk') old dbig ob
    refine ⟨e, oe, fv, ⟨G', g, dr, tk', os⟩, _, .ref C, some d, rfl, J, fun b o q => ?_, ge, hoe, ⟨hc, hd⟩, hdat, h1, ?_, rfl, I1.bare, raises_own T.exC T.tyC, q1 d (I1.hok.fresh dbig)⟩
    · by_cases hb : b = e
      · have q' : G'.get? b = some o := q
        rw [hb, ge] at q'; cases q'
      · exact (gk b hb).symm.trans q
    · rw [upd_ne (Ne.symm dne)]
      exact I1.hok.fresh M.new
/-- C() -/
def tMkE0 (C : Addr) : L2.St → Hp → XK → Prop := fun σ H Q => Q (.ref C) none H
theorem pmk_er0 {x : Str} {p pos : Pos} {k : Nat} (T : ErK X.prog X.K X.mg C fI cc cda) (hI : ErI X.prog X.w X.K X.mg C fI [] none) (hm : X.mg x = some (.ref C)) (hr : Room (k + 1) X.A) (hg : Gl X x := by rfl) (hd : (x == ("__debug__" : Str)) = false := by decide) :
    PMk X (.Call (.Name x p) [] [] pos) (tMkE0 C) := by
  intro pins s σ H Q I h
  refine wpAny_Call_Name_kw (ld_glob I hg hm ?_ hd)
  refine PySem.W.callWith_K0 I.kIn T.kC ?_
  have hlim := I.nolimit
  obtain ⟨mb, b1, b2⟩ := er_blt I.ok
  have gl := I.mod.glob.keeps I.bk
  have bl := b1.keeps I.bk
  obtain ⟨hp, g, dr, tk, os⟩ := s
  refine wpAny_call (er_made (mb := mb) T hI I.kIn gl bl b2 hlim (by have := hr.dp; omega) (by rw [sizeLine_eq]; show 0 ≤ 16777216; decide) fun h' tk' e dv M => ?_)
  show MkP X pins σ Q (.ref e) ⟨h', g, dr, tk', os⟩
  obtain ⟨oe, fv, hoe, hc, hd, hdat, h1⟩ := M.obj
  cases (show dv = none from M.dic)
  obtain ⟨G', g1, g2⟩ := restrict h' fun b => decide (b ≠ e)
  have gk : ∀ b, b ≠ e → G'.get? b = h'.get? b := fun b hb => g1 b (decide_eq_true hb)
  have ge : G'.get? e = none := g2 e (by simp)
  have old : ∀ b o, hp.get? b = some o → G'.get? b = some o := fun b o q => (gk b (Nat.ne_of_lt (Nat.lt_of_lt_of_le (Heap.lt_size q) M.new))).trans (M.keep b o q)
  have J : Inv X pins σ H ⟨G', g, dr, tk', os⟩ := I.kept (t' := tk') old
  refine ⟨e, oe, fv, ⟨G', g, dr, tk', os⟩, _, .ref C, none, rfl, J, fun b o q => ?_, ge, hoe, ⟨hc, hd⟩, hdat, h1, I.hok.fresh M.new, rfl, I.bare, raises_own T.exC T.tyC, h⟩
  by_cases hb : b = e
  · have q' : G'.get? b = some o := q
    rw [hb, ge] at q'; cases q'
  · exact (gk b hb).symm.trans q
end
end Sx
set_option Elab.async false
set_option linter.all false
set_option maxRecDepth 100000
set_option maxHeartbeats 4000000
set_option autoImplicit false
namespace Sx
open PySem L2 PyProof.Rows
/-! ### runs that may raise an own error -/
inductive Fx where
  | fl (f : Fl) | ex (c : Nat) (fs : List (Str × D))
abbrev RunX := En → T (Fx × En)
abbrev Exn := Nat × List (Str × D)
/-- the error's dict holds these fields -/
def ErrD (W : Wd) (S : Addr → Prop) (H : Hp) (dv : Option Addr) (fs : List (Str × D)) : Prop := (fs = [] ∧ dv = none) ∨ ∃ dd kvs, dv = some dd ∧ S dd ∧ H dd = some (.xd kvs) ∧ DvP W S H kvs fs
def ExQ (W : Wd) (E : XK) (S P : Addr → Prop) (H : Hp) (x : Exn) : Prop := ∀ H' S' P' dv, Ext S P H S' P' H' → RetOk W S' P' H' → ErrD W S' H' dv x.2 → E (.ref (W.cls x.1)) dv H'
def PostX (W : Wd) (D : Ends) (E : XK) (S P : Addr → Prop) (H : Hp) (r : Fx × En) : Prop := match r.1 with
  | .fl f => Post W D S P H (f, r.2)
  | .ex c fs => ExQ W E S P H (c, fs)
def TVR (W : Wd) (E : XK) (run : RunX) : TS := fun D σ H => ∃ S P en, Rel W S P en σ H ∧ (run en).wp (PostX W D E S P H)
def xLift (r : RunS) : RunX := fun en => (r en).bind fun a => .ret (.fl a.1, a.2)
def xNx : RunX := fun en => .ret (.fl .nx, en)
def xSeq (ra rb : RunX) : RunX := fun en => (ra en).bind fun a => match a.1 with
  | .fl .nx => rb a.2
  | f => .ret (f, a.2)
def xIf (rc : RunT) (ra rb : RunX) : RunX := fun en => (rc en).bind fun a => if a.1 then ra a.2 else rb a.2
/-- expressions that may raise: at the end of all else -/
abbrev RunE := En → T ((Op ⊕ Exn) × En)
def ExR (W : Wd) (E : XK) (σ : L2.St) (S P : Addr → Prop) (H : Hp) (x : Exn) (en : En) : Prop := ∀ H' S' P' dv, Ext S P H S' P' H' → Rel W S' P' en σ H' → ErrD W S' H' dv x.2 → E (.ref (W.cls x.1)) dv H'
def EvQ (W : Wd) (Q : VK) (E : XK) (σ : L2.St) (S P : Addr → Prop) (H : Hp) (r : (Op ⊕ Exn) × En) : Prop := match r.1 with
  | .inl o => ∀ v H' S' P', Ext S P H S' P' H' → Rel W S' P' r.2 σ H' → OpOk W S' P' r.2 σ H' v o → Q v H'
  | .inr x => ExR W E σ S P H x r.2
def TVE (W : Wd) (E : XK) (re : RunE) : TE := fun σ H Q => ∃ S P en, Rel W S P en σ H ∧ (re en).wp (EvQ W Q E σ S P H)
def xDo (re : RunE) : RunX := fun en => (re en).bind fun a => match a.1 with
  | .inl _ => .ret (.fl .nx, a.2)
  | .inr x => .ret (.ex x.1 x.2, a.2)
def xRet (re : RunE) : RunX := fun en => (re en).bind fun a => match a.1 with
  | .inl o => (T.ofOpt (retO o)).bind fun c => .ret (.fl (.rt c), a.2)
  | .inr x => .ret (.ex x.1 x.2, a.2)
def xSet (i : Nat) (re : RunE) : RunX := fun en => (re en).bind fun a => match a.1 with
  | .inl o => (T.ofOpt (putO i (o, a.2))).bind fun e => .ret (.fl .nx, e)
  | .inr x => .ret (.ex x.1 x.2, a.2)
def xRaise (c : Nat) (f : Str) (rs : Runs) : RunX := fun en => (rs en).bind fun a => (T.ofOpt (onlyV a.1)).bind fun ds => match ds with
  | [d] => .ret (.ex c [(f, d)], a.2)
  | _ => .fail
def xRaise0 (c : Nat) : RunX := fun en => .ret (.ex c [], en)
def xForL (t : Tg) (rb : RunX) : List D → RunX
  | [] => fun en => .ret (.fl .nx, en)
  | d :: ds => fun en => (T.ofOpt (t d en)).bind fun en => (rb en).bind fun r => (match r.1 with
      | .fl .nx => xForL t rb ds r.2
      | .fl .ct => xForL t rb ds r.2
      | .fl .bk => .ret (.fl .nx, r.2)
      | .fl (.rt c) => .ret (.fl (.rt c), r.2)
      | .ex c fs => .ret (.ex c fs, r.2))
def xFor (ri : RunI) (t : Tg) (rb : RunX) : RunX := fun en => (ri en).bind fun a => xForL t rb a.1 a.2
section
variable {W : Wd} {S P S' P' : Addr → Prop} {en : En} {σ : L2.St} {H H' : Hp} {X : Cx} {D : Ends} {E : XK} {st : Stmt} {sts : List Stmt} {pos : Pos} {ra : Run} {re : RunE} {rs : RunS} {ru rt : RunX} {e : Expr}
theorem ExQ.ext {x : Exn} (h : ExQ W E S P H x) (y : Ext S P H S' P' H') : ExQ W E S' P' H' x := fun H2 S2 P2 dv e2 ro er => h H2 S2 P2 dv (y.trans e2) ro er
theorem PostX.ext {r : Fx × En} (h : PostX W D E S P H r) (x : Ext S P H S' P' H') : PostX W D E S' P' H' r := by
  obtain ⟨f, en'⟩ := r
  cases f with
  | fl f => exact Post.ext (r := (f, en')) h x
  | ex c fs => exact ExQ.ext h x
theorem Rel.ret (R : Rel W S P en σ H) : RetOk W S P H := ⟨R.sp, R.dom, R.dr, R.drP, R.tb⟩
theorem ps_nox {t : TS} (h : PS X.nox st t) : PS X st t := ⟨fun pins s σ H D I hw =>
  wpAny_mono (h.run pins s σ H D (I.wish _) hw) (fun _ _ q => q.unwish) fun _ _ z => False.elim z⟩
theorem pa_nox {es : List Expr} {t : TA} (h : PA X.nox es t) : PA X es t := ⟨fun pos pins s σ H Q I hw =>
  wpAny_mono (h.run pos pins s σ H Q (I.wish _) hw) (fun _ _ ⟨vs, H', I', r, q⟩ => ⟨vs, H', I'.unwish, r, q⟩) fun _ _ z => False.elim z⟩
theorem rx_lift (h : PS X.nox st (TVS W rs)) : PS X st (TVR W E (xLift rs)) := ps_weak (ps_nox h) fun D σ H ⟨S, P, en, R, w⟩ => ⟨S, P, en, R, (T.wp_bind _ _ _).mp w⟩
theorem rx_lifts (h : PSs X.nox sts (TVS W rs)) : PSs X sts (TVR W E (xLift rs)) := pss_weak h.nox fun D σ H ⟨S, P, en, R, w⟩ => ⟨S, P, en, R, (T.wp_bind _ _ _).mp w⟩
theorem rx_nil : PSs X [] (TVR W E xNx) := pss_weak pss_nil fun D σ H h => by
  obtain ⟨S, P, en, R, w⟩ := h
  exact w σ H S P .refl R
theorem rx_cons (h1 : PS X st (TVR W E ru)) (h2 : PSs X sts (TVR W E rt)) : PSs X (st :: sts) (TVR W E (xSeq ru rt)) := pss_weak (pss_cons h1 h2) fun D σ H h => by
  obtain ⟨S, P, en, R, w⟩ := h
  have w := (T.wp_bind _ _ _).mp w
  refine ⟨S, P, en, R, T.wp_mono w fun r q => ?_⟩
  obtain ⟨f, en1⟩ := r
  cases f with
  | ex c fs => exact q
  | fl f =>
    cases f with
    | nx => exact fun σ' H' S' P' e R' => ⟨S', P', en1, R', T.wp_mono q fun r q => q.ext e⟩
    | bk => exact q
    | ct => exact q
    | rt c => exact q
theorem rx_if {c : Expr} {a b : List Stmt} {rc : RunT} (hc : PT X.nox c (TVT W rc)) (ha : PSs X a (TVR W E ru)) (hb : PSs X b (TVR W E rt)) : PS X (.If c a b pos) (TVR W E (xIf rc ru rt)) := ps_weak (ps_if hc.nox ha hb) fun D σ H h => by
  obtain ⟨S, P, en, R, w⟩ := h
  have w := (T.wp_bind _ _ _).mp w
  refine ⟨S, P, en, R, T.wp_mono w fun r q H' S' P' e R' => ?_⟩
  obtain ⟨c, en1⟩ := r
  cases c with
  | true => exact ⟨S', P', en1, R', T.wp_mono q fun r q => q.ext e⟩
  | false => exact ⟨S', P', en1, R', T.wp_mono q fun r q => q.ext e⟩
theorem rx_do (h : PE X e (TVE W E re)) (hs : swapsWith e none pos.line X.env = pure false := by rfl) : PS X (.Expr e pos) (TVR W E (xDo re)) := ps_weak (ps_expr h hs) fun D σ H h => by
  obtain ⟨S, P, en, R, w⟩ := h
  refine ⟨S, P, en, R, T.wp_mono ((T.wp_bind _ _ _).mp w) fun r q => ?_⟩
  obtain ⟨o, en1⟩ := r
  cases o with
  | inl o => exact fun v H' S' P' e R' ok => q _ H' S' P' e R'
  | inr x => exact fun H' S' P' dv e R' er => q H' S' P' dv e R'.ret er
theorem rx_ret (h : PE X e (TVE W E re)) : PS X (.Return (some e) pos) (TVR W E (xRet re)) := ps_weak (ps_ret h) fun D σ H h => by
  obtain ⟨S, P, en, R, w⟩ := h
  refine ⟨S, P, en, R, T.wp_mono ((T.wp_bind _ _ _).mp w) fun r q => ?_⟩
  obtain ⟨o, en1⟩ := r
  cases o with
  | inr x => exact fun H' S' P' dv e R' er => q H' S' P' dv e R'.ret er
  | inl o =>
    intro v H' S' P' e R' ok
    obtain ⟨c, he, q⟩ := T.wp_ofOpt ((T.wp_bind _ _ _).mp q)
    refine q v H' S' P' e R'.ret ?_
    cases o with
    | v d => cases he; exact ⟨ok.2, fun _ => ok.1, fun z => by cases z⟩
    | fr d =>
      cases he
      obtain ⟨dv, p, u, rfl, hf, hu⟩ := ok
      exact ⟨dv, (fun z => by cases z), fun _ => ⟨p, u, rfl, hf.1, hf.2.1, hf.2.2.1, hu⟩⟩
    | b i => cases he
theorem rx_set {x : Str} {p : Pos} (i : Nat) (hN : X.N.Nodup) (h : PE X e (TVE W E re)) (hi : X.N[i]? = some x := by rfl) (hl : Loc X.env.scope x := by first | exact Or.inl rfl | exact Or.inr rfl) (hf : X.fn x = true ∨ X.env.scope.names.lookup x = some .local := by exact Or.inl rfl)
    (hs : swapsWith e (some (.Name x p)) pos.line X.env = pure false := by rfl) : PS X (.Assign [.Name x p] e pos) (TVR W E (xSet i re)) := ps_weak (ps_set (i := i) hN hi hl h hs hf) fun D σ H h => by
  obtain ⟨S, P, en, R, w⟩ := h
  refine ⟨S, P, en, R, T.wp_mono ((T.wp_bind _ _ _).mp w) fun r q => ?_⟩
  obtain ⟨o, en1⟩ := r
  cases o with
  | inr x => exact fun H' S' P' dv e R' er => q H' S' P' dv e R'.ret er
  | inl o =>
    intro v H' S' P' e R' ok
    obtain ⟨e', he, q⟩ := T.wp_ofOpt ((T.wp_bind _ _ _).mp q)
    exact q _ H' S' P' e (OpOk.put (a := (o, en1)) R' ok he)
theorem rx_raise {fI cc cda : Addr} {c : Nat} {x f : Str} {a : Expr} {ra : Run} {p p1 p2 : Pos} {k : Nat} (hc : X.calm = true) (tk : Takes X fun cls d _ H => E cls d H) (Te : ErK X.prog X.K X.mg (W.cls c) fI cc cda) (hI : ∀ v, ErI X.prog X.w X.K X.mg (W.cls c) fI [v] (some (f, v))) (hm : X.mg x = some (.ref (W.cls c))) (hr : Room (k + 1) X.A) (ha : PA X.nox [a] (TVs W (rCons ra rNil)))
    (hg : Gl X x := by rfl) (hd : (x == ("__debug__" : Str)) = false := by decide) (he : starEach (a :: []) X.env = (false, eval a X.env) :: starEach [] X.env := by rfl) (hpl : (backTo p1 (starEach [] X.env)).any (·.1) = false := by rfl) :
    PS X (.Raise (some (.Call (.Name x p) [a] [] p1)) none p2) (TVR W E (xRaise c f (rCons ra rNil))) := ps_weak (ps_raise hc tk (pmk_er1 Te hI hm hr (pa_nox ha) hg hd he hpl)) fun D σ H h => by
  obtain ⟨S, P, en, R, w⟩ := h
  refine ⟨S, P, en, R, T.wp_mono ((T.wp_bind _ _ _).mp w) fun r q vs H1 S1 P1 e1 R1 pe => ?_⟩
  obtain ⟨ds, hds, q⟩ := T.wp_ofOpt ((T.wp_bind _ _ _).mp q)
  have dl := pe.only hds
  match ds, q with
  | [], q => exact q.elim
  | _ :: _ :: _, q => exact q.elim
  | [d], q =>
    match vs, dl with
    | [v], dl =>
      obtain ⟨t1, dv⟩ : Tin S1 v d ∧ Dv W S1 H1 v d := by
        cases dl with
        | cons t dv _ => exact ⟨t, dv⟩
      refine ⟨v, rfl, fun dd hdd => ?_⟩
      have dom := R1.dom
      have keepS : ∀ a, S1 a → upd H1 dd (.xd [(f, v)]) a = H1 a := fun a s => upd_ne fun e => by obtain ⟨o, z⟩ := dom a s; rw [e, hdd] at z; cases z
      obtain ⟨e2, R2⟩ := R1.same (H' := upd H1 dd (.xd [(f, v)])) (upd_keeps hdd) (S' := add S1 dd) (fun a h => .inl h) (fun a h => h.imp id fun e => by rw [e]; exact hdd) (fun a h => h.elim (fun h => by obtain ⟨o, z⟩ := dom a h; exact ⟨o, upd_keeps hdd a o z⟩) fun e => by subst e; exact ⟨_, upd_same⟩)
      refine q _ _ _ _ (e1.trans e2) R2.ret (.inr ⟨dd, _, rfl, .inr rfl, upd_same, .cons (t1.mono fun a h => .inl h) (dv.mono (fun a h => .inl h) keepS ?_) .nil⟩)
      cases v <;> cases d <;> first | exact trivial | exact keepS _ t1
theorem rx_raise0 {fI cc cda : Addr} {c : Nat} {x : Str} {p p1 p2 : Pos} {k : Nat} (hc : X.calm = true) (tk : Takes X fun cls d _ H => E cls d H) (Te : ErK X.prog X.K X.mg (W.cls c) fI cc cda) (hI : ErI X.prog X.w X.K X.mg (W.cls c) fI [] none) (hm : X.mg x = some (.ref (W.cls c))) (hr : Room (k + 1) X.A)
    (hg : Gl X x := by rfl) (hd : (x == ("__debug__" : Str)) = false := by decide) :
    PS X (.Raise (some (.Call (.Name x p) [] [] p1)) none p2) (TVR W E (xRaise0 c)) := ps_weak (ps_raise hc tk (pmk_er0 Te hI hm hr hg hd)) fun D σ H h => by
  obtain ⟨S, P, en, R, w⟩ := h
  exact w H S P none .refl R.ret (.inl ⟨rfl, rfl⟩)
theorem rx_for {tg iter : Expr} {a : List Stmt} {ri : RunI} {g : TG} {t : Tg} {is : List Nat} (hp : PassesOwn (model X.prog X.w) X.A X.env X.xe) (hc : X.calm = true) (hi : PI X tg iter (TVI W ri none)) (hg : PG X tg g) (gk : GOk W g t is) (hb : PSs X a (TVR W E ru)) (hs : ∀ x, foldedSetIterable iter X.env x = pure x := by intro _; rfl) :
    PS X (.For tg iter a [] pos) (TVR W E (xFor ri t ru)) := ps_weak (ps_for hp hc hi hg hb (hs := hs)) fun D σ H h => by
  obtain ⟨S, P, en, R, w⟩ := h
  have w := (T.wp_bind _ _ _).mp w
  refine ⟨S, P, en, R, T.wp_mono w fun r q J H1 S1 P1 Pw e1 R1 hPw hun hrt wk => ?_⟩
  obtain rfl := hrt rfl
  refine ⟨fun i m σ2 H2 => i ≤ r.1.length ∧ m = r.1.length - i ∧ ∃ S2 P2 en2, Ext S1 Pw H1 S2 P2 H2 ∧ Rel W S2 P2 en2 σ2 H2 ∧ (xForL t ru (r.1.drop i) en2).wp (PostX W D E S P H), ⟨_, Nat.zero_le _, rfl, S1, Pw, r.2, .refl, R1, q⟩, ?_⟩
  rintro i m σ2 H2 ⟨hi, rfl, S2, P2, en2, e2, R2, w2⟩
  by_cases hlt : i < r.1.length
  · refine .inr ⟨wk.go i H2 (fun a h => e2.h a h) hlt, fun σ3 H3 => ∃ S3 P3 en3, Ext S1 Pw H1 S3 P3 H3 ∧ Rel W S3 P3 en3 σ3 H3 ∧ (xForL t ru (r.1.drop (i + 1)) en3).wp (PostX W D E S P H), fun σ3 H3 z => ⟨r.1.length - (i + 1), by omega, hlt, rfl, z⟩, fun x H3 y => ?_⟩
    obtain ⟨d, S3, P3, hd, e3, R3, dz⟩ := wk.turn R2 e2.s (fun a h => ⟨e2.p a h, e2.h a h⟩) hlt y
    have hdrop : r.1.drop i = d :: r.1.drop (i + 1) := by
      rw [List.drop_eq_getElem_cons hlt]
      congr 1
      have := List.getElem?_eq_getElem hlt
      rw [hd] at this
      exact (Option.some.inj this).symm
    rw [hdrop] at w2
    obtain ⟨en3, ht, w3⟩ := T.wp_ofOpt ((T.wp_bind _ _ _).mp w2)
    refine gk S3 P3 en2 en3 x d σ2 H3 _ R3 dz ht fun σ3 _ _ R4 => ?_
    have w3 := (T.wp_bind _ _ _).mp w3
    have e13 := e2.trans e3
    refine ⟨S3, P3, en3, R4, T.wp_mono w3 fun r4 q4 => ?_⟩
    obtain ⟨f, en4⟩ := r4
    cases f with
    | ex c fs => exact ExQ.ext q4 (e1.trans e13)
    | fl f =>
      cases f with
      | nx => exact fun σ5 H5 S5 P5 e5 R5 => ⟨S5, P5, en4, e13.trans e5, R5, q4⟩
      | ct => exact fun σ5 H5 S5 P5 e5 R5 => ⟨S5, P5, en4, e13.trans e5, R5, q4⟩
      | bk =>
        intro σ5 H5 S5 P5 e5 R5
        obtain ⟨P6, _, e6, R6⟩ := hun S5 P5 en4 σ5 H5 (.inl rfl) (e13.trans e5) R5
        exact q4 σ5 H5 S5 P6 (e1.trans e6) R6
      | rt c =>
        intro v H5 S5 P5 e5 o5 ok
        exact q4 v H5 S5 P5 (e1.trans (e13.trans e5)) o5 ok
  · have ei : i = r.1.length := by omega
    subst ei
    rw [List.drop_length] at w2
    obtain ⟨P3, _, e3, R3⟩ := hun S2 P2 en2 σ2 H2 (.inl rfl) e2 R2
    exact .inl ⟨wk.stop _ H2 (fun a h => e2.h a h) (Nat.le_refl _), w2 σ2 H2 S2 P3 (e1.trans e3) R3⟩
end
end Sx
set_option Elab.async false
set_option linter.all false
set_option maxRecDepth 100000
set_option maxHeartbeats 4000000
set_option autoImplicit false
namespace Sx
open PySem L2 PyProof.Rows
/-! ### defs that may raise an own error -/
abbrev Out := (Bool × D) ⊕ Exn
abbrev FnE := List D → T Out
def OutQ (W : Wd) (Q : VK) (E : XK) (S P : Addr → Prop) (H : Hp) (o : Out) : Prop := match o with
  | .inl c => ∀ v H' S' P', Ext S P H S' P' H' → RetOk W S' P' H' → ROk W S' P' H' v c → Q v H'
  | .inr x => ExQ W E S P H x
def spX (K : PySem.W.Frag) (cls : CT) (n : Nat) (f : FnE) : Sp := fun vs H Q E => vs.length = n ∧ ∃ W S ds, W.K = K ∧ W.cls = cls ∧ DrawOk W H ∧ LamX.Tabs W.tb H ∧ DomS S H ∧ ¬ S W.da ∧ NPb W S ∧ DvL W S H vs ds ∧
  (f ds).wp (OutQ W Q E S (Pall W H) H)
def outFx : Fx → Option Out
  | .fl f => (flOf f).map .inl
  | .ex c fs => some (.inr (c, fs))
def runFnX (n : Nat) (run : RunX) : FnE := fun ds => (run (en0 n ds)).bind fun r => T.ofOpt (outFx r.1)
def outO : Out → Op ⊕ Exn
  | .inl c => .inl (mkO c)
  | .inr x => .inr x
def eCall (f : FnE) (rs : Runs) : RunE := fun en => (rs en).bind fun a => (T.ofOpt (onlyV a.1)).bind fun ds => (f ds).bind fun c => .ret (outO c, a.2)
def eMeth (c0 : Nat) (m : Str) (f : FnE) (ro : Run) (rs : Runs) : RunE := fun en => (ro en).bind fun o => match o.1.fz with
  | .v d => if ((clsN c0 d).map fun fs => (fs.lookup m).isNone) = some true then (rs o.2).bind fun a => (T.ofOpt (onlyV a.1)).bind fun ds => (f (d :: ds)).bind fun c => .ret (outO c, a.2) else .fail
  | _ => .fail
section
variable {W : Wd} {S P S' P' : Addr → Prop} {en : En} {σ : L2.St} {H H' : Hp} {X : Cx} {v : V} {c : Bool × D} {E : XK}
/-- behind a call that raised -/
theorem Rel.callX (R : Rel W S P en σ H) (e : Ext S (Pall W H) H S' P' H') (ro : RetOk W S' P' H') : Ext S P H S' (fun a => P a ∨ S' a) H' ∧ Rel W S' (fun a => P a ∨ S' a) en σ H' := by
  obtain ⟨e2, R2, _⟩ := R.call e ro (v := .non) (c := (false, .non)) ⟨.non, fun _ => trivial, fun z => by cases z⟩
  exact ⟨e2, R2⟩
theorem OutQ.of_call {o : Out} {Q : VK} {S1 P1 : Addr → Prop} {H1 : Hp} {en1 : En} (R1 : Rel W S1 P1 en1 σ H1) (e1 : Ext S P H S1 P1 H1)
    (q : EvQ W Q E σ S P H (outO o, en1)) : OutQ W Q E S1 (Pall W H1) H1 o := by
  cases o with
  | inl c =>
    intro v H' S' P' e ro ok
    obtain ⟨e2, R2, ok2⟩ := R1.call e ro ok
    exact q v H' S' _ (e1.trans e2) R2 ok2
  | inr x =>
    intro H' S' P' dv e ro er
    obtain ⟨e2, R2⟩ := R1.callX e ro
    exact q H' S' _ dv (e1.trans e2) R2 er
theorem tv_callX {n : Nat} {f : FnE} {rs : Runs} {cls : CT} (hcl : W.cls = cls) {Q : VK} (hn : LenR rs n) (h : TVE W E (eCall f rs) σ H Q) : tCall (spX W.K cls n f) [] E (TVs W rs) σ H Q := by
  obtain ⟨S, P, en, R, w⟩ := h
  have w := T.wp_all ((T.wp_bind _ _ _).mp w) (hn en)
  refine ⟨S, P, en, R, T.wp_mono w fun r ⟨q, len⟩ vs H1 S1 P1 e1 R1 pe => ?_⟩
  obtain ⟨ds, hds, q⟩ := T.wp_ofOpt ((T.wp_bind _ _ _).mp q)
  have dl := pe.only hds
  have q := (T.wp_bind _ _ _).mp q
  rw [List.append_nil]
  exact ⟨by rw [dl.len, onlyV_len hds, len], W, S1, ds, rfl, hcl, R1.dr, R1.tb, R1.dom, fun w => R1.drP.1 (R1.sp _ w), R1.drP.2.sub R1.sp, dl, T.wp_mono q fun o q => OutQ.of_call R1 e1 q⟩
theorem tv_methX {c0 n : Nat} {m : Str} {f : FnE} {ro : Run} {rs : Runs} {cls : CT} {Q : VK} (hcl : W.cls = cls) (hn : LenR rs n) (h : TVE W E (eMeth c0 m f ro rs) σ H Q) : tMeth (W.cls c0) m (spX W.K cls (n + 1) f) [] E (TV W ro) (TVs W rs) σ H Q := by
  obtain ⟨S, P, en, R, w⟩ := h
  refine TV.use R w fun o v H1 S1 P1 e1 R1 pe q => ?_
  generalize ho : o.1.fz = o' at pe q
  cases o' with
  | fr d => exact pe.elim
  | b i => exact q.elim
  | v d =>
    have q : (if ((clsN c0 d).map fun fs => (fs.lookup m).isNone) = some true then _ else _ : T ((Op ⊕ Exn) × En)).wp _ := q
    by_cases hc : ((clsN c0 d).map fun fs => (fs.lookup m).isNone) = some true
    · rw [if_pos hc] at q
      obtain ⟨fs, e2, e3⟩ := Option.map_eq_some_iff.mp hc
      cases clsN_some e2
      obtain ⟨a, dx, fv, rfl, ha, dp⟩ := pe.2.obj_at
      refine ⟨a, dx, fv, rfl, ha, (dp.get (f := m)).2 (Option.isNone_iff_eq_none.mp e3), S1, P1, o.2, R1, ?_⟩
      have q := T.wp_all ((T.wp_bind _ _ _).mp q) (hn o.2)
      refine T.wp_mono q fun r ⟨q, len⟩ vs H2 S2 P2 e4 R2 pe2 => ?_
      obtain ⟨ds, hds, q⟩ := T.wp_ofOpt ((T.wp_bind _ _ _).mp q)
      have dl := pe2.only hds
      have q := (T.wp_bind _ _ _).mp q
      have dz := R1.top e4 pe
      rw [List.append_nil]
      exact ⟨by rw [List.length_cons, dl.len, onlyV_len hds, len], W, S2, .obj c0 fs :: ds, rfl, hcl, R2.dr, R2.tb, R2.dom, fun w => R2.drP.1 (R2.sp _ w), R2.drP.2.sub R2.sp, .cons dz.1 dz.2 dl, T.wp_mono q fun o q => OutQ.of_call R2 (e1.trans e4) q⟩
    · rw [if_neg hc] at q
      exact q.elim
theorem pass_tk {W' : WX} (tk : Takes X W') (hW : ∀ cls d σ H, E cls d H → W' cls d σ H) : Passes (L2.CX X.prog X.w) X E := passes_call tk hW
variable {k n c0 : Nat} {f : Addr} {fd : FuncData} {ps : List Str} {fn : FnE} {cls : CT} {x m : Str} {q pos apos : Pos} {e o : Expr} {es : List Expr} {ro : Run} {rs : Runs}
theorem rx_call (F : FnG X.prog X.w X.K X.mg X.base (L2.CX X.prog X.w) k f fd ps (spX X.K cls n fn)) (hx : Passes (L2.CX X.prog X.w) X E) (hcl : W.cls = cls) (hK : X.K = W.K) (hr : Room k X.A) (hg : NoG X.A) (hm : X.mg x = some (.ref f)) (hk : PySem.W.keepIn X.K (.ref f) = true) (hb : Binds X.K fd ps []) (ha : PA X.nox (e :: es) (TVs W rs)) (hn : LenR rs n)
    (gl : Gl X x := by rfl) (hdb : (x == ("__debug__" : Str)) = false := by decide) (h1 : starEach (e :: es) X.env = (false, eval e X.env) :: starEach es X.env := by rfl) (h2 : (backTo pos (starEach es X.env)).any (·.1) = false := by rfl) :
    PE X (.Call (.Name x q) (e :: es) [] pos) (TVE W E (eCall fn rs)) := pe_weak (pe_callG F hr hg gl hm hk hb .nil hx (pa_nox ha) hdb h1 h2) fun _ _ _ h => by rw [hK]; exact tv_callX hcl hn h
theorem rx_meth {pl : Sem Bool} (F : FnG X.prog X.w X.K X.mg X.base (L2.CX X.prog X.w) k f fd ps (spX X.K cls (n + 1) fn)) (hx : Passes (L2.CX X.prog X.w) X E) (c : Cls X.K (cls c0)) (hm : Meth X.K (cls c0) m f) (hcl : W.cls = cls) (hK : X.K = W.K) (hr : Room k X.A) (hg : NoG X.A) (hb : Binds X.K fd ps []) (ho : PE X.nox o (TV W ro)) (ha : PA X.nox (e :: es) (TVs W rs)) (hn : LenR rs n)
    (h1 : starEach (e :: es) X.env = (false, eval e X.env) :: starEach es X.env := by rfl) (h2 : (backTo pos (starEach es X.env)).any (·.1) = false := by rfl)
    (h3 : eval (.Call (.Attribute o m apos) (e :: es) [] pos) X.env = (do
      let y ← eval o X.env
      standAt apos.atName
      let (z, first) ← holding [y] (getMethod y m pl)
      callWith pos z first (backTo pos (starEach (e :: es) X.env)) (backToKw pos (keywordEach [] X.env))) := by rfl) : PE X (.Call (.Attribute o m apos) (e :: es) [] pos) (TVE W E (eMeth c0 m fn ro rs)) := by
  subst hcl
  exact pe_weak (pe_methG (pl := pl) ho.nox c hm F hr hg hb .nil hx (pa_nox ha) h1 h2 h3) fun _ _ _ h => by rw [hK]; exact tv_methX rfl hn h
end
section
variable {Pr : Program} {w : World} {K : PySem.W.Frag} {mg : Str → Option Value} {base : Heap} {cls : CT}
/-- a def whose body does what run does -/
theorem fnX_ok {x qual : Str} {st : Stmt} {f : Addr} {fd : FuncData} {N ps : List Str} {k : Nat} {run : RunX} (F : Fun K x qual st f fd) (Sc : FnScope N ps (defScope st))
    (hb : ∀ (cdv : Value) (A : Around) (outer : List PySem.Env) (s : Shared) (H : Hp) (E : XK), Room k (A.deeper (envOfC qual (defScope st) s.heap.objs.size f cdv)) → NoG (A.deeper (envOfC qual (defScope st) s.heap.objs.size f cdv)) → ∀ W : Wd, W.K = K → W.cls = cls →
      PSs (cxOf (L2.CX Pr w) Pr w K mg base N qual (defScope st) f cdv A outer s H E) (defBody st) (TVR W E run)) : FnG Pr w K mg base (L2.CX Pr w) (k + 1) f fd ps (spX K cls ps.length (runFnX N.length run)) := by
  refine fnG_of F Sc (fun vs H Q E h => h.1) fun cdv A outer s H vs Q E hr hg h => ?_
  obtain ⟨hl, W, S, ds, hK, hc, dr, tb, dom, n1, n2, dl, wpq⟩ := h
  refine ⟨_, hb cdv A outer s H E hr hg W hK hc, S, Pall W H, en0 N.length ds, ?_, ?_⟩
  · have hd : ds.length = ps.length := dl.len.symm.trans hl
    refine ⟨fun a h => ⟨dom a h, fun z => n1 (z ▸ h), n2.nb h⟩, fun a h => h.1, fun i f d e => ?_, fun i j f g d e v h1 h2 h3 => ?_, ?_, dr, ⟨fun h => h.2.1 rfl, ⟨fun h => h.2.2.1 rfl, fun x hx h => h.2.2.2 x hx rfl⟩⟩, tb⟩
    · obtain ⟨rfl, hd'⟩ := en0_get e
      obtain ⟨v, hv, dz⟩ := (dl.at (i := i)).2 d hd'
      refine ⟨v, ?_, dz.2, fun _ => dz.1, fun z => absurd rfl z⟩
      unfold L2.start
      rw [List.getElem?_append_left (by simpa using lt_of_get hv), List.getElem?_map, hv]
      rfl
    · exact absurd (en0_get h1).1 h3
    · unfold en0 L2.start
      simp only [List.length_append, List.length_map, List.length_replicate, dl.len]
  · have wpq := (T.wp_bind _ _ _).mp wpq
    refine T.wp_mono wpq fun r q => ?_
    obtain ⟨fx, en⟩ := r
    cases fx with
    | ex c fs => exact q
    | fl fl =>
      cases fl with
      | nx => exact fun σ' H' S' P' e R' => q .non H' S' P' e R'.ret ⟨.non, fun _ => trivial, fun z => by cases z⟩
      | rt c => exact fun v H' S' P' e ro ok => q v H' S' P' e ro ok
      | bk => exact q.elim
      | ct => exact q.elim
end
end Sx
set_option Elab.async false
set_option linter.all false
set_option maxRecDepth 100000
set_option maxHeartbeats 4000000
set_option autoImplicit false
namespace Sx
open PySem L2 PySem.Spec PyProof.Rows
/-! ### a caught error becomes a known object -/
section
variable {X : Cx} {pins : List (Addr × Obj)} {σ : L2.St} {H : Hp} {s : Shared}
theorem inv_ghost {a : Addr} {oe : Obj} {vs : Array Value} {cls : Value} {dv : Option Addr} (I : Inv X pins σ H s) (ha : s.heap.get? a = some oe) (hz : Zc cls dv oe) (hd : oe.data = .fields vs) (na : H a = none) (new : ∀ o, X.s_0.heap.get? a ≠ some o) (np : ∀ p ∈ X.pn ++ pins, p.1 ≠ a) :
    Inv X pins σ (upd H a (ExcO cls dv a)) s := by
  have old : ∀ {b u}, H b = some u → upd H a (ExcO cls dv a) b = some u := fun {b u} e => (upd_ne fun z => by rw [z, na] at e; cases e).trans e
  have off : ∀ {b}, b ≠ a → H b = none → upd H a (ExcO cls dv a) b = none := fun {b} ne e => (upd_ne ne).trans e
  refine ⟨I.ok, I.os, I.bare, ⟨I.base.keep, I.base.slot, fun b o e n hx => off (fun z => new o (z ▸ e)) (I.base.free b o e n hx), I.base.there, fun b xs e => old (I.base.tups b xs e), fun b o xs e => old (I.base.frzs b o xs e), fun b ps e => ?_⟩, I.loc, I.cell, ?_, fun y c e => ?_, fun p hp => ?_, fun b u e => ?_, I.len⟩
  · obtain ⟨more, z⟩ := I.base.tbls b ps e
    exact ⟨more, old z⟩
  · refine off (fun z => ?_) I.free
    obtain ⟨m, ⟨o, es, ep, ho, hdat, _⟩, _⟩ := I.loc
    rw [z, ha] at ho
    cases ho
    rw [hd] at hdat
    cases hdat
  · refine off (fun z => ?_) (I.freeC y c e)
    obtain ⟨w, o, ho, hdat⟩ := I.cell y c e
    rw [z, ha] at ho
    cases ho
    rw [hd] at hdat
    cases hdat
  · obtain ⟨g1, g2, g3⟩ := I.pin p hp
    exact ⟨g1, off (np p hp) g2, g3⟩
  · by_cases hb : b = a
    · subst hb
      rw [upd_same] at e
      cases e
      exact ⟨⟨oe, ha, hz, vs, hd⟩, ⟨oe, ha⟩, fun h1 h2 ⟨o1, q1, q2⟩ k => ⟨o1, k _ q1, q2⟩⟩
    · rw [upd_ne hb] at e
      exact (I.hok b u e).stay (fun _ _ _ q => q) (fun _ q => old q) fun _ _ q => old q
/-- what 'except x as n: m = n' wishes of an error of the body (it catches each of them) -/
def wH (K : PySem.W.Frag) (c : Value) (i j : Nat) (D : Ends) : WX := fun cls d σ H => PySem.W.exmOne K cls c = some true ∧
  ∀ a, H a = none → D.nx (((σ.set i (some (.ref a))).set j (some (.ref a))).set i none) (upd H a (ExcO cls d a))
theorem ps_try_hold {i j : Nat} {x n m : Str} {c : Value} {body : List Stmt} {tb : WX → TS} {np p1 p2 p3 pos pos' : Pos} (stk : X.stack = X.env :: X.outer) (frm : X.env.frame = some X.env.locals) (hex : X.ex = []) (nd : X.N.Nodup) (hi : X.N[i]? = some n) (hj : X.N[j]? = some m) (ln : X.env.kindOf n = some .local) (lm : X.env.kindOf m = some .local) (hc : Names X x c)
    (dn : (n == ("__debug__" : Str)) = false) (dn2 : (n == ("__classdict__" : Str)) = false) (sw : swapsWith (.Name n p2) (some (.Name m p1)) p3.line X.env = pure false)
    (hb : ∀ (W : WX) (pn : List (Addr × Obj)) (xe : Value → Shared → Prop), Takes (X.tr pn xe) W → PSs (X.tr pn xe) body (tb W)) :
    PS X (.Try body [.ExceptHandler (some (.Name x np)) (some n) [.Assign [.Name m p1] (.Name n p2) p3] pos'] [] [] pos) (fun D σ H => tb (wH X.K c i j D) D σ H) := by
  refine ⟨fun pins s σ H D I h => ?_⟩
  have okX := I.ok
  have frs' : X.A.frames = some (X.env :: X.outer) := by rw [okX.frames, stk]
  refine wpAny_Try_except ?_
  refine wpAny_mono ((hb (wH X.K c i j D) (X.pn ++ pins) (fun er t1 => wpAny (model X.prog X.w) X.A (noteFrame er X.env) (fun _ t2 => wpAny (model X.prog X.w) X.A (setFlight er none) (fun _ t3 =>
    wpAny (model X.prog X.w) X.A (handleBy er X.env [.ExceptHandler (some (.Name x np)) (some n) [.Assign [.Name m p1] (.Name n p2) p3] pos']) (SP X pins D) X.xe t3) X.xe t2) X.xe t1) (fun u t fly => ?_)).run [] s σ H D (I.toTry _) h) (fun fl t sp => ?_) (fun _ _ z => z)
  · obtain ⟨a, B, sI, pinI, σ1, H1, cls, dv, rfl, JI, ground, up, sky, na, os, ag, exm, go⟩ := fly
    have J : Inv X pins σ1 H1 sI := JI.ofTry okX
    have sky1 : Sky B (X.env :: X.outer) a (Zc cls dv) X.env.locals t.heap := by rw [← stk]; exact sky
    show wpAny (model X.prog X.w) X.A (noteFrame (.ref a) X.env) _ _ _
    refine Sky.land Zc.steady frs' frm sky1 fun h3 fly3 up3 => ?_
    have J3 : Inv X pins σ1 H1 { t with heap := h3 } := J.landed ground fly3.1 (up.trans up3) os ag
    -- the error is no frame, and is new
    have noFrame : ∀ {h : Heap} {o : Obj} {vs : Array Value}, h.FunFrames B (X.env :: X.outer) → h.get? a = some o → o.data = .fields vs → a ∉ frs (X.env :: X.outer) := fun {h o vs} ff e dd inF => by
      obtain ⟨_, o2, e2, nofld⟩ := ff.mem inF
      rw [e] at e2
      cases e2
      exact nofld _ dd
    obtain ⟨o3, vs3, at3, z3, dat3⟩ := fly3.there
    have aF := noFrame fly3.2.2.1 at3 dat3
    have aL : a ≠ X.env.locals := fun z => aF (List.mem_filterMap.mpr ⟨X.env, List.mem_cons_self, by rw [frm, z]⟩)
    have aFs : a ∉ X.fs := fun inF => by
      obtain ⟨ev, he, q⟩ := List.mem_filterMap.mp inF
      exact aF (List.mem_filterMap.mpr ⟨ev, List.mem_cons_of_mem _ he, q⟩)
    have aNew : ∀ o, sI.heap.get? a ≠ some o := fun o e => by
      have := ground a o e (by rw [stk]; exact aF)
      rw [fly3.2.1] at this
      cases this
    have aOld : ∀ o, X.s_0.heap.get? a ≠ some o := fun o e => by
      obtain ⟨o2, e2⟩ := J.base.there a o e (by rw [hex]; simp)
      exact aNew o2 e2
    have aPin : ∀ p ∈ X.pn ++ pins, p.1 ≠ a := fun p hp z => aNew p.2 (z ▸ (J.pin p hp).1)
    have S3 := J3.suite at3 dat3 na aL aFs
    refine wpAny_handleBy_cons (codeAny_handlers_test ?_) (by intro q; cases q)
    have tyE : PySem.W.Looks (model X.prog X.w) h3 (typeOf (.ref a)) cls := fun A Q E s k q => wpAny_typeOf_ref (k _ _ at3) (by rw [z3.1]; exact q)
    have matches_ := PySem.W.exm_one (M := model X.prog X.w) (J3.kIn) tyE exm
    have named : ∀ {Q : Value → Shared → Prop} {E : Value → Shared → Prop}, Q c { t with heap := h3 } → wpAny (model X.prog X.w) (X.A.mark (some (.ref a))) (eval (.Name x np) X.env) Q E { t with heap := h3 } := fun {Q E} q => by
      obtain ⟨gl, db, hm | ⟨hm, hv, nn⟩⟩ := hc
      · exact ld_glob (X := X.suite a ((a, o3) :: (X.pn ++ pins))) S3 gl hm q db
      · exact ld_blt (X := X.suite a ((a, o3) :: (X.pn ++ pins))) S3 gl hm hv q nn db
    refine named (matches_.here ?_)
    refine codeAny_handlers_suite_as ?_
    refine HandSPX.lands_againZ fly3 fun h4 fly4 up4 => ?_
    have J4 : Inv X pins σ1 H1 { t with heap := h4 } := J.landed ground fly4.1 ((up.trans up3).trans up4) os ag
    obtain ⟨o4, vs4, at4, z4, dat4⟩ := fly4.there
    have S4 := J4.suite at4 dat4 na aL aFs
    refine store_ok (X := X.suite a ((a, o4) :: (X.pn ++ pins))) (v := .ref a) S4 nd hi (.inl ln) rfl (fun s5 S5 => ?_) (.inr ln)
    have li : i < σ1.length := by
      rw [J.len]
      exact (List.getElem?_eq_some_iff.mp hi).1
    have rd : PSs (X.suite a ((a, o4) :: (X.pn ++ pins))) [.Assign [.Name m p1] (.Name n p2) p3] (tAsg (tVar i) (gName j)) :=
      pss_one (ps_set (X := X.suite a ((a, o4) :: (X.pn ++ pins))) (i := j) nd hj (.inl lm) (pe_var (X := X.suite a ((a, o4) :: (X.pn ++ pins))) (i := i) hi (.inl ln) dn dn2) sw (.inr lm))
    refine wpAny_mono (rd.run [] s5 _ H1 { nx := fun σ6 H6 => σ6 = (σ1.set i (some (.ref a))).set j (some (.ref a)) ∧ H6 = H1, rt := fun _ _ => False } S5 ⟨.ref a, by rw [List.getElem?_set_self li], rfl, rfl⟩) (fun f s6 sp => ?_) (fun _ _ z => z.elim)
    cases f with
    | next =>
      obtain ⟨σ6, H6, S6, rfl, rfl⟩ := sp
      have S7 : Inv (X.tr ((a, o4) :: (X.pn ++ pins)) X.xe) [] _ H6 s6 := ⟨okX.toTry _ _, S6.os, S6.bare, S6.base, S6.loc, S6.cell, S6.free, S6.freeC, S6.pin, S6.hok, S6.len⟩
      refine gone_ok (X := X.tr ((a, o4) :: (X.pn ++ pins)) X.xe) S7 nd hi ln fun s7 S8 => ?_
      have at8 := (S8.pin (a, o4) (List.mem_append_left _ List.mem_cons_self)).1
      have J8 : Inv X pins _ H6 s7 := ⟨okX, S8.os, S8.bare, S8.base, S8.loc, S8.cell, S8.free, S8.freeC, fun p hp => S8.pin p (List.mem_append_left _ (List.mem_cons_of_mem _ hp)), S8.hok, S8.len⟩
      exact ⟨_, _, inv_ghost J8 at8 z4 dat4 na aOld aPin, go a na⟩
    | ret u => obtain ⟨_, _, _, _, _, z⟩ := sp; exact z.elim
    | brk => obtain ⟨_, _, _, z⟩ := sp; exact z.elim
    | cont => obtain ⟨_, _, _, z⟩ := sp; exact z.elim
  · cases fl with
    | next =>
      obtain ⟨σ2, H2, J, q⟩ := sp
      exact wpAny_execs_nil ⟨σ2, H2, J.ofTry okX, q⟩
    | brk =>
      obtain ⟨σ2, H2, J, q⟩ := sp
      exact ⟨σ2, H2, J.ofTry okX, q⟩
    | cont =>
      obtain ⟨σ2, H2, J, q⟩ := sp
      exact ⟨σ2, H2, J.ofTry okX, q⟩
    | ret u =>
      obtain ⟨v, σ2, H2, J, r, q⟩ := sp
      exact ⟨v, σ2, H2, J.ofTry okX, r, q⟩
end
end Sx
set_option Elab.async false
set_option linter.all false
set_option maxRecDepth 100000
set_option maxHeartbeats 4000000
set_option autoImplicit false
namespace Sx
open PySem L2 PySem.Spec PyProof.Rows
section
variable {X : Cx} {pins : List (Addr × Obj)} {σ : L2.St} {H : Hp} {s : Shared}
/-- x(), x the def's own argument, a lambda of the def below (whose names' values are σ); Z: the context of the def that calls it -/
theorem act_lam {CXg : CXT} {Eg : XK} {Ng : List Str} {qg : Str} {sg : Scope} {g f c' : Addr} {cdg pm ctv : Value} {params : Arguments} {body : Expr} {scope : Scope} {k i : Nat} {a : Str} {pn : List (Addr × Obj)} {xe : Value → Shared → Prop} {W' : WX} {tb : XK → TE} {p1 p2 : Pos}
    (I : Inv X pins σ H s) (L : LamX.LamS X.env.scope scope) (atf : s.heap.get? f = some (lmO (X.env.qual ++ "<lambda>") params body scope (cloFrom X.env.cells scope.names []) pm c' ctv)) (nf : H f = none) (noFr : f ∉ frs X.stack)
    (bind0 : bindArgs (PySem.W.kla_fn "<lambda>" (X.env.qual ++ "<lambda>") params body scope (cloFrom X.env.cells scope.names []) pm (.ref c') ctv) ⟨[], []⟩ = pure [])
    (tk : Takes ((cxOf CXg X.prog X.w X.K X.mg X.base Ng qg sg g cdg X.A X.stack s H Eg).tr pn xe) W') (hr : Room (k + 1) (X.A.deeper (envOfC qg sg s.heap.objs.size g cdg))) (ng : NoG X.A)
    (read : ∀ (E : XK) (A : Around) (outer : List PySem.Env) (t : Shared) (G : Hp), Room k (A.deeper (LamX.lamEnv X scope t.heap.objs.size f c')) → NoG A → PE (LamX.lamCx X A outer t G E scope f c') body (tb E))
    (hN : Ng[i]? = some a) (hv : Vis sg a) (d1 : (a == ("__debug__" : Str)) = false) (d2 : (a == ("__classdict__" : Str)) = false) :
    PE ((cxOf CXg X.prog X.w X.K X.mg X.base Ng qg sg g cdg X.A X.stack s H Eg).tr pn xe) (.Call (.Name a p1) [] [] p2)
      (fun τ G Q => τ[i]? = some (some (.ref f)) ∧ G c' = some (LamX.CodeO c' (X.env.qual ++ "<lambda>")) ∧ tb (fun cls d G' => W' cls d τ G') σ G Q) := by
  refine ⟨fun pinsZ t τ G Q IZ h => ?_⟩
  obtain ⟨h1, h2, h3⟩ := h
  refine wpAny_Call_Name_kw (thn ((pe_var (pos := p1) (i := i) hN hv d1 d2).run pinsZ t τ G (fun v G1 => v = .ref f ∧ G1 = G) IZ ⟨.ref f, h1, rfl, rfl⟩) fun u t1 ⟨v, G1, I1, rv, ev, eG⟩ => ?_)
  subst ev
  rw [eG] at I1
  cases (show u = Value.ref f from rv)
  have atf1 : t1.heap.get? f = some (lmO (X.env.qual ++ "<lambda>") params body scope (cloFrom X.env.cells scope.names []) pm c' ctv) := I1.base.keep f _ atf nf noFr (by show f ∉ ([] : List Addr); simp)
  refine PySem.W.callWith_F0 ⟨_, _, _, _, atf1⟩ ?_
  have un : Un (frs X.stack) [] H G s.heap t1.heap := I1.base
  obtain ⟨⟨oc, fs, tq, hoc, hdat, hname⟩, _, _⟩ := I1.hok c' _ h2
  have run : codeAny (model X.prog X.w) (X.A.deeper (envOfC qg sg s.heap.objs.size g cdg)) (.call (.ref f) ⟨[], []⟩) (CR (L2.CX X.prog X.w) (envOfC qg sg s.heap.objs.size g cdg :: X.stack) X.prog X.w G t1 Q (fun cls d G' => W' cls d τ G')) t1 := by
    refine PySem.W.kla_callFunE hr.depth atf1 rfl L.co L.gen rfl ⟨c', oc, fs, tq, rfl, hoc, hdat, hname⟩ ?_
    rw [bind0]
    refine wpAny_pure (wpAny_newFunctionEnv (fun y hy => (L.own y hy).2) (fun y hy => by cases hy) (fun h₁ hns hsb => ⟨I1.nolimit.fresh _ hsb, ?_⟩) L.kind)
    have kp : ∀ b o, t1.heap.get? b = some o → h₁.get? b = some o := fun b o e => hsb.extBut b o (Nat.ne_of_lt (Heap.lt_size e)) (Heap.get?_push_of_some _ e)
    have J := LamX.lam_start2 (E := fun cls d G' => W' cls d τ G') (f := f) (c' := c') (tk := t1.toks + ([] : List (Str × Value)).length) I L I1.env0 hr.hd un hns kp
    refine PySem.W.kla_codeExpr (wpAny_mono ((read _ _ _ t1 G (hr.deeper _) ng).run [] _ _ G Q J h3) (fun v t2 hq => ?_) fun e t2 hq => hq)
    obtain ⟨w', G2, J2, rv2, q⟩ := hq
    exact ⟨w', G2, J2.os, J2.bare, J2.base, J2.hok, rv2, q⟩
  refine wpAny_call (codeAny_mono run fun r t2 hq => ?_)
  cases r with
  | error e => exact tk e t2 (XE.of_call I1 (fun _ _ _ q => q) hq)
  | ok fl =>
    cases fl with
    | ret u => exact I1.after hq
    | _ => exact False.elim hq
end
/-! ### data -/
section
variable {W : Wd} {S P S' P' : Addr → Prop} {en : En} {σ : L2.St} {H H' : Hp}
/-- a def's start -/
theorem rel_start {N : List Str} {vs : List V} {ds : List D} (dr : DrawOk W H) (tb : LamX.Tabs W.tb H) (dom : DomS S H) (n1 : ¬ S W.da) (n2 : NPb W S) (dl : DvL W S H vs ds) : Rel W S (Pall W H) (en0 N.length ds) (L2.start N vs) H := by
  refine ⟨fun a h => ⟨dom a h, fun z => n1 (z ▸ h), n2.nb h⟩, fun a h => h.1, fun i f d e => ?_, fun i j f g d e v h1 h2 h3 => ?_, ?_, dr, ⟨fun h => h.2.1 rfl, ⟨fun h => h.2.2.1 rfl, fun x hx h => h.2.2.2 x hx rfl⟩⟩, tb⟩
  · obtain ⟨rfl, hd'⟩ := en0_get e
    obtain ⟨v, hv, dz⟩ := (dl.at (i := i)).2 d hd'
    refine ⟨v, ?_, dz.2, fun _ => dz.1, fun z => absurd rfl z⟩
    unfold L2.start
    rw [List.getElem?_append_left (by simpa using lt_of_get hv), List.getElem?_map, hv]
    rfl
  · exact absurd (en0_get h1).1 h3
  · unfold en0 L2.start
    simp only [List.length_append, List.length_map, List.length_replicate, dl.len]
/-- all names hold shared data -/
def AllFz (en : En) : Prop := ∀ (i : Nat) (f : Fg) (d : D), en[i]? = some (some (f, d)) → f = .fz
/-- such names, behind what another def has done -/
theorem Rel.retell {S4 P4 : Addr → Prop} {en' : En} {σ' : L2.St} {H3 : Hp} (R : Rel W S P en σ H) (fz : AllFz en) (R3 : Rel W S4 P4 en' σ' H3) (hS : ∀ a, S a → S4 a) (hH : ∀ a, S a → H3 a = H a) : Rel W S4 (Pall W H3) en σ H3 := by
  refine ⟨fun a h => ⟨R3.dom a h, fun z => R3.drP.1 (z ▸ R3.sp a h), R3.drP.2.nb (R3.sp a h)⟩, fun a h => h.1, fun i f d e => ?_, fun i j f g d e v h1 h2 h3 => absurd (fz i f d h1) h3, R.len, R3.dr, ⟨fun h => h.2.1 rfl, ⟨fun h => h.2.2.1 rfl, fun x hx h => h.2.2.2 x hx rfl⟩⟩, R3.tb⟩
  obtain rfl := fz i f d e
  obtain ⟨v, hv, dv, t, _⟩ := R.slot i _ d e
  have dz : Dz W S4 H3 v d := Dz.mono hS hH ⟨t rfl, dv⟩
  exact ⟨v, hv, dz.2, fun _ => dz.1, fun z => absurd rfl z⟩
end
/-! ### told(lambda: ..) -/
def outD (known : Nat → Bool) : Op ⊕ Exn → Option (D ⊕ Exn)
  | .inl o => (valO o).map .inl
  | .inr x => if known x.1 then some (.inr x) else none
def rTold (known : Nat → Bool) (tf : D ⊕ Exn → T (Bool × D)) (re : RunE) : Run := fun en => (re en).bind fun a => (T.ofOpt (outD known a.1)).bind fun o => (tf o).bind fun c => .ret (mkO c, a.2)
def setJ (j : Option Nat) (σ : L2.St) (v : V) : L2.St := match j with
  | none => σ
  | some j => σ.set j (some v)
def setE (j : Option Nat) (en : En) (d : D) : En := match j with
  | none => en
  | some j => en.set j (some (.fz, d))
/-- what the def does with what the call has told: its statements behind the try -/
structure ToldF (N : Nat) (ie jc : Nat) (jf : Option Nat) (known : Nat → Bool) (rpre rrest : RunS) (enA : Addr → En) (tf : D ⊕ Exn → T (Bool × D)) : Prop where
  pre : ∀ f, rpre (en0 N [.adr f]) = .ret (.nx, enA f)
  fz : ∀ f, AllFz (enA f)
  arg : ∀ f, (enA f)[0]? = some (some (.fz, .adr f))
  lens : ∀ f, ie < (enA f).length ∧ jc < (enA f).length ∧ ∀ j, jf = some j → j < (enA f).length
  fine : ∀ f d, ((rrest (setE jf (enA f) d)).bind fun r => T.ofOpt (flOf r.1)) = tf (.inl d)
  err : ∀ f c fs, known c = true → ((rrest (((enA f).set jc (some (.fz, .exc c fs))).set ie none)).bind fun r => T.ofOpt (flOf r.1)) = tf (.inr (c, fs))
/-- slot ie is forgotten -/
theorem Rel.forget {W : Wd} {S P : Addr → Prop} {en : En} {σ : L2.St} {H : Hp} (R : Rel W S P en σ H) (i : Nat) : Rel W S P (en.set i none) (σ.set i none) H := by
  have at' : ∀ {j : Nat} {f : Fg} {d : D}, (en.set i none)[j]? = some (some (f, d)) → j ≠ i ∧ en[j]? = some (some (f, d)) := fun {j f d} e => by
    rcases set_get e with ⟨_, q⟩ | ⟨ne, q⟩
    · cases q
    · exact ⟨fun z => ne z.symm, q⟩
  refine ⟨R.sp, R.pd, fun j f d e => ?_, fun j k f g d e v h1 h2 h3 h4 h5 h6 => ?_, by rw [List.length_set, List.length_set]; exact R.len, R.dr, R.drP, R.tb⟩
  · obtain ⟨ne, e⟩ := at' e
    rw [List.getElem?_set_ne (Ne.symm ne)]
    exact R.slot j f d e
  · obtain ⟨n1, e1⟩ := at' h1
    obtain ⟨n2, e2⟩ := at' h2
    rw [List.getElem?_set_ne (Ne.symm n1)] at h5
    rw [List.getElem?_set_ne (Ne.symm n2)] at h6
    exact R.inj j k f g d e v e1 e2 h3 h4 h5 h6
end Sx
set_option Elab.async false
set_option linter.all false
set_option maxRecDepth 100000
set_option maxHeartbeats 4000000
set_option autoImplicit false
namespace Sx
open PySem L2 PySem.Spec PyProof.Rows
section
variable {X : Cx} {W : Wd}
theorem nb_of_ext {H : Hp} {a : Addr} {φ : Heap → Prop} (dr : DrawOk W H) (tb : LamX.Tabs W.tb H) (h : H a = some (.ext φ)) : Pall W H a := by
  obtain ⟨_, ns, i, j, k, h1, h2, _⟩ := dr
  refine ⟨⟨_, h⟩, fun z => ?_, fun z => ?_, fun x hx z => ?_⟩
  · rw [z, h1] at h; cases h
  · rw [z, h2] at h; cases h
  · obtain ⟨ps, t1, _⟩ := tb x hx
    rw [z, t1] at h; cases h
theorem pe_told {x qual a n m cn : Str} {st st1 S : Stmt} {rest : List Stmt} {g c Pt : Addr} {fd : FuncData} {Ng : List Str} {k ie jc cE : Nat} {jf : Option Nat} {known : Nat → Bool} {rpre rrest : RunS} {enA : Addr → En} {tf : D ⊕ Exn → T (Bool × D)} {re : RunE} {params : Arguments} {body : Expr} {scope : Scope} {p lpos pos np p1 p2 p3 q1 q2 pos' pos2 : Pos}
    (F : Fun X.K x qual st g fd) (Sg : FnScope Ng [a] (defScope st)) (hb : Binds X.K fd [a] []) (hm : X.mg x = some (.ref g)) (hk : PySem.W.keepIn X.K (.ref g) = true) (hg : Gl X x) (dbx : (x == ("__debug__" : Str)) = false)
    (TB : LamX.TabB X.base X.mg c Pt) (hcode : X.env.code = .ref c) (inT : (Pt, X.env.qual ++ "<lambda>") ∈ W.tb) (one : ∀ p ∈ W.tb, p.1 = Pt → p.2 = X.env.qual ++ "<lambda>") (hr : Room (k + 2) X.A) (ng : NoG X.A) (hK : X.K = W.K)
    (L : LamX.LamS X.env.scope scope) (nodef : defaultsOf params X.env = ([], [])) (bind0 : ∀ (q : Str) (cl : List (Str × Addr)) (pm cv ctv : Value), bindArgs (PySem.W.kla_fn "<lambda>" q params body scope cl pm cv ctv) ⟨[], []⟩ = pure [])
    (read : ∀ (E : XK) (A : Around) (outer : List PySem.Env) (t : Shared) (G : Hp) (f c' : Addr), Room k (A.deeper (LamX.lamEnv X scope t.heap.objs.size f c')) → NoG A → PE (LamX.lamCx X A outer t G E scope f c') body (TVE W E re))
    (hB : defBody st = st1 :: .Try [S] [.ExceptHandler (some (.Name cn np)) (some n) [.Assign [.Name m p1] (.Name n p2) p3] pos'] [] [] pos2 :: rest)
    (rd1 : ∀ (cdv : Value) (A : Around) (outer : List PySem.Env) (s : Shared) (H : Hp) (E : XK), Room (k + 1) (A.deeper (envOfC qual (defScope st) s.heap.objs.size g cdv)) → NoG (A.deeper (envOfC qual (defScope st) s.heap.objs.size g cdv)) → PS (cxOf CX0 X.prog X.w X.K X.mg X.base Ng qual (defScope st) g cdv A outer s H E).nox st1 (TVS W rpre))
    (rd2 : ∀ (cdv : Value) (A : Around) (outer : List PySem.Env) (s : Shared) (H : Hp) (E : XK), Room (k + 1) (A.deeper (envOfC qual (defScope st) s.heap.objs.size g cdv)) → NoG (A.deeper (envOfC qual (defScope st) s.heap.objs.size g cdv)) → PSs (cxOf CX0 X.prog X.w X.K X.mg X.base Ng qual (defScope st) g cdv A outer s H E).nox rest (TVS W rrest))
    (rdS : ∀ (cdv : Value) (A : Around) (outer : List PySem.Env) (s : Shared) (H : Hp) (E : XK) (pn : List (Addr × Obj)) (xe : Value → Shared → Prop) (te : TE), PE ((cxOf CX0 X.prog X.w X.K X.mg X.base Ng qual (defScope st) g cdv A outer s H E).tr pn xe) (.Call (.Name a q1) [] [] q2) te → PS ((cxOf CX0 X.prog X.w X.K X.mg X.base Ng qual (defScope st) g cdv A outer s H E).tr pn xe) S (fun D σ H => te σ H fun v H' => D.nx (setJ jf σ v) H'))
    (hN0 : Ng[0]? = some a) (hi : Ng[ie]? = some n) (hj : Ng[jc]? = some m) (va : Vis (defScope st) a) (ln : (defScope st).names.lookup n = some .local) (lm : (defScope st).names.lookup m = some .local) (gcn : (defScope st).names.lookup cn = some .globalImplicit)
    (mcn : X.mg cn = some (.ref (W.cls cE))) (dcn : (cn == ("__debug__" : Str)) = false) (dn : (n == ("__debug__" : Str)) = false) (dn2 : (n == ("__classdict__" : Str)) = false) (da1 : (a == ("__debug__" : Str)) = false) (da2 : (a == ("__classdict__" : Str)) = false)
    (sw : ∀ (L0 : Addr) (cdv : Value), swapsWith (.Name n p2) (some (.Name m p1)) p3.line (envOfC qual (defScope st) L0 g cdv) = pure false)
    (exm : ∀ c, known c = true → PySem.W.exmOne X.K (.ref (W.cls c)) (.ref (W.cls cE)) = some true) (TF : ToldF Ng.length ie jc jf known rpre rrest enA tf) :
    PE X (.Call (.Name x p) [.Lambda params body scope lpos] [] pos) (TV W (rTold known tf re)) := by
  refine ⟨fun pins s σ H Q I h => ?_⟩
  obtain ⟨S0, P0, en, R, w⟩ := h
  refine wpAny_Call_Name_kw (ld_glob I hg hm ?_ dbx)
  refine PySem.W.callWith_K (h₀ := X.base) I.ok.mod.kin hk ?_ (by rfl) (by rfl)
  show wpAny _ _ (spliced ((false, eval (.Lambda params body scope lpos) X.env) :: backTo pos (starEach [] X.env))) _ _ s
  refine Calls.spliced_cons (lam_made I TB hcode inT one R.tb nodef (L.has I.ok) fun f c' pm ctv H1 s' I1 ext tabs1 hf hfn hco big => ?_)
  refine Calls.spliced_nil ⟨I1.kIn, ?_⟩
  obtain ⟨e1, R1⟩ := R.extT inT ext tabs1
  have noFr : f ∉ frs X.stack := fun hz => by
    rcases List.mem_cons.mp (I.stkSub f hz) with z | z
    · exact absurd I.lt (by rw [← z]; exact Nat.not_lt.mpr big)
    · exact I.nofs big z
  obtain ⟨oc, od, kV, doc, pm2, an, cdv, ct, osl, rfl, lk, hcd⟩ := F.ex
  have run : codeAny (model X.prog X.w) X.A (.call (.ref g) ⟨[.ref f], []⟩) (CR CX0 X.stack X.prog X.w H1 s' Q E0) s' := by
    refine LamX.run_ofS (N := Ng) (ps := [a]) (us := [.ref f]) (vs := [.ref f]) lk hcd Sg hr I1.env0 (hb s' [.ref f] I1.kIn rfl) (.cons rfl .nil) rfl fun hr' => ?_
    have ng' : NoG (X.A.deeper (envOfC qual (defScope st) s'.heap.objs.size g cdv)) := ng
    rw [hB]
    refine ⟨_, pss_cons (ps_nox (rd1 cdv X.A X.stack s' H1 E0 hr' ng')) (pss_cons (ps_try_hold (i := ie) (j := jc) (c := .ref (W.cls cE)) rfl rfl rfl Sg.nd hi hj ln lm ⟨gcn, dcn, .inl mcn⟩ dn dn2 (sw _ _)
      (tb := fun W' D τ G => (τ[0]? = some (some (.ref f)) ∧ G c' = some (LamX.CodeO c' (X.env.qual ++ "<lambda>")) ∧ TVE W (fun cls d G' => W' cls d τ G') re σ G (fun v H' => D.nx (setJ jf τ v) H'))) fun W' pn xe tk => pss_one (rdS cdv X.A X.stack s' H1 E0 pn xe _ (act_lam I1 L hf hfn noFr (bind0 _ _ _ _ _) tk hr' ng (fun E A outer t G h1 h2 => read E A outer t G f c' h1 h2) hN0 va da1 da2))) (PSs.nox (rd2 cdv X.A X.stack s' H1 E0 hr' ng'))), ?_⟩
    have R0 : Rel W S0 (Pall W H1) (en0 Ng.length [.adr f]) (L2.start Ng [.ref f]) H1 := rel_start R1.dr R1.tb R1.dom (fun z => R1.drP.1 (R1.sp _ z)) (R1.drP.2.sub R1.sp) (.cons trivial (.adr f) .nil)
    refine ⟨S0, Pall W H1, _, R0, ?_⟩
    rw [TF.pre f]
    intro σZ HZ SZ PZ eZ RZ
    have arg := RZ.slot 0 _ _ (TF.arg f)
    obtain ⟨v0, hv0, dv0, _⟩ := arg
    have ev0 : v0 = .ref f := by cases dv0; rfl
    subst ev0
    have codeP : Pall W H1 c' := nb_of_ext R1.dr R1.tb hco
    have codeZ : HZ c' = some (LamX.CodeO c' (X.env.qual ++ "<lambda>")) := (eZ.h c' codeP).trans hco
    obtain ⟨eM, RM⟩ := R1.callX eZ RZ.ret
    refine ⟨hv0, codeZ, SZ, _, en, RM, ?_⟩
    have eHM := e1.trans eM
    have w := (T.wp_bind _ _ _).mp w
    refine T.wp_mono w fun r q => ?_
    obtain ⟨q0, hq0, q⟩ := T.wp_ofOpt ((T.wp_bind _ _ _).mp q)
    obtain ⟨ro, en3⟩ := r
    have fin : ∀ {S4 P4 H4 enB σB}, Ext S0 P0 H S4 P4 H4 → Rel W S4 P4 en3 σ H4 → Rel W S4 (Pall W H4) enB σB H4 → ((rrest enB).bind fun r => T.ofOpt (flOf r.1)) = tf q0 → TVS W rrest { nx := fun _ H' => Q .non H', rt := Q } σB H4 := fun {S4 P4 H4 enB σB} e4 R4 RB ht => by
      refine ⟨S4, _, enB, RB, ?_⟩
      have q := (T.wp_bind _ _ _).mp q
      rw [← ht] at q
      refine T.wp_mono ((T.wp_bind _ _ _).mp q) fun r q => ?_
      obtain ⟨c0, hc0, q⟩ := T.wp_ofOpt q
      obtain ⟨fl, en5⟩ := r
      cases fl with
      | nx =>
        cases hc0
        intro σ' H' S' P' e' R'
        obtain ⟨e5, R5, ok5⟩ := R4.call e' R'.ret (v := .non) (c := (false, .non)) ⟨.non, fun _ => trivial, fun z => by cases z⟩
        exact q .non H' S' _ (e4.trans e5) R5 ok5
      | rt c =>
        cases hc0
        intro v H' S' P' e' ro ok
        obtain ⟨e5, R5, ok5⟩ := R4.call e' ro ok
        exact q v H' S' _ (e4.trans e5) R5 ok5
      | bk => cases hc0
      | ct => cases hc0
    cases ro with
    | inl o =>
      obtain ⟨d, hd, rfl⟩ := Option.map_eq_some_iff.mp hq0
      intro v H3 S3 P3 e3 R3 ok
      obtain ⟨S4, P4, e4, R4, dz⟩ := ok.valz R3 hd
      have RT := RZ.retell (TF.fz f) R4 (fun a h => e4.s a (e3.s a h)) (fun a h => e3.h a (RM.sp a h))
      refine fin (enB := setE jf (enA f) d) ((eHM.trans e3).trans e4) R4 ?_ (TF.fine f d)
      cases jf with
      | none => exact RT
      | some j => exact RT.put ((TF.lens f).2.2 j rfl) dz
    | inr y =>
      have hy : known y.1 = true ∧ q0 = .inr y := by
        have hq0 : (if known y.1 then some (Sum.inr y) else none : Option (D ⊕ Exn)) = some q0 := hq0
        split at hq0
        · rename_i hn; cases hq0; exact ⟨hn, rfl⟩
        · cases hq0
      obtain ⟨hy, rfl⟩ := hy
      intro H3 S3 P3 dv e3 R3 er
      refine ⟨exm _ hy, fun ae hae => ?_⟩
      -- the error is known from now on
      obtain ⟨e4, R4⟩ := R3.same (H' := upd H3 ae (ExcO (.ref (W.cls y.1)) dv ae)) (upd_keeps hae) (S' := add S3 ae) (fun a h => .inl h) (fun a h => h.imp id fun e => by rw [e]; exact hae) (fun a h => h.elim (fun h => by obtain ⟨o, z⟩ := R3.dom a h; exact ⟨o, upd_keeps hae a o z⟩) fun e => by subst e; exact ⟨_, upd_same⟩)
      have keepS : ∀ a, S3 a → upd H3 ae (ExcO (.ref (W.cls y.1)) dv ae) a = H3 a := fun a s => upd_ne fun e => by obtain ⟨o, z⟩ := R3.dom a s; rw [e, hae] at z; cases z
      have dz : Dz W (add S3 ae) (upd H3 ae (ExcO (.ref (W.cls y.1)) dv ae)) (.ref ae) (.exc y.1 y.2) := by
        refine ⟨.inr rfl, ?_⟩
        rcases er with ⟨e0, rfl⟩ | ⟨dd, kvs, rfl, s1, s2, s3⟩
        · rw [e0]
          exact .exc0 upd_same
        · exact .exc upd_same (.inl s1) ((keepS dd s1).trans s2) (s3.mono (fun _ h => .inl h) keepS)
      have RT := RZ.retell (TF.fz f) R4 (fun a h => e4.s a (e3.s a h)) (fun a h => (keepS a (e3.s a h)).trans (e3.h a (RM.sp a h)))
      have RE := (RT.put (TF.lens f).2.1 dz).forget ie
      have eqσ : ((σZ.set ie (some (V.ref ae))).set jc (some (V.ref ae))).set ie none = (σZ.set jc (some (V.ref ae))).set ie none := by
        apply List.ext_getElem?
        intro i
        by_cases h1 : ie = i
        · subst h1
          simp [List.getElem?_set]
        · rw [List.getElem?_set_ne h1, List.getElem?_set_ne h1]
          by_cases h2 : jc = i
          · subst h2
            simp [List.getElem?_set]
          · rw [List.getElem?_set_ne h2, List.getElem?_set_ne h2, List.getElem?_set_ne h1]
      show TVS W rrest _ (((σZ.set ie (some (V.ref ae))).set jc (some (V.ref ae))).set ie none) _
      rw [eqσ]
      exact fin ((eHM.trans e3).trans e4) R4 RE (TF.err f y.1 y.2 hy)
  refine wpAny_call (codeAny_mono run fun r s2 hq => ?_)
  cases r with
  | error e => exact (show False from hq).elim
  | ok fl =>
    cases fl with
    | ret u => exact I1.after hq
    | _ => exact False.elim hq
end
end Sx
set_option Elab.async false
set_option linter.all false
set_option maxRecDepth 100000
set_option maxHeartbeats 4000000
set_option autoImplicit false
namespace Sx
open PySem L2 PySem.Spec PyProof.Rows
/-! ### what is asked of a caught error: isinstance, its field -/
/-- such an error at a -/
def ErrAt (H : Hp) (a D : Addr) (dv : Option Addr) (fs : List (Str × V)) : Prop := H a = some (ExcO (.ref D) dv a) ∧ ((fs = [] ∧ dv = none) ∨ ∃ dd, dv = some dd ∧ H dd = some (.xd fs))
section
variable {X : Cx} {W : Wd} {pins : List (Addr × Obj)} {σ : L2.St} {H : Hp} {s : Shared} {S P : Addr → Prop}
theorem err_inst {a D : Addr} {dv : Option Addr} {fs : List (Str × V)} (I : Inv X pins σ H s) (h : ErrAt H a D dv fs) : ∃ oe od, PySem.W.InstAt s.heap a oe D od ∧ (∀ dd, dv = some dd → ∃ o, od = some o ∧ s.heap.get? dd = some o) := by
  obtain ⟨ha, hd⟩ := h
  obtain ⟨⟨oe, at_, hz, vs, hv⟩, _, _⟩ := I.hok a _ ha
  rcases hd with ⟨_, rfl⟩ | ⟨dd, rfl, hd⟩
  · exact ⟨oe, none, ⟨at_, hz.1, by unfold PySem.W.notCls; rw [hv] <;> rfl, by rw [hz.2]; trivial⟩, fun dd z => by cases z⟩
  · obtain ⟨mA, hns, _⟩ := (show ObjOk X.prog X.w H s.heap dd (.xd fs) from I.hok dd _ hd)
    obtain ⟨od, ho, _⟩ := lookIn_ns hns
    exact ⟨oe, some od, ⟨at_, hz.1, by unfold PySem.W.notCls; rw [hv] <;> rfl, by rw [hz.2]; exact ho⟩, fun d2 z => by cases z; exact ⟨od, rfl, ho⟩⟩
theorem call_isX : CallR X (.builtin "isinstance") (fun xs H Q => ∃ (a D : Addr) (dv : Option Addr) (fs : List (Str × V)) (c : V) (cv : Value) (b : Bool), xs = [.ref a, c] ∧ ErrAt H a D dv fs ∧ ExcC X.K D ∧ ClsV c cv ∧ PySem.W.kitOne X.K (.ref D) cv = some b ∧ Q (.bl b) H) := by
  intro pins s σ H xs us Q I r h
  obtain ⟨a, D, dv, fs, c, cv, b, rfl, he, C, kc, e, q⟩ := h
  obtain ⟨u1, u2, rfl, r1, r2⟩ := vals2 r
  cases (show u1 = Value.ref a from r1)
  have e2 := kc.eq r2
  subst e2
  obtain ⟨oe, od, J, _⟩ := err_inst I he
  have hcl : (PySem.W.clsIn X.K D).isSome = true := by
    obtain ⟨cd, hc, _⟩ := PySem.W.any_some C.hd
    rw [hc]
    rfl
  exact PySem.W.kia_one (PySem.W.kitx_exc hcl C.hg C.hk C.hs C.ha C.hn C.ht C.hm) I.kIn J e (fun z => nomatch z) fun tk => ⟨.bl b, H, I.tok tk, rfl, q⟩
/-- e.f -/
def tErF (K : PySem.W.Frag) (f : Str) (te : TE) : TE := fun σ H Q => te σ H fun x H1 => ∃ (a D : Addr) (dv : Option Addr) (fs : List (Str × V)) (v : V), x = .ref a ∧ ErrAt H1 a D dv fs ∧ ExcC K D ∧ PySem.W.findIn K (.ref D) f = some none ∧ fs.lookup f = some v ∧ Q v H1
theorem pe_erF {e : Expr} {f : Str} {te : TE} {pos : Pos} (he : PE X e te) (hb : attributeBase e f X.env (eval e X.env) = eval e X.env := by rfl) : PE X (.Attribute e f pos) (tErF X.K f te) := by
  refine ⟨fun pins s σ H Q I h => attr_of hb (thn (he.run pins s σ H _ I h) fun u s1 hh => ?_)⟩
  obtain ⟨x, H1, I1, rx, a, D, dv, fs, v, rfl, ea, C, noN, hl, q⟩ := hh
  cases (show u = Value.ref a from rx)
  rcases ea.2 with ⟨rfl, _⟩ | ⟨dd, rfl, hd⟩
  · cases hl
  · obtain ⟨oe, od, J, k⟩ := err_inst I1 ea
    obtain ⟨o, rfl, ho⟩ := k dd rfl
    obtain ⟨mA, hns, hr⟩ := (show ObjOk X.prog X.w H1 s1.heap dd (.xd fs) from I1.hok dd _ hd)
    obtain ⟨od2, ho2, hlk⟩ := lookIn_ns hns
    rw [ho] at ho2
    cases ho2
    obtain ⟨u, hu, ru⟩ := RelO.some_of (v := v) (o := mA f) (by rw [← hl]; exact hr f)
    exact HandSPX.exc_get I1.kIn J C.hg C.hk C.hs (PySem.W.findObj_own C.hd noN rfl (by rw [hlk, hu])) (handed_of ru) ⟨v, H1, I1.tok _, ru, q⟩
/-! data -/
def excD : D → Option Exn
  | .exc c fs => some (c, fs)
  | _ => none
theorem dv_exc {v : V} {c : Nat} {ds : List (Str × D)} (h : Dv W S H v (.exc c ds)) : ∃ a dv fs, v = .ref a ∧ ErrAt H a (W.cls c) dv fs ∧ DvP W S H fs ds := by
  cases h with
  | exc e s h r => exact ⟨_, _, _, rfl, ⟨e, .inr ⟨_, rfl, h⟩⟩, r⟩
  | exc0 e => exact ⟨_, none, [], rfl, ⟨e, .inl ⟨rfl, rfl⟩⟩, .nil⟩
/-- isinstance(e, C), isinstance(None, C): tab tells the answer -/
def fIsX (tab : Option Nat → D → Option Bool) (ds : List D) : Option (Bool × D) := match ds with
  | [.exc c _, t] => (tab (some c) t).map fun b => (false, .bl b)
  | [.non, t] => (tab none t).map fun b => (false, .bl b)
  | _ => none
def clV (cls : Nat → Addr) : D → Option Value
  | .cl c => some (.ref (cls c))
  | .ty n => some (.type n)
  | _ => none
structure TabOk (K : PySem.W.Frag) (cls : Nat → Addr) (tab : Option Nat → D → Option Bool) : Prop where
  exc : ∀ c t b, tab (some c) t = some b → ExcC K (cls c) ∧ ∃ v, clV cls t = some v ∧ PySem.W.kitOne K (.ref (cls c)) v = some b
  non : ∀ t b, tab none t = some b → ∃ v, clV cls t = some v ∧ PySem.W.kitOne K (.type "NoneType") v = some b
theorem dv_cl {v : V} {t : D} {u : Value} (h : Dv W S H v t) (e : clV W.cls t = some u) : ClsV v u := by
  cases h <;> first | (cases e; done) | skip
  · cases e; exact .ty _
  · cases e; exact .own _
theorem p_isX {tab : Option Nat → D → Option Bool} (ok : TabOk W.K W.cls tab) : PureN W (fun xs H Q => (∃ (a D : Addr) (dv : Option Addr) (fs : List (Str × V)) (c : V) (cv : Value) (b : Bool), xs = [.ref a, c] ∧ ErrAt H a D dv fs ∧ ExcC W.K D ∧ ClsV c cv ∧ PySem.W.kitOne W.K (.ref D) cv = some b ∧ Q (.bl b) H) ∨ rIsi W.K xs H Q) (fIsX tab) := by
  intro S H vs ds c Q hd h hf r
  unfold fIsX at hf
  split at hf
  · obtain ⟨v, u, rfl, dv, du⟩ := h.two
    obtain ⟨b, e1, rfl⟩ := Option.map_eq_some_iff.mp hf
    obtain ⟨C, w, e2, e3⟩ := ok.exc _ _ _ e1
    obtain ⟨a, dv', fs, rfl, ea, _⟩ := dv_exc dv
    exact .inl ⟨a, _, dv', fs, u, w, b, rfl, ea, C, dv_cl du e2, e3, r.bl hd⟩
  · obtain ⟨v, u, rfl, dv, du⟩ := h.two
    obtain ⟨b, e1, rfl⟩ := Option.map_eq_some_iff.mp hf
    obtain ⟨w, e2, e3⟩ := ok.non _ _ e1
    cases dv
    exact .inr ⟨.non, u, _, w, b, rfl, dv_cl du e2, .base .non, e3, r.bl hd⟩
  · cases hf
def fErF (ok : Nat → Bool) (f : Str) (d : D) : Option (Bool × D) := (excD d).bind fun x => if ok x.1 then (x.2.lookup f).map fun y => (false, y) else none
theorem p_erF {ok : Nat → Bool} {f : Str} (hk : ∀ c, ok c = true → ExcC W.K (W.cls c) ∧ PySem.W.findIn W.K (.ref (W.cls c)) f = some none) : Pure1 W (fun x H Q => ∃ (a D : Addr) (dv : Option Addr) (fs : List (Str × V)) (v : V), x = .ref a ∧ ErrAt H a D dv fs ∧ ExcC W.K D ∧ PySem.W.findIn W.K (.ref D) f = some none ∧ fs.lookup f = some v ∧ Q v H) (fErF ok f) := by
  intro S H x d c Q hd hx h r
  obtain ⟨y, e1, h⟩ := Option.bind_eq_some_iff.mp h
  split at h
  · rename_i hok
    obtain ⟨z, e2, rfl⟩ := Option.map_eq_some_iff.mp h
    cases d <;> first | (cases e1; done) | skip
    cases e1
    obtain ⟨a, dv, fs, rfl, ea, dp⟩ := dv_exc hx
    obtain ⟨C, nf⟩ := hk _ hok
    obtain ⟨v, e3, dz⟩ := (dp.get (f := f)).1 z e2
    exact ⟨a, _, dv, fs, v, rfl, ea, C, nf, e3, r.old hd dz⟩
  · cases h
variable {e a b : Expr} {re : Run} {rs : Runs} {pos p : Pos}
theorem e_erF {ok : Nat → Bool} {f : Str} (hK : X.K = W.K) (hk : ∀ c, ok c = true → ExcC W.K (W.cls c) ∧ PySem.W.findIn W.K (.ref (W.cls c)) f = some none) (he : PE X e (TV W re)) (hb : attributeBase e f X.env (eval e X.env) = eval e X.env := by rfl) : PE X (.Attribute e f pos) (TV W (run1 re (fErF ok f))) :=
  pe_weak (pe_erF he hb) fun _ _ _ h => by rw [hK]; exact tv1 (p_erF hk) h
theorem e_isX {tab : Option Nat → D → Option Bool} (hK : X.K = W.K) (ok : TabOk W.K W.cls tab) (hm : X.mg "isinstance" = none) (hv : bootBuiltins "isinstance" = some (.builtin "isinstance")) (ha : PA X [a, b] (TVs W rs)) (hg : Gl X "isinstance" := by rfl)
    (he : starEach [a, b] X.env = (false, eval a X.env) :: starEach [b] X.env := by rfl) (hpl : (backTo pos (starEach [b] X.env)).any (·.1) = false := by rfl) : PE X (.Call (.Name "isinstance" p) [a, b] [] pos) (TV W (runN rs (fIsX tab))) :=
  pe_weak (pe_callB (call_isX.or call_isi) hg hm hv ha (by decide) (by decide) he hpl) fun _ _ _ h => by rw [hK]; exact tvN (p_isX ok) h
end
end Sx
set_option Elab.async false
set_option linter.all false
set_option maxRecDepth 100000
set_option maxHeartbeats 4000000
set_option autoImplicit false
namespace Sx
open PySem L2 PyProof.Rows
section
variable {W : Wd} {S P S' P' : Addr → Prop} {en : En} {σ : L2.St} {H H' : Hp} {X : Cx} {E : XK} {k n c0 : Nat} {f : Addr} {fd : FuncData} {ps ks : List Str} {fn : FnE} {cls : CT} {x m : Str} {p pos apos : Pos} {e o : Expr} {es : List Expr} {kws : List Keyword} {ro : Run} {rs rs2 : Runs}
/-! ### calls by keyword that may raise -/
def eCallK (f : FnE) (q : List D → List D → List D) (rs2 : Runs) : RunE := fun en => (rs2 en).bind fun b => (T.ofOpt (onlyV b.1)).bind fun es => (f (q [] es)).bind fun c => .ret (outO c, b.2)
theorem rx_callK {g : List Value → List Value → List Value} {gV : List V → List V → List V} {q : List D → List D → List D} (F : FnG X.prog X.w X.K X.mg X.base (L2.CX X.prog X.w) k f fd ps (spX X.K cls n fn)) (hx : Passes (L2.CX X.prog X.w) X E) (hcl : W.cls = cls) (hK : X.K = W.K) (hr : Room k X.A) (hg : NoG X.A) (hm : X.mg x = some (.ref f)) (hk : PySem.W.keepIn X.K (.ref f) = true) (hb : KBinds X.K fd ps ks g gV) (hq : PermOk W n gV q) (ha : PK X kws (TVs W rs2))
    (hn : ∀ en : En, (rs2 en).all fun b => ∀ ds, onlyV b.1 = some ds → (q [] ds).length = n) (hall : (backToKw pos (keywordEach kws X.env)).all (·.1.isSome) = true := by rfl) (hks : (backToKw pos (keywordEach kws X.env)).filterMap (·.1) = ks := by rfl) (gl : Gl X x := by rfl) (hdb : (x == ("__debug__" : Str)) = false := by decide)
    (hpl : ((backTo pos (starEach [] X.env)).any (·.1) || (backToKw pos (keywordEach kws X.env)).any (·.1.isNone)) = false := by rfl) : PE X (.Call (.Name x p) [] kws pos) (TVE W E (eCallK fn q rs2)) :=
  pe_weak (pe_callGK0 F hr hg gl hm hk hb hx ha hall hks hdb hpl) fun σ H Q h => by
    rw [hK]
    obtain ⟨S, P, en, R, w⟩ := h
    have w := T.wp_all ((T.wp_bind _ _ _).mp w) (hn en)
    show TVs W rs2 σ H _
    refine ⟨S, P, en, R, T.wp_mono w fun r ⟨qq, len⟩ ws H1 S1 P1 e1 R1 pe => ?_⟩
    obtain ⟨es, hes, qq⟩ := T.wp_ofOpt ((T.wp_bind _ _ _).mp qq)
    have dl := hq S1 H1 [] [] ws es .nil (pe.only hes)
    have qq := (T.wp_bind _ _ _).mp qq
    exact ⟨by rw [dl.len, len es hes], W, S1, _, rfl, hcl, R1.dr, R1.tb, R1.dom, fun w => R1.drP.1 (R1.sp _ w), R1.drP.2.sub R1.sp, dl, T.wp_mono qq fun o q => OutQ.of_call R1 e1 q⟩
/-! ### the call of what was handed in -/
theorem rds_set {y a : Str} {q1 q2 q3 q4 : Pos} {te : TE} (j : Nat) (nd : X.N.Nodup) (h : PE X (.Call (.Name a q1) [] [] q2) te) (hi : X.N[j]? = some y := by rfl) (hl : Loc X.env.scope y := by first | exact Or.inl rfl | exact Or.inr rfl) (hs : swapsWith (.Call (.Name a q1) [] [] q2) (some (.Name y q3)) q4.line X.env = pure false := by rfl)
    (hf : X.fn y = true ∨ X.env.scope.names.lookup y = some .local := by exact Or.inl rfl) : PS X (.Assign [.Name y q3] (.Call (.Name a q1) [] [] q2) q4) (fun D σ H => te σ H fun v H' => D.nx (setJ (some j) σ v) H') := ps_set (i := j) nd hi hl h hs hf
theorem rds_drop {a : Str} {q1 q2 q4 : Pos} {te : TE} (h : PE X (.Call (.Name a q1) [] [] q2) te) (hs : swapsWith (.Call (.Name a q1) [] [] q2) none q4.line X.env = pure false := by rfl) : PS X (.Expr (.Call (.Name a q1) [] [] q2) q4) (fun D σ H => te σ H fun v H' => D.nx (setJ none σ v) H') := ps_expr h hs
end
section
variable {Pr : Program} {w : World} {K : PySem.W.Frag} {mg : Str → Option Value} {base : Heap} {cls : CT}
/-- a law whose own def makes lambdas -/
theorem law_okC {x qual : Str} {st s0 : Stmt} {rest : List Stmt} {f c : Addr} {fd : FuncData} {N : List Str} {k : Nat} {run : RunS} {p : Str} (F : Fun K x qual st f fd) (hcd : fd.code = .ref c) (Sc : FnScope N [p] (defScope st)) (hN : 2 ≤ N.length) (hs : defBody st = s0 :: rest)
    (h0 : ∀ (cdv : Value) (A : Around) (outer : List PySem.Env) (s : Shared) (H : Hp) (E : XK), Room k (A.deeper (envOfC qual (defScope st) s.heap.objs.size f cdv)) → NoG (A.deeper (envOfC qual (defScope st) s.heap.objs.size f cdv)) → PS (cxOf CX0 Pr w K mg base N qual (defScope st) f cdv A outer s H E).nox s0 (tAsg (tCall (spBegin K) [] E0 (tCons (tVar 0) tNil)) (gName 1)))
    (hb : ∀ (A : Around) (outer : List PySem.Env) (s : Shared) (H : Hp) (E : XK), Room k (A.deeper (envOfC qual (defScope st) s.heap.objs.size f (.ref c))) → NoG (A.deeper (envOfC qual (defScope st) s.heap.objs.size f (.ref c))) → ∀ W : Wd, W.K = K → W.cls = cls → PSs (cxOf CX0 Pr w K mg base N qual (defScope st) f (.ref c) A outer s H E).nox rest (TVS W run)) :
    FnG Pr w K mg base CX0 (k + 1) f fd [p] (spLaw K cls.tb N.length run) := by
  refine fnG_ofC F Sc (fun vs H Q E h => by obtain ⟨a, ns, rfl, _⟩ := h; rfl) fun A outer s H vs Q E hr hg h => ?_
  rw [hcd] at hr hg ⊢
  refine ⟨_, ?_, law_sem (cls := cls) hN h⟩
  rw [hs]
  exact (pss_cons (h0 _ A outer s H E hr hg) (law_rest (hb A outer s H E hr hg))).nox
end
/-- the addresses of the classes: Table, then the errors -/
def clsL (l : List Addr) (i : Nat) : Addr := l.getD i 0
end Sx
set_option Elab.async false
set_option linter.all false
set_option maxRecDepth 100000
set_option maxHeartbeats 4000000
set_option autoImplicit false
namespace Sx
open PySem L2 PyProof.Rows
def sw120 {α : Type} (us ws : List α) : List α := match us, ws with
  | [], [a, b, c] => [b, c, a]
  | _, _ => []
theorem pm120 {W : Wd} : PermOk W 3 sw120 sw120 := by
  intro S H vs ds ws es h g
  cases h with
  | cons => exact .nil
  | nil =>
    match g with
    | .nil => exact .nil
    | .cons _ _ .nil => exact .nil
    | .cons _ _ (.cons _ _ .nil) => exact .nil
    | .cons t1 d1 (.cons t2 d2 (.cons t3 d3 .nil)) => exact .cons t2 d2 (.cons t3 d3 (.cons t1 d1 .nil))
    | .cons _ _ (.cons _ _ (.cons _ _ (.cons _ _ _))) => exact .nil
theorem q120_len {rs : Runs} (h : LenR rs 3) : ∀ en : En, (rs en).all fun b => ∀ ds, onlyV b.1 = some ds → (sw120 [] ds).length = 3 := fun en => T.all_mono (h en) fun a ha ds e => by
  have := (onlyV_len e).trans ha
  match ds, this with
  | [a, b, c], _ => rfl
section
variable {K : PySem.W.Frag}
theorem kb120 {x qual p1 p2 p3 : Str} {st : Stmt} {f : Addr} {fd : FuncData} (F : Fun K x qual st f fd)
    (h : ∀ (kV doc pm : Value) (an : Option Addr) (cdv ct a b c : Value), bindArgs (PySem.W.fnOf x qual (defArgs st) (defBody st) (defScope st) .none kV doc pm an cdv ct) ⟨[], [(p3, a), (p1, b), (p2, c)]⟩ = pure [(p1, b), (p2, c), (p3, a)]) : KBinds K fd [p1, p2, p3] [p3, p1, p2] sw120 sw120 := by
  obtain ⟨oc, od, kV, doc, pm, an, cdv, ct, osl, rfl, lk, hcd⟩ := F.ex
  refine ⟨fun s us ws kin hl => ?_, fun {vs us zs ws} r q => ?_⟩
  · match us, ws, hl with
    | [], [a, b, c], _ => exact .of_eq (h kV doc pm an cdv ct a b c)
  · cases r with
    | cons => exact .nil
    | nil =>
      match q with
      | .nil => exact .nil
      | .cons _ .nil => exact .nil
      | .cons _ (.cons _ .nil) => exact .nil
      | .cons t1 (.cons t2 (.cons t3 .nil)) => exact .cons t2 (.cons t3 (.cons t1 .nil))
      | .cons _ (.cons _ (.cons _ (.cons _ _))) => exact .nil
end
end Sx
set_option Elab.async false
set_option linter.all false
set_option maxRecDepth 100000
set_option maxHeartbeats 4000000
set_option autoImplicit false
namespace Sx
open PySem L2 PyProof.Rows
/-! ### repr of lists and tuples of anything, None, truth values -/
def rReprH (K : PySem.W.Frag) : List V → Hp → VK → Prop := fun vs H Q => ∃ a xs p ps, vs = [.ref a] ∧ SqT K H a xs ∧ DgL K H xs (p :: ps) ∧ shOkG (.tuple (p :: ps)) = true ∧ Q (.str (PyData.tuple (p :: ps)).shown) H
def rReprU (K : PySem.W.Frag) : List V → Hp → VK → Prop := fun vs H Q => rReprG K vs H Q ∨ rReprO vs H Q ∨ rReprH K vs H Q
def fReprU (ds : List D) : Option (Bool × D) := match ds with
  | [.non] => some0 (.str "None")
  | [.bl b] => some0 (.str (if b then "True" else "False"))
  | [.tup (x :: xs)] => (pyG x).bind fun p => (pyGL xs).bind fun ps => if shOkG (.tuple (p :: ps)) then some0 (.str (PyData.tuple (p :: ps)).shown) else none
  | _ => fReprG ds
section
variable {X : Cx} {W : Wd} {S : Addr → Prop} {H : Hp}
theorem cr_reprH (hu : X.A.units + 64 < cLine) (hg : NoG X.A) : CallR X (.builtin "repr") (rReprH X.K) := by
  intro pins s σ H xs us Q I r h
  obtain ⟨a, ys, p, ps, rfl, hs, hp, ok, q⟩ := h
  obtain ⟨u, rfl, ru⟩ := vals1 r
  cases (show u = Value.ref a from ru)
  obtain ⟨its, rv, ⟨o, ho, hc, n, hd⟩, _⟩ := I.tuple hs
  have sz := shOkG_sz ok
  unfold shOkG at ok
  simp only [Bool.and_eq_true, decide_eq_true_eq] at ok
  obtain ⟨⟨⟨h1, h3⟩, h4⟩, h5⟩ := ok
  have sz' : (tupleText (PyData.shownAll (p :: ps))).length ≤ sizeLine := by simpa only [PyData.shown] using sz
  obtain ⟨as, bs, rd, rm, rk⟩ := DgL.shows I hp rv (by simpa [PyData.showable] using h1) fun t ht => Nat.le_trans (tupleText_mem_le ht) sz'
  have hna : a ∉ bs := not_mem_of_deeper (.tuple ho hc hd rd) (by simp only [PyData.depth]; omega) rm
  simp only [PyData.depth] at h5
  refine call_repr_slot (by omega) ⟨o, ho, hc⟩ F.slot_tuple_repr (call_tuple_reprK ho hc hd hna rk hg (fun b _ => Clear.nil b) (by show X.A.units + 1 + _ < cLine; omega) (fun _ _ e => e) (fun h' u tk k => ⟨_, _, rfl, .str (PyData.tuple (p :: ps)).shown, H, I.kept k, ⟨u, by rw [PyData.shown]⟩, q⟩) sz')
theorem cr_reprU (hu : X.A.units + 64 < cLine) (hg : NoG X.A) : CallR X (.builtin "repr") (rReprU X.K) := by
  intro pins s σ H xs us Q I r h
  rcases h with h | h | h
  · exact cr_reprG hu hg pins s σ H xs us Q I r h
  · exact cr_reprO pins s σ H xs us Q I r h
  · exact cr_reprH hu hg pins s σ H xs us Q I r h
theorem p_reprU : PureN W (rReprU W.K) fReprU := by
  intro S H vs ds c Q hd hv h r
  unfold fReprU at h
  split at h
  · cases h
    match vs, hv with
    | [v], ⟨dv, _⟩ =>
      cases dv
      exact .inr (.inl (.inl ⟨rfl, r.str hd⟩))
    | _ :: _ :: _, ⟨_, z⟩ => exact z.elim
    | [], z => exact z.elim
  · rename_i b
    cases h
    match vs, hv with
    | [v], ⟨dv, _⟩ =>
      cases dv
      exact .inr (.inl (.inr ⟨_, rfl, r.str hd⟩))
    | _ :: _ :: _, ⟨_, z⟩ => exact z.elim
    | [], z => exact z.elim
  · obtain ⟨p, e1, h⟩ := Option.bind_eq_some_iff.mp h
    obtain ⟨ps, e2, h⟩ := Option.bind_eq_some_iff.mp h
    split at h
    · rename_i ok
      cases h
      match vs, hv with
      | [v], ⟨dv, _⟩ =>
        cases dv with
        | tup hh dl =>
          refine .inr (.inr ⟨_, _, p, ps, rfl, tup_sq hh, DvL.dg dl ?_, ok, r.str hd⟩)
          rw [pyGL, e1, e2]
          rfl
      | _ :: _ :: _, ⟨_, z⟩ => exact z.elim
      | [], z => exact z.elim
    · cases h
  · exact .inl (p_reprG S H vs ds c Q hd hv h r)
end
end Sx
set_option Elab.async false
set_option linter.all false
set_option maxRecDepth 100000
set_option maxHeartbeats 4000000
set_option autoImplicit false
namespace Sx
open PySem L2 PySem.Spec PyProof.Rows
section
variable {X : Cx} {W : Wd} {pins : List (Addr × Obj)} {σ : L2.St} {H : Hp} {s : Shared} {S P : Addr → Prop} {E : XK} {re : RunE} {e a b : Expr} {rs : Runs} {pos p : Pos}
/-! ### CALL is None, the call may raise -/
def eIsN (re : RunE) : RunE := fun en => (re en).bind fun a => match a.1 with
  | .inl o => (ret1 ((frc a.2 o.fz).bind fun d => fIs false d .non) a.2).bind fun r => .ret (.inl r.1, r.2)
  | .inr x => .ret (.inr x, a.2)
theorem rx_isN {q : Pos} {j : Nat} (h : PE X e (TVE W E re)) (hm : behindInMarks .Is (.Constant .none j q) = false := by rfl) : PE X (.Compare e [.Is] [.Constant .none j q] pos) (TVE W E (eIsN re)) := pe_weak (pe_cmpR op_isAll h pe_non hm) fun σ H Q hq => by
  obtain ⟨S, P, en, R, w⟩ := hq
  refine ⟨S, P, en, R, T.wp_mono ((T.wp_bind _ _ _).mp w) fun r z => ?_⟩
  obtain ⟨o, en1⟩ := r
  cases o with
  | inr x => exact z
  | inl o =>
    intro v H1 S1 P1 e1 R1 ok
    have z := (T.wp_bind _ _ _).mp z
    obtain ⟨c, ec, z⟩ := wp_ret1 z
    obtain ⟨S2, P2, e2, R2, pe⟩ := ok.settle R1
    obtain ⟨d, ed, fc⟩ := Option.bind_eq_some_iff.mp ec
    exact p_is S2 H1 v .non d .non c Q R2.dom (pe.now R2 ed) .non fc (R2.res fun v' H' S' P' e' R' ok' => z v' H' S' P' (e1.trans (e2.trans e')) R' ok')
/-! ### isinstance(e, (C1, C2)) -/
theorem call_isXT : CallR X (.builtin "isinstance") (fun xs H Q => ∃ (a D tp : Addr) (dv : Option Addr) (fs : List (Str × V)) (cs : List V) (us : List Value) (b : Bool), xs = [.ref a, .ref tp] ∧ ErrAt H a D dv fs ∧ ExcC X.K D ∧ H tp = some (.tup cs) ∧ Paired ClsV cs us ∧ PySem.W.kitAny X.K (.ref D) us = some b ∧ Q (.bl b) H) := by
  intro pins s σ H xs us Q I r h
  obtain ⟨a, D, tp, dv, fs, cs, ws, b, rfl, he, C, hT, k, e, q⟩ := h
  obtain ⟨u1, u2, rfl, r1, r2⟩ := vals2 r
  cases (show u1 = Value.ref a from r1)
  cases (show u2 = Value.ref tp from r2)
  obtain ⟨oe, od, J, _⟩ := err_inst I he
  have hcl : (PySem.W.clsIn X.K D).isSome = true := by
    obtain ⟨cd, hc, _⟩ := PySem.W.any_some C.hd
    rw [hc]
    rfl
  obtain ⟨_, its, rv, o, h1, h2, n, h3⟩ := (show ObjOk X.prog X.w H s.heap tp (.tup cs) from I.hok tp _ hT)
  have e3 := ClsV.all k rv
  subst e3
  obtain ⟨oc, od2, dt, sl⟩ := o
  simp only at h2 h3
  subst h2 h3
  exact PySem.W.kia_tup (PySem.W.kitx_exc hcl C.hg C.hk C.hs C.ha C.hn C.ht C.hm) I.kIn J h1 e (fun z => nomatch z) fun tk => ⟨.bl b, H, I.tok tk, rfl, q⟩
/-- the answers, one by one, until a true one -/
def anyT (tab : Option Nat → D → Option Bool) (c : Nat) : List D → Option Bool
  | [] => some false
  | t :: ts => (tab (some c) t).bind fun b => if b then some true else anyT tab c ts
def fIsXT (tab : Option Nat → D → Option Bool) (ds : List D) : Option (Bool × D) := match ds with
  | [.exc c _, .tup ts] => (anyT tab c ts).map fun b => (false, .bl b)
  | _ => none
theorem anyT_ok {tab : Option Nat → D → Option Bool} (ok : TabOk W.K W.cls tab) {c : Nat} : ∀ {ts : List D} {vs : List V} {b : Bool}, DvL W S H vs ts → anyT tab c ts = some b → (∀ t ∈ ts, ∃ x, clV W.cls t = some x) → ∃ us, Paired ClsV vs us ∧ PySem.W.kitAny W.K (.ref (W.cls c)) us = some b
  | [], _, _, .nil, h, _ => by cases h; exact ⟨[], .nil, rfl⟩
  | t :: ts, _, b, .cons t0 d0 dl, h, hc => by
    obtain ⟨b1, e1, h⟩ := Option.bind_eq_some_iff.mp h
    obtain ⟨_, w, ew, ek⟩ := ok.exc c t b1 e1
    have k1 := dv_cl d0 ew
    cases b1 with
    | true =>
      cases h
      have all : ∀ {ts : List D} {vs : List V}, DvL W S H vs ts → (∀ t ∈ ts, ∃ x, clV W.cls t = some x) → ∃ us, Paired ClsV vs us := by
        intro ts
        induction ts with
        | nil => intro vs dl _; cases dl; exact ⟨[], .nil⟩
        | cons t ts ih =>
          intro vs dl hc
          cases dl with
          | cons _ d r =>
            obtain ⟨x, ex⟩ := hc t List.mem_cons_self
            obtain ⟨us, hu⟩ := ih r fun y hy => hc y (List.mem_cons_of_mem _ hy)
            exact ⟨x :: us, .cons (dv_cl d ex) hu⟩
      obtain ⟨us, hu⟩ := all dl fun y hy => hc y (List.mem_cons_of_mem _ hy)
      exact ⟨w :: us, .cons k1 hu, kitAny_cons ek (fun z => by cases z) fun _ => rfl⟩
    | false =>
      obtain ⟨us, hu, hk⟩ := anyT_ok ok dl h fun y hy => hc y (List.mem_cons_of_mem _ hy)
      exact ⟨w :: us, .cons k1 hu, kitAny_cons ek (fun _ => hk) fun z => by cases z⟩
def clOk : D → Bool
  | .cl _ => true
  | .ty _ => true
  | _ => false
theorem clOk_v {cls : Nat → Addr} {t : D} (h : clOk t = true) : ∃ x, clV cls t = some x := by
  cases t <;> first | (cases h; done) | exact ⟨_, rfl⟩
theorem call_isXK : CallR X (.builtin "isinstance") (fun xs H Q => ∃ (a D tp : Addr) (dv : Option Addr) (fs : List (Str × V)) (dd : Option Addr) (us : List Value) (n : Nat) (sl : Array (Option Value)) (b : Bool), xs = [.ref a, .ref tp] ∧ ErrAt H a D dv fs ∧ ExcC X.K D ∧ X.K.lookup tp = some ⟨.type "tuple", dd, .seq us.toArray n, sl⟩ ∧ PySem.W.kitAny X.K (.ref D) us = some b ∧ Q (.bl b) H) := by
  intro pins s σ H xs us Q I r h
  obtain ⟨a, D, tp, dv, fs, dd, ws, n, sl, b, rfl, he, C, hT, e, q⟩ := h
  obtain ⟨u1, u2, rfl, r1, r2⟩ := vals2 r
  cases (show u1 = Value.ref a from r1)
  cases (show u2 = Value.ref tp from r2)
  obtain ⟨oe, od, J, _⟩ := err_inst I he
  have hcl : (PySem.W.clsIn X.K D).isSome = true := by
    obtain ⟨cd, hc, _⟩ := PySem.W.any_some C.hd
    rw [hc]
    rfl
  exact PySem.W.kia_tup (PySem.W.kitx_exc hcl C.hg C.hk C.hs C.ha C.hn C.ht C.hm) I.kIn J (I.kIn _ _ hT) e (fun z => nomatch z) fun tk => ⟨.bl b, H, I.tok tk, rfl, q⟩
def fIsXU (tab : Option Nat → D → Option Bool) (ds : List D) : Option (Bool × D) := match ds with
  | [.exc c y, .tup (t :: ts)] => if (t :: ts).all clOk = true then fIsXT tab [.exc c y, .tup (t :: ts)] else none
  | _ => none
abbrev rIsXU (K : PySem.W.Frag) : List V → Hp → VK → Prop := fun xs H Q => (∃ (a D tp : Addr) (dv : Option Addr) (fs : List (Str × V)) (cs : List V) (us : List Value) (b : Bool), xs = [.ref a, .ref tp] ∧ ErrAt H a D dv fs ∧ ExcC K D ∧ H tp = some (.tup cs) ∧ Paired ClsV cs us ∧ PySem.W.kitAny K (.ref D) us = some b ∧ Q (.bl b) H) ∨
  (∃ (a D tp : Addr) (dv : Option Addr) (fs : List (Str × V)) (dd : Option Addr) (us : List Value) (n : Nat) (sl : Array (Option Value)) (b : Bool), xs = [.ref a, .ref tp] ∧ ErrAt H a D dv fs ∧ ExcC K D ∧ K.lookup tp = some ⟨.type "tuple", dd, .seq us.toArray n, sl⟩ ∧ PySem.W.kitAny K (.ref D) us = some b ∧ Q (.bl b) H)
theorem p_isXU {tab : Option Nat → D → Option Bool} (ok : TabOk W.K W.cls tab) : PureN W (rIsXU W.K) (fIsXU tab) := by
  intro S H vs ds c Q hd h hf r
  unfold fIsXU at hf
  split at hf
  · rename_i c y t ts
    split at hf
    · rename_i hcl
      obtain ⟨v, u, rfl, dv, du⟩ := h.two
      obtain ⟨b, e1, rfl⟩ := Option.map_eq_some_iff.mp (show (anyT tab c (t :: ts)).map _ = _ from hf)
      obtain ⟨a, dv', fs, rfl, ea, _⟩ := dv_exc dv
      have hC : ExcC W.K (W.cls c) := by
        obtain ⟨b1, e2, _⟩ := Option.bind_eq_some_iff.mp (show ((tab (some c) t).bind _) = _ from e1)
        exact (ok.exc c t b1 e2).1
      cases du with
      | tup ha dl =>
        obtain ⟨us, hu, hk⟩ := anyT_ok ok dl e1 fun x hx => clOk_v (List.all_eq_true.mp hcl x hx)
        rcases ha with ⟨_, ha⟩ | (ha | ⟨_, ha⟩) | ⟨o, its, n, h1, h2, h3, _, h5⟩
        · exact .inl ⟨a, _, _, dv', fs, _, us, b, rfl, ea, hC, ha, hu, hk, r.bl hd⟩
        · cases ha
        · cases ha
        · obtain ⟨oc, od, dt, sl⟩ := o
          simp only at h2 h3
          subst h2 h3
          have hi := ClsV.all hu h5
          refine .inr ⟨a, _, _, dv', fs, od, us, n, sl, b, rfl, ea, hC, ?_, hk, r.bl hd⟩
          rw [← hi]
          exact h1
    · cases hf
  · cases hf
theorem e_isXU {tab : Option Nat → D → Option Bool} (hK : X.K = W.K) (ok : TabOk W.K W.cls tab) (hm : X.mg "isinstance" = none) (hv : bootBuiltins "isinstance" = some (.builtin "isinstance")) (ha : PA X [a, b] (TVs W rs)) (hg : Gl X "isinstance" := by rfl)
    (he : starEach [a, b] X.env = (false, eval a X.env) :: starEach [b] X.env := by rfl) (hpl : (backTo pos (starEach [b] X.env)).any (·.1) = false := by rfl) : PE X (.Call (.Name "isinstance" p) [a, b] [] pos) (TV W (runN rs (fIsXU tab))) :=
  pe_weak (pe_callB (call_isXT.or call_isXK) hg hm hv ha (by decide) (by decide) he hpl) fun _ _ _ h => by rw [hK]; exact tvN (p_isXU ok) h
theorem bt_ValueError : bootBuiltins "ValueError" = some (.type "ValueError") := by decide +kernel
end
end Sx
set_option Elab.async false
set_option linter.all false
set_option maxRecDepth 100000
set_option maxHeartbeats 4000000
set_option autoImplicit false
/-! an own error made with keywords: the kit's road for arguments by position, turned to keywords -/
namespace Sx
open PySem PySem.HandSPX
section
variable {M : Model} {prog : Program} {w : World} {A : Around} {E : Value → Shared → Prop} {R : Result → Shared → Prop} {hp : Heap} {gs : Array GenState} {dr : Drawn} {tk : Nat} {os : OsState}
variable {nm qn : Str} {C N : Addr} {bs bm bmB : List Value} {hd : Bool} {sn : List Str} {sub : List Value} {ab : Bool} {col : Option Bool} {dd : Option Addr} {k0 k1 k2 k3 k5 : Option Value} {B newId initId : String} {rest : List Value} {kw : List (Str × Value)}
theorem kw_check_new (F : ExcBaseFacts B newId initId bmB) (hT : ∀ Z : String, bm.contains (.type Z) = bmB.contains (.type Z)) {Q : Unit → Shared → Prop}
    (cl : hp.get? C = some (excClassObj nm qn C N bs bm hd sn sub ab col dd k0 k1 k2 k3 k5 newId)) (hq : Q () ⟨hp, gs, dr, tk, os⟩) : wpAny M A (checkBuiltinCall newId ⟨.ref C :: rest, kw⟩) Q E ⟨hp, gs, dr, tk, os⟩ := by
  have inB : (Value.ref C :: bm).contains (.type B) = true := by
    rw [List.contains_cons, hT]
    rw [F.hasB, Bool.or_true]
  have st := F.noStar
  simp only [checkBuiltinCall, F.newSplit, F.newKind, F.newRow]
  repeat (first | refine wpAny_loadPart_at cl ?_ | (refine wpAny_isSubtype_exc cl ?_; rw [inB]) | refine wpAny_staticBase_exc cl ?_ | refine wpAny_madeBy_exc cl ?_ | simp only [bne_self_eq_false, Bool.false_eq_true, if_false] | wp_step)
  exact hq
theorem kw_new (F : ExcBaseFacts B newId initId bmB) (hT : ∀ Z : String, bm.contains (.type Z) = bmB.contains (.type Z))
    (cl : hp.get? C = some (excClassObj nm qn C N bs bm hd sn sub ab col dd k0 k1 k2 k3 k5 newId)) (hz : rest.length ≤ sizeLine)
    (hq : R (.ok (.ret (.ref (hp.objs.size + 1)))) ⟨(hp.push (W.kdv_tup rest)).push (excO C hp.objs.size), gs, dr, tk, os⟩) : codeAny (model prog w) A (.builtin newId ⟨.ref C :: rest, kw⟩) R ⟨hp, gs, dr, tk, os⟩ := by
  have en := F.ends
  have inB : (Value.ref C :: bm).contains (.type B) = true := by
    rw [List.contains_cons, hT]
    rw [F.hasB, Bool.or_true]
  have inA : (Value.ref C :: bm).contains (.type "AttributeError") = false := by
    rw [List.contains_cons, hT, F.noAttr]
    rfl
  have inN : (Value.ref C :: bm).contains (.type "NameError") = false := by
    rw [List.contains_cons, hT, F.noName]
    rfl
  refine codeAny_builtinAt F.entry ?_
  unfold Builtin.«BaseException.__new__»
  refine wpAt_bind ?_
  show wpAt _ _ _ (stack >>= _) _ _ _
  refine wpAt_bind (wpAt_stack fun p below => wpAt_of_wpAny ?_)
  wp_walk
  refine wpAt_of_wpAny ?_
  rw [F.owner]
  repeat (first | with_reducible refine wpAny_madeHere_exc F.canon cl ?_ | with_reducible refine wpAny_loadPart_at cl ?_ | (with_reducible refine wpAny_isSubtype_exc cl ?_; first | rw [inB] | rw [inA] | rw [inN]) | wp_step)
  show R _ _
  rw [Heap.size_push]
  exact hq
theorem kw_type_call (F : ExcBaseFacts B newId initId bmB) (hT : ∀ Z : String, bm.contains (.type Z) = bmB.contains (.type Z)) {fI : Addr} {Q : Fin → Shared → Prop}
    (cl : hp.get? C = some (excClassObj nm qn C N bs bm hd sn sub ab col dd k0 k1 k2 k3 k5 newId)) (hz : rest.length ≤ sizeLine)
    (li : W.Looks (model prog w) hp (typeLookup (.ref C) "__init__") (some (.ref fI))) (lb : ∀ self, W.Looks (model prog w) hp (bindSpecial (.ref fI) self) (.ref fI, [self]))
    (hq : codeAny (model prog w) A (.call (.ref fI) ⟨.ref (hp.objs.size + 1) :: rest, kw⟩) (fun r s' => match r with | .ok (.ret v) => v = .none ∧ Q (.done (.ret (.ref (hp.objs.size + 1)))) s' | .ok _ => False | .error e => E e s') ⟨(hp.push (W.kdv_tup rest)).push (excO C hp.objs.size), gs, dr, tk, os⟩) :
    wpAny (model prog w) A (Builtin.«type.__call__» ⟨.ref C :: rest, kw⟩) Q E ⟨hp, gs, dr, tk, os⟩ := by
  repeat (first | with_reducible refine wpAny_loadPart_at cl ?_ | with_reducible refine wpAny_madeBy_exc cl ?_ | wp_step)
  refine codeAny_call_builtin_code (Code.quiet_builtin _ F.quiet) (kw_check_new F hT cl ?_)
  refine kw_new F hT cl hz ?_
  show wpAny _ _ _ _ _ _
  have kp : ∀ b o, hp.get? b = some o → ((hp.push (W.kdv_tup rest)).push (excO C hp.objs.size)).get? b = some o := fun b o e => Heap.get?_push_of_some _ (Heap.get?_push_of_some _ e)
  have cl1 := kp _ _ cl
  have at1 : ((hp.push (W.kdv_tup rest)).push (excO C hp.objs.size)).get? (hp.objs.size + 1) = some (excO C hp.objs.size) := by heap_get
  have inC : (Value.ref C :: bm).contains (.ref C) = true := by simp
  have li1 := li.keeps kp
  have lb1 := (lb (.ref (hp.objs.size + 1))).keeps kp
  unfold isInstance
  repeat (first | with_reducible refine wpAny_loadPart_at at1 ?_ | (with_reducible refine wpAny_isSubtype_exc cl1 ?_; rw [inC]) | wp_step)
  show wpAny _ _ (typeLookup (.ref C) _) _ _ _
  refine li1.at ?_
  refine wpAny_holding (wpAny_bind (lb1.at ?_))
  refine wpAny_bind (wpAny_call (codeAny_mono hq fun r s' z => ?_))
  rcases r with e | (v | _ | _ | _)
  all_goals first | exact z | exact z.elim | skip
  obtain ⟨rfl, z⟩ := z
  first
    | exact wpAny_pure (wpAny_pure z)
    | (wp_walk; exact z)
theorem kw_check_type (cl : hp.get? C = some (excClassObj nm qn C N bs bm hd sn sub ab col dd k0 k1 k2 k3 k5 newId)) {Q : Unit → Shared → Prop} (hq : Q () ⟨hp, gs, dr, tk, os⟩) : wpAny M A (checkBuiltinCall "type.__call__" ⟨.ref C :: rest, kw⟩) Q E ⟨hp, gs, dr, tk, os⟩ := by
  have ts := tc_sub
  have ty : (⟨hp, gs, dr, tk, os⟩ : Shared).TypeIs (.ref C) "type" := ⟨_, cl, rfl⟩
  simp only [checkBuiltinCall, tc_split, tc_kind]
  repeat (any_goals (first | assumption | with_reducible refine wpAny_loadPart_at cl ?_ | with_reducible refine wpAny_onRaise ?_ | with_reducible refine wpAny_map ?_ | wp_step))
theorem kw_call_own (F : ExcBaseFacts B newId initId bmB) (hT : ∀ Z : String, bm.contains (.type Z) = bmB.contains (.type Z)) {fI : Addr}
    (cl : hp.get? C = some (excClassObj nm qn C N bs bm hd sn sub ab col dd k0 k1 k2 k3 k5 newId)) (hz : rest.length ≤ sizeLine)
    (li : W.Looks (model prog w) hp (typeLookup (.ref C) "__init__") (some (.ref fI))) (lb : ∀ self, W.Looks (model prog w) hp (bindSpecial (.ref fI) self) (.ref fI, [self]))
    (hq : codeAny (model prog w) (A.under (.builtin "type.__call__" ⟨.ref C :: rest, kw⟩)) (.call (.ref fI) ⟨.ref (hp.objs.size + 1) :: rest, kw⟩) (W.InitBack (hp.objs.size + 1) R) ⟨(hp.push (W.kdv_tup rest)).push (excO C hp.objs.size), gs, dr, tk, os⟩) :
    codeAny (model prog w) A (.call (.ref C) ⟨rest, kw⟩) R ⟨hp, gs, dr, tk, os⟩ := by
  have t1 := tc_lookup
  have t2 := tc_bind (.ref C)
  have ty : (⟨hp, gs, dr, tk, os⟩ : Shared).TypeIs (.ref C) "type" := ⟨_, cl, rfl⟩
  refine codeAny_of_tree ?_
  show wpAny _ _ (callAny (.ref C) _) _ _ _
  repeat (any_goals (first | assumption | with_reducible refine wpAny_loadPart_at cl ?_ | wp_step))
  refine ⟨rfl, ?_⟩
  refine codeAny_call_builtin_at (Code.quiet_builtin _ (by decide +kernel)) entry_typeCall (kw_check_type cl (kw_type_call F hT cl hz li lb ?_))
  refine codeAny_mono hq fun r s' z => ?_
  rcases r with e | (v | _ | _ | _)
  · exact z
  · exact z
  · exact z
  · exact z
  · exact z
end
end Sx
set_option Elab.async false
set_option linter.all false
set_option maxRecDepth 100000
set_option maxHeartbeats 4000000
set_option autoImplicit false
namespace Sx
section
open PySem PySem.W PySem.Calls PyProof.Rows PySem.HandSPX
/-- what the class's __init__ does, with these arguments and keywords -/
def ErIK (prog : Program) (w : World) (K : Frag) (mg : Str → Option Value) (C fI : Addr) (rest : List Value) (kw : List (Str × Value)) (fl : Option (Str × Value)) : Prop :=
  ∀ (A : Around) (R : Result → Shared → Prop) (s : Shared) (mb : Str → Option Value) (x t0 : Addr), K.In s.heap → s.heap.Ns mainGlobals mg → s.heap.Ns builtinsNs mb → mb "super" = some (.type "super") → s.heap.NoLimit → K.lookup x = none → s.heap.get? x = some (excO C t0) → A.depth < recursionLimit →
    (∀ h' tk dv, ErEnd s.heap h' x C fl dv → R (.ok (.ret .none)) { s with heap := h', toks := tk }) → codeAny (model prog w) A (.call (.ref fI) ⟨.ref x :: rest, kw⟩) R s
section
variable {prog : Program} {w : World} {A : Around} {E : Value → Shared → Prop} {R : Result → Shared → Prop} {s : Shared} {K : Frag} {mg mb : Str → Option Value} {C fI cc cda : Addr} {q : Str} {params : Arguments} {body : List Stmt} {scope : Scope}
theorem er_init1K (T : ErK prog K mg C fI cc cda) (Fd : ErF K fI cc cda q params body scope) {f : Str} (hB : erB1 body f) (hf : scope.names.lookup f = some .local) (hfs : ¬ f = "self") (hfd : (f == ("__debug__" : Str)) = false) (noN : findIn K (.ref C) f = some none) (X : K.In s.heap) (g : s.heap.Ns mainGlobals mg) (b : s.heap.Ns builtinsNs mb) (hmb : mb "super" = some (.type "super")) (lim : s.heap.NoLimit) {x t0 : Addr} {v : Value} (hnx : K.lookup x = none) (hx : s.heap.get? x = some (excO C t0)) (hroom : A.depth < recursionLimit)
    (hbind : ∀ (kV doc pm ct : Value) (an : Option Addr), BindsTo s (ksFn "__init__" q params body scope .none kV doc pm an (.ref cda) ct cc) ⟨[.ref x], [(f, v)]⟩ [("self", .ref x), (f, v)])
    (hsw : ∀ (env : Env) (a b : Pos) (q1 q2 : Pos) (l : Nat), swapsWith (.Name f a) (some (.Attribute (.Name "self" q1) f q2)) l env = pure false)
    (hq : ∀ h' tk dx, ErEnd s.heap h' x C (some (f, v)) (some dx) → R (.ok (.ret .none)) { s with heap := h', toks := tk }) : codeAny (model prog w) A (.call (.ref fI) ⟨[.ref x], [(f, v)]⟩) R s := by
  obtain ⟨oc, od, kV, doc, pm, an, ct, osl, lk⟩ := Fd.lk
  obtain ⟨ar, har, hself⟩ := Fd.hd
  obtain ⟨p0, p1, p2, p3, p4, p5, txt, kk, q1, q2, q3, q4, rfl, hpos⟩ := hB
  obtain ⟨nm, qn, N, bs, bm, sn, sub, ab, col, dd, k0, k1, k2, k3, k5, hC, hbm, hal⟩ := T.cls
  have hcl : clsIn K C = some { name := nm, bases := bs, mro := .ref C :: bm, ns := N, qualname := qn, hasDict := true, slotNames := sn, subclasses := sub, abstract := ab, collection := col, hasDel := false } := by unfold clsIn; rw [hC] <;> rfl
  refine ks_codeAny_call_defAt (fd := ksFn "__init__" q params _ scope .none kV doc pm an (.ref cda) ct cc) (binds := [("self", .ref x), (f, v)]) hroom (X _ _ lk) rfl lim (codeRec_of X Fd.cd) rfl (hbind _ _ _ _ _) Fd.cell (fun y hy => by
    rcases List.mem_cons.mp hy with e | hy
    · rw [e]; exact Fd.self
    · rw [List.mem_singleton.mp hy]; exact hf) (fun h₀ hns k₀ => ?_) Fd.co Fd.gen Fd.kind
  have hsf : (("self" : Str) == f) = false := by
    cases z : (("self" : Str) == f) with
    | false => rfl
    | true => exact absurd (eq_of_beq z).symm hfs
  have m1 : ([("self", Value.ref x), (f, v)] : List (Str × Value)).reverse.lookup ("self" : Str) = some (.ref x) := by
    show List.lookup ("self" : Str) [(f, v), ("self", Value.ref x)] = _
    rw [List.lookup_cons, hsf]
    rfl
  have m2 : ([("self", Value.ref x), (f, v)] : List (Str × Value)).reverse.lookup f = some v := by
    show List.lookup f [(f, v), ("self", Value.ref x)] = _
    rw [List.lookup_cons, beq_self_eq_true]
  refine ks_wpAt_execs_cons (ks_wpAt_Expr_any (hi := er_int Fd.kind) (er_super (m := fun y => ([("self", Value.ref x), (f, v)] : List (Str × Value)).reverse.lookup y) (mb := mb) T (X.keeps k₀) lk har hns (by rw [hself]; exact m1) (k₀ _ _ hx) (g.keeps k₀) (b.keeps k₀) hmb hpos Fd.hks Fd.hkc (by rw [hself]; exact Fd.self) Fd.kind fun h' tk t1 k e => ?_))
  have sL : s.heap.objs.size ≠ x := Nat.ne_of_gt (Heap.lt_size hx)
  have kL : ∀ b o, s.heap.get? b = some o → b ≠ x → h'.get? b = some o := fun b o z ne => k b o ne (k₀ b o z)
  have X1 : K.In h' := fun a o z => kL a o (X a o z) fun ea => by rw [ea, hnx] at z; cases z
  have hn1 : h'.Ns s.heap.objs.size (fun y => ([("self", Value.ref x), (f, v)] : List (Str × Value)).reverse.lookup y) := by
    obtain ⟨oL, es, ep, hL, r⟩ := hns
    exact ⟨oL, es, ep, k _ _ sL hL, r⟩
  refine wpAt_of_wpAny (wpAny_execs_cons (plainObj_wpAny_Assign_Attribute ?_ (hsw _ _ q3 _ _ _)))
  refine wpAny_Name (wpAny_loadName_local (v := v) Fd.kind hf hn1 m2 ?_) hfd
  refine wpAny_Name (wpAny_loadName_local (v := .ref x) Fd.kind Fd.self hn1 m1 ?_) (by decide)
  refine set_plain X1 (ox := excO C t1) (od := none) ⟨e, rfl, rfl, trivial⟩ T.sa ?_
  refine exc_osa X1 e hcl (show refsVE (.ref C :: bm) = true from hbm) rfl noN (fun h₃ tk₃ dx k₃ dn dne hx₃ hn₃ => ?_)
  show wpAny _ _ (execs _ _) _ _ _
  have sz : s.heap.objs.size ≤ h'.objs.size := by
    obtain ⟨oL, es, ep, hL, r⟩ := hn1
    exact Nat.le_of_lt (Heap.lt_size hL)
  exact wpAny_execs_nil (hq h₃ tk₃ dx ⟨fun b o ne z => k₃ b o ne (kL b o z ne), ⟨t1, hx₃⟩, dx, rfl, Nat.le_trans sz dn, dne, hn₃⟩)
end
section
variable {prog : Program} {w : World} {A : Around} {E : Value → Shared → Prop} {R : Result → Shared → Prop} {s : Shared} {K : Frag} {mg mb : Str → Option Value} {C fI cc cda : Addr} {rest : List Value} {kw : List (Str × Value)} {fl : Option (Str × Value)}
theorem er_madeK (T : ErK prog K mg C fI cc cda) (hI : ErIK prog w K mg C fI rest kw fl) (X : K.In s.heap) (g : s.heap.Ns mainGlobals mg) (b : s.heap.Ns builtinsNs mb) (hmb : mb "super" = some (.type "super")) (lim : s.heap.NoLimit) (hroom : A.depth + 1 < recursionLimit) (hz : rest.length ≤ sizeLine)
    (hq : ∀ h' tk e dv, ErMade s.heap h' e C fl dv → R (.ok (.ret (.ref e))) { s with heap := h', toks := tk }) : codeAny (model prog w) A (.call (.ref C) ⟨rest, kw⟩) R s := by
  obtain ⟨nm, q, N, bs, bm, sn, sub, ab, col, dd, k0, k1, k2, k3, k5, hC, hbm, _⟩ := T.cls
  obtain ⟨hp, gg, dr, tk, os⟩ := s
  have k : ∀ b o, hp.get? b = some o → ((hp.push (kdv_tup rest)).push (excO C hp.objs.size)).get? b = some o := fun b o e => Heap.get?_push_of_some _ (Heap.get?_push_of_some _ e)
  have hget : ((hp.push (kdv_tup rest)).push (excO C hp.objs.size)).get? (hp.objs.size + 1) = some (excO C hp.objs.size) := by heap_get
  have hnx : K.lookup (hp.objs.size + 1) = none := by
    cases e : K.lookup (hp.objs.size + 1) with
    | none => rfl
    | some o =>
      have z : hp.get? (hp.objs.size + 1) = some o := X _ _ e
      exact absurd (Nat.lt_of_succ_lt (Heap.lt_size z)) (Nat.lt_irrefl _)
  refine kw_call_own F.excBase_ValueError (fun X => refsVE_contains X bm hbm) (X _ _ hC) hz (looks_findIn X T.iC) (fun self => bind_fn X self T.tC) ?_
  refine hI _ _ ⟨(hp.push (kdv_tup rest)).push (excO C hp.objs.size), gg, dr, tk, os⟩ mb _ _ (X.keeps k) (g.keeps k) (b.keeps k) hmb (lim.keeps k) hnx hget ?_ fun h' tk' dv M => ?_
  · show A.depth + 1 < recursionLimit
    exact hroom
  · obtain ⟨k', ⟨t1, hx⟩, dic⟩ := M
    have old : ∀ b o, hp.get? b = some o → h'.get? b = some o := fun b o e => k' b o (Nat.ne_of_lt (Nat.lt_succ_of_lt (Heap.lt_size e))) (k b o e)
    refine ⟨rfl, hq h' tk' (hp.objs.size + 1) dv ⟨old, Nat.le_succ _, ⟨_, _, hx, rfl, rfl, rfl, rfl⟩, ?_⟩⟩
    cases fl with
    | none => exact dic
    | some p =>
      obtain ⟨d, e1, dn, dne, hns⟩ := dic
      refine ⟨d, e1, ?_, dne, hns⟩
      have : ((hp.push (kdv_tup rest)).push (excO C hp.objs.size)).objs.size ≤ d := dn
      rw [Heap.size_push, Heap.size_push] at this
      exact Nat.le_trans (show hp.objs.size ≤ hp.objs.size + 1 + 1 by omega) this
end
end
end Sx
namespace Sx
open PySem L2 PySem.Spec PyProof.Rows
section
variable {X : Cx} {C fI cc cda : Addr}
/-! ### such an error as a value -/
theorem er_put1 {pins : List (Addr × Obj)} {σ : L2.St} {H : Hp} {hp h' : Heap} {g : Array GenState} {dr : Drawn} {tk tk' : Tok} {os : OsState} {e : Addr} {f : Str} {v : V} {v' : Value} {dv : Option Addr} (I : Inv X pins σ H ⟨hp, g, dr, tk, os⟩) (hex : X.ex = []) (rv : RelV v v') (M : ErMade hp h' e C (some (f, v')) dv) :
    ∃ d, H d = none ∧ H e = none ∧ e ≠ d ∧ Inv X pins σ (upd (upd H d (.xd [(f, v)])) e (ExcO (.ref C) (some d) e)) ⟨h', g, dr, tk', os⟩ := by
  obtain ⟨oe, fv, hoe, hc, hd, hdat, h1⟩ := M.obj
  obtain ⟨d, rfl, dbig, dne, hns⟩ := M.dic
  have ob : ObjOk X.prog X.w (upd H d (.xd [(f, v)])) h' d (.xd [(f, v)]) := ⟨_, hns.at (fun o q => q), fun y => relO_er rv f y⟩
  have J : Inv X pins σ (upd H d (.xd [(f, v)])) ⟨h', g, dr, tk', os⟩ := I.laid (t' := tk') M.keep dbig ob
  have nd := I.hok.fresh dbig
  have ne := I.hok.fresh M.new
  refine ⟨d, nd, ne, Ne.symm dne, inv_ghost J hoe ⟨hc, hd⟩ hdat ((upd_ne (Ne.symm dne)).trans ne) (fun o z => ?_) fun p hp z => ?_⟩
  · obtain ⟨o2, e2⟩ := I.base.there e o z (by rw [hex]; simp)
    exact absurd (Heap.lt_size e2) (Nat.not_lt.mpr M.new)
  · have q := (I.pin p hp).1
    rw [z] at q
    exact absurd (Heap.lt_size q) (Nat.not_lt.mpr M.new)
theorem er_put0 {pins : List (Addr × Obj)} {σ : L2.St} {H : Hp} {hp h' : Heap} {g : Array GenState} {dr : Drawn} {tk tk' : Tok} {os : OsState} {e : Addr} {dv : Option Addr} (I : Inv X pins σ H ⟨hp, g, dr, tk, os⟩) (hex : X.ex = []) (M : ErMade hp h' e C none dv) :
    H e = none ∧ Inv X pins σ (upd H e (ExcO (.ref C) none e)) ⟨h', g, dr, tk', os⟩ := by
  obtain ⟨oe, fv, hoe, hc, hd, hdat, h1⟩ := M.obj
  cases (show dv = none from M.dic)
  have J : Inv X pins σ H ⟨h', g, dr, tk', os⟩ := I.kept (t' := tk') M.keep
  have ne := I.hok.fresh M.new
  refine ⟨ne, inv_ghost J hoe ⟨hc, hd⟩ hdat ne (fun o z => ?_) fun p hp z => ?_⟩
  · obtain ⟨o2, e2⟩ := I.base.there e o z (by rw [hex]; simp)
    exact absurd (Heap.lt_size e2) (Nat.not_lt.mpr M.new)
  · have q := (I.pin p hp).1
    rw [z] at q
    exact absurd (Heap.lt_size q) (Nat.not_lt.mpr M.new)
/-- C(e), C(f = e) -/
def tNew1 (C : Addr) (f : Str) (ta : TA) : TE := fun σ H Q => ta σ H fun vs H1 => ∃ v, vs = [v] ∧ ∀ d e, H1 d = none → H1 e = none → e ≠ d → Q (.ref e) (upd (upd H1 d (.xd [(f, v)])) e (ExcO (.ref C) (some d) e))
/-- C() -/
def tNew0 (C : Addr) : TE := fun σ H Q => ∀ e, H e = none → Q (.ref e) (upd H e (ExcO (.ref C) none e))
theorem pe_new1 {x f : Str} {a : Expr} {ta : TA} {p pos : Pos} {k : Nat} (T : ErK X.prog X.K X.mg C fI cc cda) (hI : ∀ v, ErIK X.prog X.w X.K X.mg C fI [v] [] (some (f, v))) (hm : X.mg x = some (.ref C)) (hr : Room (k + 1) X.A) (hex : X.ex = []) (ha : PA X [a] ta) (hg : Gl X x := by rfl) (hd : (x == ("__debug__" : Str)) = false := by decide)
    (he : starEach (a :: []) X.env = (false, eval a X.env) :: starEach [] X.env := by rfl) (hpl : (backTo pos (starEach [] X.env)).any (·.1) = false := by rfl) :
    PE X (.Call (.Name x p) [a] [] pos) (tNew1 C f ta) := by
  refine ⟨fun pins s σ H Q I h => wpAny_Call_Name_kw (ld_glob I hg hm ?_ hd)⟩
  refine PySem.W.callWith_K (h₀ := X.base) I.ok.mod.kin T.kC (thn (ha.run pos pins s σ H _ I h) fun us s1 hh => ?_) he hpl
  obtain ⟨vs, H1, I1, r1, v, ev, q1⟩ := hh
  subst ev
  refine ⟨I1.kIn, ?_⟩
  cases r1 with
  | cons rv rn =>
    rename_i v' us'
    cases rn
    show wpAny _ _ (call (.ref C) [v']) _ _ _
    have hlim := I1.nolimit
    obtain ⟨mb, b1, b2⟩ := er_blt I1.ok
    have gl := I1.mod.glob.keeps I1.bk
    have bl := b1.keeps I1.bk
    obtain ⟨hp, g, dr, tk, os⟩ := s1
    refine wpAny_call (er_madeK (mb := mb) T (hI v') I1.kIn gl bl b2 hlim (by have := hr.dp; omega) (by rw [sizeLine_eq]; show 1 ≤ 16777216; decide) fun h' tk' e dv M => ?_)
    obtain ⟨d, n1, n2, n3, J⟩ := er_put1 (tk' := tk') I1 hex rv M
    exact ⟨.ref e, _, J, rfl, q1 d e n1 n2 n3⟩
theorem pe_newK {x f : Str} {a : Expr} {ta : TA} {p pos kpos : Pos} {k : Nat} (T : ErK X.prog X.K X.mg C fI cc cda) (hI : ∀ v, ErIK X.prog X.w X.K X.mg C fI [] [(f, v)] (some (f, v))) (hm : X.mg x = some (.ref C)) (hr : Room (k + 1) X.A) (hex : X.ex = []) (ha : PK X [⟨some f, a, kpos⟩] ta) (hg : Gl X x := by rfl) (hd : (x == ("__debug__" : Str)) = false := by decide)
    (hall : (backToKw pos (keywordEach [⟨some f, a, kpos⟩] X.env)).all (·.1.isSome) = true := by rfl) (hks : (backToKw pos (keywordEach [⟨some f, a, kpos⟩] X.env)).filterMap (·.1) = [f] := by rfl)
    (hpl : ((backTo pos (starEach [] X.env)).any (·.1) || (backToKw pos (keywordEach [⟨some f, a, kpos⟩] X.env)).any (·.1.isNone)) = false := by rfl) :
    PE X (.Call (.Name x p) [] [⟨some f, a, kpos⟩] pos) (tNew1 C f ta) := by
  refine ⟨fun pins s σ H Q I h => wpAny_Call_Name_kw (ld_glob I hg hm ?_ hd)⟩
  refine PySem.W.callWith_KW0 (h₀ := X.base) I.ok.mod.kin T.kC hall ?_ hpl
  refine thn (ha.run pos pins s σ H _ I h) fun us s1 hh => ?_
  obtain ⟨vs, H1, I1, r1, v, ev, q1⟩ := hh
  subst ev
  refine ⟨I1.kIn, ?_⟩
  rw [hks]
  cases r1 with
  | cons rv rn =>
    rename_i v' us'
    cases rn
    show wpAny _ _ (call (.ref C) [] [(f, v')]) _ _ _
    have hlim := I1.nolimit
    obtain ⟨mb, b1, b2⟩ := er_blt I1.ok
    have gl := I1.mod.glob.keeps I1.bk
    have bl := b1.keeps I1.bk
    obtain ⟨hp, g, dr, tk, os⟩ := s1
    refine wpAny_call (er_madeK (mb := mb) (rest := []) T (hI v') I1.kIn gl bl b2 hlim (by have := hr.dp; omega) (by rw [sizeLine_eq]; show 0 ≤ 16777216; decide) fun h' tk' e dv M => ?_)
    obtain ⟨d, n1, n2, n3, J⟩ := er_put1 (tk' := tk') I1 hex rv M
    exact ⟨.ref e, _, J, rfl, q1 d e n1 n2 n3⟩
theorem pe_new0 {x : Str} {p pos : Pos} {k : Nat} (T : ErK X.prog X.K X.mg C fI cc cda) (hI : ErIK X.prog X.w X.K X.mg C fI [] [] none) (hm : X.mg x = some (.ref C)) (hr : Room (k + 1) X.A) (hex : X.ex = []) (hg : Gl X x := by rfl) (hd : (x == ("__debug__" : Str)) = false := by decide) :
    PE X (.Call (.Name x p) [] [] pos) (tNew0 C) := by
  refine ⟨fun pins s σ H Q I h => wpAny_Call_Name_kw (ld_glob I hg hm ?_ hd)⟩
  refine PySem.W.callWith_K0 I.kIn T.kC ?_
  have hlim := I.nolimit
  obtain ⟨mb, b1, b2⟩ := er_blt I.ok
  have gl := I.mod.glob.keeps I.bk
  have bl := b1.keeps I.bk
  obtain ⟨hp, g, dr, tk, os⟩ := s
  refine wpAny_call (er_madeK (mb := mb) (rest := []) T hI I.kIn gl bl b2 hlim (by have := hr.dp; omega) (by rw [sizeLine_eq]; show 0 ≤ 16777216; decide) fun h' tk' e dv M => ?_)
  obtain ⟨n1, J⟩ := er_put0 (tk' := tk') I hex M
  exact ⟨.ref e, _, J, rfl, h e n1⟩
end
/-! ### by data -/
def mkEx (c : Nat) (f : Str) (ds : List D) : Option (Bool × D) := match ds with
  | [d] => some0 (.exc c [(f, d)])
  | _ => none
def mkEx0 (c : Nat) (ds : List D) : Option (Bool × D) := match ds with
  | [] => some0 (.exc c [])
  | _ => none
section
variable {X : Cx} {W : Wd} {σ : L2.St} {H : Hp} {Q : VK} {rs : Runs} {c : Nat} {f : Str}
theorem tv_new1 (h : TV W (rDisp (mkEx c f) rs) σ H Q) : tNew1 (W.cls c) f (TVs W rs) σ H Q := by
  obtain ⟨S, P, en, R, w⟩ := h
  refine ⟨S, P, en, R, T.wp_mono ((T.wp_bind _ _ _).mp w) fun r q vs H1 S1 P1 e1 R1 pe => ?_⟩
  obtain ⟨z, ez, qz⟩ := wp_ret1 q
  obtain ⟨ds, hds, ez⟩ := Option.bind_eq_some_iff.mp ez
  have dl := pe.only hds
  match ds, ez with
  | [], ez => cases ez
  | _ :: _ :: _, ez => cases ez
  | [d], ez =>
    cases ez
    match vs, dl with
    | [v], dl =>
      obtain ⟨t1, dv⟩ : Tin S1 v d ∧ Dv W S1 H1 v d := by
        cases dl with
        | cons t dv _ => exact ⟨t, dv⟩
      refine ⟨v, rfl, fun dd e hdd hee ne => ?_⟩
      have dom := R1.dom
      have k1 : ∀ a o, H1 a = some o → upd (upd H1 dd (.xd [(f, v)])) e (ExcO (.ref (W.cls c)) (some dd) e) a = some o := fun a o q => by
        rw [upd_ne (fun z => by rw [z, hee] at q; cases q), upd_ne (fun z => by rw [z, hdd] at q; cases q)]
        exact q
      have keepS : ∀ a, S1 a → upd (upd H1 dd (.xd [(f, v)])) e (ExcO (.ref (W.cls c)) (some dd) e) a = H1 a := fun a s => by
        obtain ⟨o, z⟩ := dom a s
        rw [k1 a o z, z]
      have res : PRes W S1 H1 (false, .exc c [(f, d)]) Q := R1.res fun v' H' S' P' e' R' ok => qz v' H' S' P' (e1.trans e') R' ok
      have atd : upd (upd H1 dd (.xd [(f, v)])) e (ExcO (.ref (W.cls c)) (some dd) e) dd = some (.xd [(f, v)]) := (upd_ne (Ne.symm ne)).trans upd_same
      refine res (.ref e) _ (fun a => S1 a ∨ a = dd ∨ a = e) k1 (fun a h => .inl h) (fun a h => h.imp id fun z => by rcases z with z | z <;> (rw [z]; assumption)) (fun a h => ?_) (.exc upd_same (.inr (.inl rfl)) atd (.cons (t1.mono fun a h => .inl h) (dv.mono (fun a h => .inl h) keepS ?_) .nil)) (fun _ => .inr (.inr rfl)) (fun z => by cases z)
      · rcases h with h | rfl | rfl
        · obtain ⟨o, z⟩ := dom a h
          exact ⟨o, k1 a o z⟩
        · exact ⟨_, atd⟩
        · exact ⟨_, upd_same⟩
      · cases v <;> cases d <;> first | exact trivial | exact keepS _ t1
theorem tv_new0 (h : TV W (rDisp (mkEx0 c) rNil) σ H Q) : tNew0 (W.cls c) σ H Q := by
  obtain ⟨S, P, en, R, w⟩ := h
  intro e hee
  have dom := R.dom
  have k1 : ∀ a o, H a = some o → upd H e (ExcO (.ref (W.cls c)) none e) a = some o := fun a o q => by
    rw [upd_ne (fun z => by rw [z, hee] at q; cases q)]
    exact q
  have res : PRes W S H (false, .exc c []) Q := R.res fun v' H' S' P' e' R' ok => w v' H' S' P' e' R' ok
  refine res (.ref e) _ (add S e) k1 (fun a h => .inl h) (fun a h => h.imp id fun z => by rw [z]; exact hee) (fun a h => ?_) (.exc0 upd_same) (fun _ => .inr rfl) (fun z => by cases z)
  rcases h with h | rfl
  · obtain ⟨o, z⟩ := dom a h
    exact ⟨o, k1 a o z⟩
  · exact ⟨_, upd_same⟩
variable {fI cc cda : Addr} {x : Str} {a : Expr} {p pos kpos : Pos} {k : Nat} {ra : Run}
theorem e_new1 (T : ErK X.prog X.K X.mg (W.cls c) fI cc cda) (hI : ∀ v, ErI X.prog X.w X.K X.mg (W.cls c) fI [v] (some (f, v))) (hm : X.mg x = some (.ref (W.cls c))) (hr : Room (k + 1) X.A) (ha : PA X [a] (TVs W (rCons ra rNil))) (hex : X.ex = [] := by rfl) (hg : Gl X x := by rfl) (hd : (x == ("__debug__" : Str)) = false := by decide)
    (he : starEach (a :: []) X.env = (false, eval a X.env) :: starEach [] X.env := by rfl) (hpl : (backTo pos (starEach [] X.env)).any (·.1) = false := by rfl) :
    PE X (.Call (.Name x p) [a] [] pos) (TV W (rDisp (mkEx c f) (rCons ra rNil))) := pe_weak (pe_new1 T hI hm hr hex ha hg hd he hpl) fun _ _ _ h => tv_new1 h
theorem e_newK (T : ErK X.prog X.K X.mg (W.cls c) fI cc cda) (hI : ∀ v, ErIK X.prog X.w X.K X.mg (W.cls c) fI [] [(f, v)] (some (f, v))) (hm : X.mg x = some (.ref (W.cls c))) (hr : Room (k + 1) X.A) (ha : PK X [⟨some f, a, kpos⟩] (TVs W (rCons ra rNil))) (hex : X.ex = [] := by rfl) (hg : Gl X x := by rfl) (hd : (x == ("__debug__" : Str)) = false := by decide)
    (hall : (backToKw pos (keywordEach [⟨some f, a, kpos⟩] X.env)).all (·.1.isSome) = true := by rfl) (hks : (backToKw pos (keywordEach [⟨some f, a, kpos⟩] X.env)).filterMap (·.1) = [f] := by rfl)
    (hpl : ((backTo pos (starEach [] X.env)).any (·.1) || (backToKw pos (keywordEach [⟨some f, a, kpos⟩] X.env)).any (·.1.isNone)) = false := by rfl) :
    PE X (.Call (.Name x p) [] [⟨some f, a, kpos⟩] pos) (TV W (rDisp (mkEx c f) (rCons ra rNil))) := pe_weak (pe_newK T hI hm hr hex ha hg hd hall hks hpl) fun _ _ _ h => tv_new1 h
theorem e_new0 (T : ErK X.prog X.K X.mg (W.cls c) fI cc cda) (hI : ErI X.prog X.w X.K X.mg (W.cls c) fI [] none) (hm : X.mg x = some (.ref (W.cls c))) (hr : Room (k + 1) X.A) (hex : X.ex = [] := by rfl) (hg : Gl X x := by rfl) (hd : (x == ("__debug__" : Str)) = false := by decide) :
    PE X (.Call (.Name x p) [] [] pos) (TV W (rDisp (mkEx0 c) rNil)) := pe_weak (pe_new0 T hI hm hr hex hg hd) fun _ _ _ h => tv_new0 h
end
end Sx
set_option Elab.async false
set_option linter.all false
set_option maxRecDepth 100000
set_option maxHeartbeats 4000000
set_option autoImplicit false
namespace Sx
open PySem L2 PySem.Spec PyProof.Rows
section
variable {X : Cx} {W : Wd}
/-! list * int -/
def fRepL (x y : D) : Option (Bool × D) := match x, y with
  | .lst ds, .int i => if 0 ≤ i ∧ i ≤ 100 ∧ ds.length ≤ 100 then some1 (.lst (List.replicate i.toNat ds).flatten) else none
  | _, _ => none
theorem p_repL : Pure2 W rRep fRepL := by
  intro S H x y d e c Q hd hx hy h r
  unfold fRepL at h
  split at h
  · rename_i ds i
    split at h
    · rename_i hi
      cases h
      obtain ⟨h1, h2, h3⟩ := hi
      cases hy
      cases hx with
      | @lst a xs _ ha dl =>
        refine ⟨a, i, xs, rfl, rfl, ha, by omega, by omega, ?_, PRes.lst hd (DvL.rep dl i.toNat) r⟩
        rw [dl.len, sizeLine_eq]
        have : ds.length * i.toNat ≤ 100 * 100 := Nat.mul_le_mul h3 (by omega)
        omega
    · cases h
  · cases h
theorem e_repL {a b : Expr} {ra rb : Run} {pos : Pos} (hK : X.K = W.K) (ha : PE X a (TV W ra)) (hb : PE X b (TV W rb)) : PE X (.BinOp a .Mult b pos) (TV W (run2 ra rb fRepL)) := x_bin op_rep p_repL ha hb
end
end Sx
set_option Elab.async false
set_option linter.all false
set_option maxRecDepth 100000
set_option maxHeartbeats 4000000
set_option autoImplicit false
namespace Sx
open PySem L2
def tryS (b : List Stmt) : Stmt := match b with
  | _ :: .Try (s :: _) _ _ _ _ :: _ => s
  | _ => .Pass ⟨0, 0, 0, 0⟩
def tryC (b : List Stmt) : Expr := match tryS b with
  | .Assign _ e _ => e
  | .Expr e _ => e
  | _ => .Name "" ⟨0, 0, 0, 0⟩
def top (i : Nat) : Stmt := PySem.Challenge.pw_strangerows_k08_errors.main.body.getD i (.Pass ⟨0, 0, 0, 0⟩)
abbrev st_w_begin : Stmt := top 13
abbrev st_w_take : Stmt := top 14
abbrev st_w_pick : Stmt := top 15
abbrev st_w_marks : Stmt := top 16
abbrev st_law : Stmt := top 17
theorem sc_w_pick : FnScope ["_law_draw", "_law_some"] ["_law_draw", "_law_some"] (defScope st_w_pick) := ⟨rfl, rfl, rfl, by decide +kernel, rfl, by decide +kernel, by decide +kernel⟩
theorem sc_w_marks : FnScope ["_law_error", "_law_marks_here"] ["_law_error"] (defScope st_w_marks) := ⟨rfl, rfl, rfl, by decide +kernel, rfl, by decide +kernel, by decide +kernel⟩
theorem sc_law : FnScope ["_law_script", "_law_draw", "_law_turn", "_law_some", "_law_thing", "_law_other", "_law_made", "_law_byname", "_law_at", "_law_error", "_law_told", "_law_k"] ["_law_script"] (defScope st_law) := ⟨rfl, rfl, rfl, by decide +kernel, rfl, by decide +kernel, by decide +kernel⟩
abbrev st_e_InvalidTable : Stmt := inClass (top 2) 0
abbrev st_e_UnknownItem : Stmt := inClass (top 3) 0
abbrev st_e_InvalidSet : Stmt := inClass (top 4) 0
abbrev st_e_InvalidFit : Stmt := inClass (top 5) 0
abbrev st_e_InvalidHints : Stmt := inClass (top 6) 0
abbrev st_e_NoFit : Stmt := inClass (top 7) 0
abbrev st_e_NotFound : Stmt := inClass (top 8) 0
abbrev st_e_InvalidEdit : Stmt := inClass (top 9) 0
abbrev st_e_InvalidBlock : Stmt := inClass (top 10) 0
abbrev st_e_InvalidText : Stmt := inClass (top 11) 0
structure Ad where
  (a_w_begin a_w_take a_w_pick a_w_marks a_law : Addr)
  (fd_w_begin fd_w_take fd_w_pick fd_w_marks fd_law : FuncData)
  (e_InvalidTable i_InvalidTable cc_InvalidTable cd_InvalidTable : Addr)
  (e_UnknownItem i_UnknownItem cc_UnknownItem cd_UnknownItem : Addr)
  (e_InvalidSet i_InvalidSet cc_InvalidSet cd_InvalidSet : Addr)
  (e_InvalidFit i_InvalidFit cc_InvalidFit cd_InvalidFit : Addr)
  (e_InvalidHints i_InvalidHints cc_InvalidHints cd_InvalidHints : Addr)
  (e_NoFit i_NoFit cc_NoFit cd_NoFit : Addr)
  (e_NotFound i_NotFound cc_NotFound cd_NotFound : Addr)
  (e_InvalidEdit i_InvalidEdit cc_InvalidEdit cd_InvalidEdit : Addr)
  (e_InvalidBlock i_InvalidBlock cc_InvalidBlock cd_InvalidBlock : Addr)
  (e_InvalidText i_InvalidText cc_InvalidText cd_InvalidText : Addr)
  (e_FitError : Addr)
abbrev Ad.tbl (A : Ad) : List (Addr × Str) := []
abbrev Ad.cls (A : Ad) : CT := ⟨clsL [0, A.e_FitError, A.e_InvalidTable, A.e_UnknownItem, A.e_InvalidSet, A.e_InvalidFit, A.e_InvalidHints, A.e_NoFit, A.e_NotFound, A.e_InvalidEdit, A.e_InvalidBlock, A.e_InvalidText], A.tbl⟩
structure Tx (Pr : Program) (base : Heap) (K : PySem.W.Frag) (mg : Str → Option Value) (A : Ad) : Prop where
  er_InvalidTable : ErK Pr K mg (A.cls 2) A.i_InvalidTable A.cc_InvalidTable A.cd_InvalidTable
  ef_InvalidTable : ErF K A.i_InvalidTable A.cc_InvalidTable A.cd_InvalidTable "InvalidTable.__init__" (defArgs st_e_InvalidTable) (defBody st_e_InvalidTable) (defScope st_e_InvalidTable)
  me_InvalidTable : mg "InvalidTable" = some (.ref (A.cls 2))
  ex_InvalidTable : ExcC K (A.cls 2)
  sb_InvalidTable : PySem.W.exmOne K (.ref (A.cls 2)) (.ref (A.cls 1)) = some true
  no_InvalidTable : PySem.W.findIn K (.ref (A.cls 2)) "part" = some none
  kv_InvalidTable : PySem.W.kitOne K (.ref (A.cls 2)) (.type "ValueError") = some true
  ki_InvalidTable_FitError : PySem.W.kitOne K (.ref (A.cls 2)) (.ref (A.cls 1)) = some true
  ki_InvalidTable_InvalidBlock : PySem.W.kitOne K (.ref (A.cls 2)) (.ref (A.cls 10)) = some false
  ki_InvalidTable_InvalidEdit : PySem.W.kitOne K (.ref (A.cls 2)) (.ref (A.cls 9)) = some false
  ki_InvalidTable_InvalidFit : PySem.W.kitOne K (.ref (A.cls 2)) (.ref (A.cls 5)) = some false
  ki_InvalidTable_InvalidHints : PySem.W.kitOne K (.ref (A.cls 2)) (.ref (A.cls 6)) = some false
  ki_InvalidTable_InvalidSet : PySem.W.kitOne K (.ref (A.cls 2)) (.ref (A.cls 4)) = some false
  ki_InvalidTable_InvalidTable : PySem.W.kitOne K (.ref (A.cls 2)) (.ref (A.cls 2)) = some true
  ki_InvalidTable_InvalidText : PySem.W.kitOne K (.ref (A.cls 2)) (.ref (A.cls 11)) = some false
  ki_InvalidTable_NoFit : PySem.W.kitOne K (.ref (A.cls 2)) (.ref (A.cls 7)) = some false
  ki_InvalidTable_NotFound : PySem.W.kitOne K (.ref (A.cls 2)) (.ref (A.cls 8)) = some false
  ki_InvalidTable_UnknownItem : PySem.W.kitOne K (.ref (A.cls 2)) (.ref (A.cls 3)) = some false
  er_UnknownItem : ErK Pr K mg (A.cls 3) A.i_UnknownItem A.cc_UnknownItem A.cd_UnknownItem
  ef_UnknownItem : ErF K A.i_UnknownItem A.cc_UnknownItem A.cd_UnknownItem "UnknownItem.__init__" (defArgs st_e_UnknownItem) (defBody st_e_UnknownItem) (defScope st_e_UnknownItem)
  me_UnknownItem : mg "UnknownItem" = some (.ref (A.cls 3))
  ex_UnknownItem : ExcC K (A.cls 3)
  sb_UnknownItem : PySem.W.exmOne K (.ref (A.cls 3)) (.ref (A.cls 1)) = some true
  no_UnknownItem : PySem.W.findIn K (.ref (A.cls 3)) "item" = some none
  kv_UnknownItem : PySem.W.kitOne K (.ref (A.cls 3)) (.type "ValueError") = some true
  ki_UnknownItem_FitError : PySem.W.kitOne K (.ref (A.cls 3)) (.ref (A.cls 1)) = some true
  ki_UnknownItem_InvalidBlock : PySem.W.kitOne K (.ref (A.cls 3)) (.ref (A.cls 10)) = some false
  ki_UnknownItem_InvalidEdit : PySem.W.kitOne K (.ref (A.cls 3)) (.ref (A.cls 9)) = some false
  ki_UnknownItem_InvalidFit : PySem.W.kitOne K (.ref (A.cls 3)) (.ref (A.cls 5)) = some false
  ki_UnknownItem_InvalidHints : PySem.W.kitOne K (.ref (A.cls 3)) (.ref (A.cls 6)) = some false
  ki_UnknownItem_InvalidSet : PySem.W.kitOne K (.ref (A.cls 3)) (.ref (A.cls 4)) = some false
  ki_UnknownItem_InvalidTable : PySem.W.kitOne K (.ref (A.cls 3)) (.ref (A.cls 2)) = some false
  ki_UnknownItem_InvalidText : PySem.W.kitOne K (.ref (A.cls 3)) (.ref (A.cls 11)) = some false
  ki_UnknownItem_NoFit : PySem.W.kitOne K (.ref (A.cls 3)) (.ref (A.cls 7)) = some false
  ki_UnknownItem_NotFound : PySem.W.kitOne K (.ref (A.cls 3)) (.ref (A.cls 8)) = some false
  ki_UnknownItem_UnknownItem : PySem.W.kitOne K (.ref (A.cls 3)) (.ref (A.cls 3)) = some true
  er_InvalidSet : ErK Pr K mg (A.cls 4) A.i_InvalidSet A.cc_InvalidSet A.cd_InvalidSet
  ef_InvalidSet : ErF K A.i_InvalidSet A.cc_InvalidSet A.cd_InvalidSet "InvalidSet.__init__" (defArgs st_e_InvalidSet) (defBody st_e_InvalidSet) (defScope st_e_InvalidSet)
  me_InvalidSet : mg "InvalidSet" = some (.ref (A.cls 4))
  ex_InvalidSet : ExcC K (A.cls 4)
  sb_InvalidSet : PySem.W.exmOne K (.ref (A.cls 4)) (.ref (A.cls 1)) = some true
  kv_InvalidSet : PySem.W.kitOne K (.ref (A.cls 4)) (.type "ValueError") = some true
  ki_InvalidSet_FitError : PySem.W.kitOne K (.ref (A.cls 4)) (.ref (A.cls 1)) = some true
  ki_InvalidSet_InvalidBlock : PySem.W.kitOne K (.ref (A.cls 4)) (.ref (A.cls 10)) = some false
  ki_InvalidSet_InvalidEdit : PySem.W.kitOne K (.ref (A.cls 4)) (.ref (A.cls 9)) = some false
  ki_InvalidSet_InvalidFit : PySem.W.kitOne K (.ref (A.cls 4)) (.ref (A.cls 5)) = some false
  ki_InvalidSet_InvalidHints : PySem.W.kitOne K (.ref (A.cls 4)) (.ref (A.cls 6)) = some false
  ki_InvalidSet_InvalidSet : PySem.W.kitOne K (.ref (A.cls 4)) (.ref (A.cls 4)) = some true
  ki_InvalidSet_InvalidTable : PySem.W.kitOne K (.ref (A.cls 4)) (.ref (A.cls 2)) = some false
  ki_InvalidSet_InvalidText : PySem.W.kitOne K (.ref (A.cls 4)) (.ref (A.cls 11)) = some false
  ki_InvalidSet_NoFit : PySem.W.kitOne K (.ref (A.cls 4)) (.ref (A.cls 7)) = some false
  ki_InvalidSet_NotFound : PySem.W.kitOne K (.ref (A.cls 4)) (.ref (A.cls 8)) = some false
  ki_InvalidSet_UnknownItem : PySem.W.kitOne K (.ref (A.cls 4)) (.ref (A.cls 3)) = some false
  er_InvalidFit : ErK Pr K mg (A.cls 5) A.i_InvalidFit A.cc_InvalidFit A.cd_InvalidFit
  ef_InvalidFit : ErF K A.i_InvalidFit A.cc_InvalidFit A.cd_InvalidFit "InvalidFit.__init__" (defArgs st_e_InvalidFit) (defBody st_e_InvalidFit) (defScope st_e_InvalidFit)
  me_InvalidFit : mg "InvalidFit" = some (.ref (A.cls 5))
  ex_InvalidFit : ExcC K (A.cls 5)
  sb_InvalidFit : PySem.W.exmOne K (.ref (A.cls 5)) (.ref (A.cls 1)) = some true
  kv_InvalidFit : PySem.W.kitOne K (.ref (A.cls 5)) (.type "ValueError") = some true
  ki_InvalidFit_FitError : PySem.W.kitOne K (.ref (A.cls 5)) (.ref (A.cls 1)) = some true
  ki_InvalidFit_InvalidBlock : PySem.W.kitOne K (.ref (A.cls 5)) (.ref (A.cls 10)) = some false
  ki_InvalidFit_InvalidEdit : PySem.W.kitOne K (.ref (A.cls 5)) (.ref (A.cls 9)) = some false
  ki_InvalidFit_InvalidFit : PySem.W.kitOne K (.ref (A.cls 5)) (.ref (A.cls 5)) = some true
  ki_InvalidFit_InvalidHints : PySem.W.kitOne K (.ref (A.cls 5)) (.ref (A.cls 6)) = some false
  ki_InvalidFit_InvalidSet : PySem.W.kitOne K (.ref (A.cls 5)) (.ref (A.cls 4)) = some false
  ki_InvalidFit_InvalidTable : PySem.W.kitOne K (.ref (A.cls 5)) (.ref (A.cls 2)) = some false
  ki_InvalidFit_InvalidText : PySem.W.kitOne K (.ref (A.cls 5)) (.ref (A.cls 11)) = some false
  ki_InvalidFit_NoFit : PySem.W.kitOne K (.ref (A.cls 5)) (.ref (A.cls 7)) = some false
  ki_InvalidFit_NotFound : PySem.W.kitOne K (.ref (A.cls 5)) (.ref (A.cls 8)) = some false
  ki_InvalidFit_UnknownItem : PySem.W.kitOne K (.ref (A.cls 5)) (.ref (A.cls 3)) = some false
  er_InvalidHints : ErK Pr K mg (A.cls 6) A.i_InvalidHints A.cc_InvalidHints A.cd_InvalidHints
  ef_InvalidHints : ErF K A.i_InvalidHints A.cc_InvalidHints A.cd_InvalidHints "InvalidHints.__init__" (defArgs st_e_InvalidHints) (defBody st_e_InvalidHints) (defScope st_e_InvalidHints)
  me_InvalidHints : mg "InvalidHints" = some (.ref (A.cls 6))
  ex_InvalidHints : ExcC K (A.cls 6)
  sb_InvalidHints : PySem.W.exmOne K (.ref (A.cls 6)) (.ref (A.cls 1)) = some true
  no_InvalidHints : PySem.W.findIn K (.ref (A.cls 6)) "index" = some none
  kv_InvalidHints : PySem.W.kitOne K (.ref (A.cls 6)) (.type "ValueError") = some true
  ki_InvalidHints_FitError : PySem.W.kitOne K (.ref (A.cls 6)) (.ref (A.cls 1)) = some true
  ki_InvalidHints_InvalidBlock : PySem.W.kitOne K (.ref (A.cls 6)) (.ref (A.cls 10)) = some false
  ki_InvalidHints_InvalidEdit : PySem.W.kitOne K (.ref (A.cls 6)) (.ref (A.cls 9)) = some false
  ki_InvalidHints_InvalidFit : PySem.W.kitOne K (.ref (A.cls 6)) (.ref (A.cls 5)) = some false
  ki_InvalidHints_InvalidHints : PySem.W.kitOne K (.ref (A.cls 6)) (.ref (A.cls 6)) = some true
  ki_InvalidHints_InvalidSet : PySem.W.kitOne K (.ref (A.cls 6)) (.ref (A.cls 4)) = some false
  ki_InvalidHints_InvalidTable : PySem.W.kitOne K (.ref (A.cls 6)) (.ref (A.cls 2)) = some false
  ki_InvalidHints_InvalidText : PySem.W.kitOne K (.ref (A.cls 6)) (.ref (A.cls 11)) = some false
  ki_InvalidHints_NoFit : PySem.W.kitOne K (.ref (A.cls 6)) (.ref (A.cls 7)) = some false
  ki_InvalidHints_NotFound : PySem.W.kitOne K (.ref (A.cls 6)) (.ref (A.cls 8)) = some false
  ki_InvalidHints_UnknownItem : PySem.W.kitOne K (.ref (A.cls 6)) (.ref (A.cls 3)) = some false
  er_NoFit : ErK Pr K mg (A.cls 7) A.i_NoFit A.cc_NoFit A.cd_NoFit
  ef_NoFit : ErF K A.i_NoFit A.cc_NoFit A.cd_NoFit "NoFit.__init__" (defArgs st_e_NoFit) (defBody st_e_NoFit) (defScope st_e_NoFit)
  me_NoFit : mg "NoFit" = some (.ref (A.cls 7))
  ex_NoFit : ExcC K (A.cls 7)
  sb_NoFit : PySem.W.exmOne K (.ref (A.cls 7)) (.ref (A.cls 1)) = some true
  kv_NoFit : PySem.W.kitOne K (.ref (A.cls 7)) (.type "ValueError") = some true
  ki_NoFit_FitError : PySem.W.kitOne K (.ref (A.cls 7)) (.ref (A.cls 1)) = some true
  ki_NoFit_InvalidBlock : PySem.W.kitOne K (.ref (A.cls 7)) (.ref (A.cls 10)) = some false
  ki_NoFit_InvalidEdit : PySem.W.kitOne K (.ref (A.cls 7)) (.ref (A.cls 9)) = some false
  ki_NoFit_InvalidFit : PySem.W.kitOne K (.ref (A.cls 7)) (.ref (A.cls 5)) = some false
  ki_NoFit_InvalidHints : PySem.W.kitOne K (.ref (A.cls 7)) (.ref (A.cls 6)) = some false
  ki_NoFit_InvalidSet : PySem.W.kitOne K (.ref (A.cls 7)) (.ref (A.cls 4)) = some false
  ki_NoFit_InvalidTable : PySem.W.kitOne K (.ref (A.cls 7)) (.ref (A.cls 2)) = some false
  ki_NoFit_InvalidText : PySem.W.kitOne K (.ref (A.cls 7)) (.ref (A.cls 11)) = some false
  ki_NoFit_NoFit : PySem.W.kitOne K (.ref (A.cls 7)) (.ref (A.cls 7)) = some true
  ki_NoFit_NotFound : PySem.W.kitOne K (.ref (A.cls 7)) (.ref (A.cls 8)) = some false
  ki_NoFit_UnknownItem : PySem.W.kitOne K (.ref (A.cls 7)) (.ref (A.cls 3)) = some false
  er_NotFound : ErK Pr K mg (A.cls 8) A.i_NotFound A.cc_NotFound A.cd_NotFound
  ef_NotFound : ErF K A.i_NotFound A.cc_NotFound A.cd_NotFound "NotFound.__init__" (defArgs st_e_NotFound) (defBody st_e_NotFound) (defScope st_e_NotFound)
  me_NotFound : mg "NotFound" = some (.ref (A.cls 8))
  ex_NotFound : ExcC K (A.cls 8)
  sb_NotFound : PySem.W.exmOne K (.ref (A.cls 8)) (.ref (A.cls 1)) = some true
  kv_NotFound : PySem.W.kitOne K (.ref (A.cls 8)) (.type "ValueError") = some true
  ki_NotFound_FitError : PySem.W.kitOne K (.ref (A.cls 8)) (.ref (A.cls 1)) = some true
  ki_NotFound_InvalidBlock : PySem.W.kitOne K (.ref (A.cls 8)) (.ref (A.cls 10)) = some false
  ki_NotFound_InvalidEdit : PySem.W.kitOne K (.ref (A.cls 8)) (.ref (A.cls 9)) = some false
  ki_NotFound_InvalidFit : PySem.W.kitOne K (.ref (A.cls 8)) (.ref (A.cls 5)) = some false
  ki_NotFound_InvalidHints : PySem.W.kitOne K (.ref (A.cls 8)) (.ref (A.cls 6)) = some false
  ki_NotFound_InvalidSet : PySem.W.kitOne K (.ref (A.cls 8)) (.ref (A.cls 4)) = some false
  ki_NotFound_InvalidTable : PySem.W.kitOne K (.ref (A.cls 8)) (.ref (A.cls 2)) = some false
  ki_NotFound_InvalidText : PySem.W.kitOne K (.ref (A.cls 8)) (.ref (A.cls 11)) = some false
  ki_NotFound_NoFit : PySem.W.kitOne K (.ref (A.cls 8)) (.ref (A.cls 7)) = some false
  ki_NotFound_NotFound : PySem.W.kitOne K (.ref (A.cls 8)) (.ref (A.cls 8)) = some true
  ki_NotFound_UnknownItem : PySem.W.kitOne K (.ref (A.cls 8)) (.ref (A.cls 3)) = some false
  er_InvalidEdit : ErK Pr K mg (A.cls 9) A.i_InvalidEdit A.cc_InvalidEdit A.cd_InvalidEdit
  ef_InvalidEdit : ErF K A.i_InvalidEdit A.cc_InvalidEdit A.cd_InvalidEdit "InvalidEdit.__init__" (defArgs st_e_InvalidEdit) (defBody st_e_InvalidEdit) (defScope st_e_InvalidEdit)
  me_InvalidEdit : mg "InvalidEdit" = some (.ref (A.cls 9))
  ex_InvalidEdit : ExcC K (A.cls 9)
  sb_InvalidEdit : PySem.W.exmOne K (.ref (A.cls 9)) (.ref (A.cls 1)) = some true
  kv_InvalidEdit : PySem.W.kitOne K (.ref (A.cls 9)) (.type "ValueError") = some true
  ki_InvalidEdit_FitError : PySem.W.kitOne K (.ref (A.cls 9)) (.ref (A.cls 1)) = some true
  ki_InvalidEdit_InvalidBlock : PySem.W.kitOne K (.ref (A.cls 9)) (.ref (A.cls 10)) = some false
  ki_InvalidEdit_InvalidEdit : PySem.W.kitOne K (.ref (A.cls 9)) (.ref (A.cls 9)) = some true
  ki_InvalidEdit_InvalidFit : PySem.W.kitOne K (.ref (A.cls 9)) (.ref (A.cls 5)) = some false
  ki_InvalidEdit_InvalidHints : PySem.W.kitOne K (.ref (A.cls 9)) (.ref (A.cls 6)) = some false
  ki_InvalidEdit_InvalidSet : PySem.W.kitOne K (.ref (A.cls 9)) (.ref (A.cls 4)) = some false
  ki_InvalidEdit_InvalidTable : PySem.W.kitOne K (.ref (A.cls 9)) (.ref (A.cls 2)) = some false
  ki_InvalidEdit_InvalidText : PySem.W.kitOne K (.ref (A.cls 9)) (.ref (A.cls 11)) = some false
  ki_InvalidEdit_NoFit : PySem.W.kitOne K (.ref (A.cls 9)) (.ref (A.cls 7)) = some false
  ki_InvalidEdit_NotFound : PySem.W.kitOne K (.ref (A.cls 9)) (.ref (A.cls 8)) = some false
  ki_InvalidEdit_UnknownItem : PySem.W.kitOne K (.ref (A.cls 9)) (.ref (A.cls 3)) = some false
  er_InvalidBlock : ErK Pr K mg (A.cls 10) A.i_InvalidBlock A.cc_InvalidBlock A.cd_InvalidBlock
  ef_InvalidBlock : ErF K A.i_InvalidBlock A.cc_InvalidBlock A.cd_InvalidBlock "InvalidBlock.__init__" (defArgs st_e_InvalidBlock) (defBody st_e_InvalidBlock) (defScope st_e_InvalidBlock)
  me_InvalidBlock : mg "InvalidBlock" = some (.ref (A.cls 10))
  ex_InvalidBlock : ExcC K (A.cls 10)
  sb_InvalidBlock : PySem.W.exmOne K (.ref (A.cls 10)) (.ref (A.cls 1)) = some true
  kv_InvalidBlock : PySem.W.kitOne K (.ref (A.cls 10)) (.type "ValueError") = some true
  ki_InvalidBlock_FitError : PySem.W.kitOne K (.ref (A.cls 10)) (.ref (A.cls 1)) = some true
  ki_InvalidBlock_InvalidBlock : PySem.W.kitOne K (.ref (A.cls 10)) (.ref (A.cls 10)) = some true
  ki_InvalidBlock_InvalidEdit : PySem.W.kitOne K (.ref (A.cls 10)) (.ref (A.cls 9)) = some false
  ki_InvalidBlock_InvalidFit : PySem.W.kitOne K (.ref (A.cls 10)) (.ref (A.cls 5)) = some false
  ki_InvalidBlock_InvalidHints : PySem.W.kitOne K (.ref (A.cls 10)) (.ref (A.cls 6)) = some false
  ki_InvalidBlock_InvalidSet : PySem.W.kitOne K (.ref (A.cls 10)) (.ref (A.cls 4)) = some false
  ki_InvalidBlock_InvalidTable : PySem.W.kitOne K (.ref (A.cls 10)) (.ref (A.cls 2)) = some false
  ki_InvalidBlock_InvalidText : PySem.W.kitOne K (.ref (A.cls 10)) (.ref (A.cls 11)) = some false
  ki_InvalidBlock_NoFit : PySem.W.kitOne K (.ref (A.cls 10)) (.ref (A.cls 7)) = some false
  ki_InvalidBlock_NotFound : PySem.W.kitOne K (.ref (A.cls 10)) (.ref (A.cls 8)) = some false
  ki_InvalidBlock_UnknownItem : PySem.W.kitOne K (.ref (A.cls 10)) (.ref (A.cls 3)) = some false
  er_InvalidText : ErK Pr K mg (A.cls 11) A.i_InvalidText A.cc_InvalidText A.cd_InvalidText
  ef_InvalidText : ErF K A.i_InvalidText A.cc_InvalidText A.cd_InvalidText "InvalidText.__init__" (defArgs st_e_InvalidText) (defBody st_e_InvalidText) (defScope st_e_InvalidText)
  me_InvalidText : mg "InvalidText" = some (.ref (A.cls 11))
  ex_InvalidText : ExcC K (A.cls 11)
  sb_InvalidText : PySem.W.exmOne K (.ref (A.cls 11)) (.ref (A.cls 1)) = some true
  no_InvalidText : PySem.W.findIn K (.ref (A.cls 11)) "line" = some none
  kv_InvalidText : PySem.W.kitOne K (.ref (A.cls 11)) (.type "ValueError") = some true
  ki_InvalidText_FitError : PySem.W.kitOne K (.ref (A.cls 11)) (.ref (A.cls 1)) = some true
  ki_InvalidText_InvalidBlock : PySem.W.kitOne K (.ref (A.cls 11)) (.ref (A.cls 10)) = some false
  ki_InvalidText_InvalidEdit : PySem.W.kitOne K (.ref (A.cls 11)) (.ref (A.cls 9)) = some false
  ki_InvalidText_InvalidFit : PySem.W.kitOne K (.ref (A.cls 11)) (.ref (A.cls 5)) = some false
  ki_InvalidText_InvalidHints : PySem.W.kitOne K (.ref (A.cls 11)) (.ref (A.cls 6)) = some false
  ki_InvalidText_InvalidSet : PySem.W.kitOne K (.ref (A.cls 11)) (.ref (A.cls 4)) = some false
  ki_InvalidText_InvalidTable : PySem.W.kitOne K (.ref (A.cls 11)) (.ref (A.cls 2)) = some false
  ki_InvalidText_InvalidText : PySem.W.kitOne K (.ref (A.cls 11)) (.ref (A.cls 11)) = some true
  ki_InvalidText_NoFit : PySem.W.kitOne K (.ref (A.cls 11)) (.ref (A.cls 7)) = some false
  ki_InvalidText_NotFound : PySem.W.kitOne K (.ref (A.cls 11)) (.ref (A.cls 8)) = some false
  ki_InvalidText_UnknownItem : PySem.W.kitOne K (.ref (A.cls 11)) (.ref (A.cls 3)) = some false
  me_FitError : mg "FitError" = some (.ref (A.cls 1))
  kn_FitError : PySem.W.kitOne K (.type "NoneType") (.ref (A.cls 1)) = some false
  kn_InvalidBlock : PySem.W.kitOne K (.type "NoneType") (.ref (A.cls 10)) = some false
  kn_InvalidEdit : PySem.W.kitOne K (.type "NoneType") (.ref (A.cls 9)) = some false
  kn_InvalidFit : PySem.W.kitOne K (.type "NoneType") (.ref (A.cls 5)) = some false
  kn_InvalidHints : PySem.W.kitOne K (.type "NoneType") (.ref (A.cls 6)) = some false
  kn_InvalidSet : PySem.W.kitOne K (.type "NoneType") (.ref (A.cls 4)) = some false
  kn_InvalidTable : PySem.W.kitOne K (.type "NoneType") (.ref (A.cls 2)) = some false
  kn_InvalidText : PySem.W.kitOne K (.type "NoneType") (.ref (A.cls 11)) = some false
  kn_NoFit : PySem.W.kitOne K (.type "NoneType") (.ref (A.cls 7)) = some false
  kn_NotFound : PySem.W.kitOne K (.type "NoneType") (.ref (A.cls 8)) = some false
  kn_UnknownItem : PySem.W.kitOne K (.type "NoneType") (.ref (A.cls 3)) = some false
  F_w_begin : Fun K "_law_begin" "_law_begin" st_w_begin A.a_w_begin A.fd_w_begin
  m_w_begin : mg "_law_begin" = some (.ref A.a_w_begin)
  b_w_begin : Binds K A.fd_w_begin ["_law_script"] []
  F_w_take : Fun K "_law_take" "_law_take" st_w_take A.a_w_take A.fd_w_take
  m_w_take : mg "_law_take" = some (.ref A.a_w_take)
  b_w_take : Binds K A.fd_w_take ["_law_draw", "_law_bound"] []
  F_w_pick : Fun K "_law_pick" "_law_pick" st_w_pick A.a_w_pick A.fd_w_pick
  m_w_pick : mg "_law_pick" = some (.ref A.a_w_pick)
  b_w_pick : Binds K A.fd_w_pick ["_law_draw", "_law_some"] []
  F_w_marks : Fun K "_law_marks" "_law_marks" st_w_marks A.a_w_marks A.fd_w_marks
  m_w_marks : mg "_law_marks" = some (.ref A.a_w_marks)
  b_w_marks : Binds K A.fd_w_marks ["_law_error"] []
  F_law : Fun K "law" "law" st_law A.a_law A.fd_law
  m_law : mg "law" = some (.ref A.a_law)
  b_law : Binds K A.fd_law ["_law_script"] []
  n_ValueError : mg "ValueError" = none
  n_abs : mg "abs" = none
  n_enumerate : mg "enumerate" = none
  n_int : mg "int" = none
  n_isinstance : mg "isinstance" = none
  n_len : mg "len" = none
  n_min : mg "min" = none
  n_range : mg "range" = none
  n_repr : mg "repr" = none
theorem sc_w_begin : FnScope ["_law_script", "_law_number"] ["_law_script"] (defScope st_w_begin) := ⟨rfl, rfl, rfl, by decide +kernel, rfl, by decide +kernel, by decide +kernel⟩
theorem d_w_begin {Pr : Program} {w : World} {K : PySem.W.Frag} {mg : Str → Option Value} {base : Heap} {A : Ad} (T : Tx Pr base K mg A) : FnG Pr w K mg base CX0 1 A.a_w_begin A.fd_w_begin ["_law_script"] (spBegin K) := by
  refine fnG_of T.F_w_begin sc_w_begin (fun vs H Q E h => by obtain ⟨a, ns, rfl, _⟩ := h; rfl) fun cdv A0 outer s H vs Q E hr hg h => ?_
  have nd := sc_w_begin.nd
  refine ⟨_, pss_one (ps_ret (pe_lst (pa_cons (pe_orT (pe_lc (own := [("_law_number", 1)]) (g := gName 1) (tt := tYes) rfl nd (pi_list (pe_slice sl_list (e_own 0) po_none (po_some pe_int))) (blkOk_by (N := ["_law_script", "_law_number"]) (sc := defScope st_w_begin) (by decide +kernel)) (fun _ _ _ _ _ => pg_name (i := 1) nd rfl (Or.inl rfl)) (fun _ _ _ _ _ => pts_nil)
    (fun _ _ _ _ _ => pe_callB call_abs rfl T.n_abs bt_abs (pa_cons (e_own 1) pa_nil))) (pe_one (pe_lst (pa_cons pe_int pa_nil)))) (pa_cons pe_int (pa_cons pe_int (pa_cons pe_int pa_nil)))))), ?_⟩
  exact begin_sem rfl h
theorem sc_w_take : FnScope ["_law_draw", "_law_bound", "_law_numbers", "_law_at", "_law_number"] ["_law_draw", "_law_bound"] (defScope st_w_take) := ⟨rfl, rfl, rfl, by decide +kernel, rfl, by decide +kernel, by decide +kernel⟩
theorem d_w_take {Pr : Program} {w : World} {K : PySem.W.Frag} {mg : Str → Option Value} {base : Heap} {A : Ad} (T : Tx Pr base K mg A) : FnG Pr w K mg base CX0 1 A.a_w_take A.fd_w_take ["_law_draw", "_law_bound"] (spR K A.cls 2 f_w_take) := by
  refine fnG_of T.F_w_take sc_w_take (fun vs H Q E h => h.1) fun cdv A0 outer s H vs Q E hr hg h => ?_
  have nd := sc_w_take.nd
  refine ⟨_, pss_cons (ps_set (i := 2) nd rfl (Or.inl rfl) (pe_ix ix_list (e_own 0) pe_int fun _ _ => rfl))
    (pss_cons (ps_set (i := 3) nd rfl (Or.inl rfl) (pe_op op_mod (pe_callTy call_int1 rfl T.n_int bt_int (pa_cons (pe_ix ix_list (e_own 0) pe_int fun _ _ => rfl) pa_nil)) (pe_callB call_len_seq rfl T.n_len bt_len (pa_cons (e_own 2) pa_nil))))
    (pss_cons (ps_set (i := 4) nd rfl (Or.inl rfl) (pe_ix ix_list (e_own 2) (e_own 3) fun _ _ => rfl))
    (pss_cons (ps_if (pt_cmpR op_ge (e_own 4) (pe_op op_pow pe_int pe_int) rfl) (pss_cons (ps_asg (pe_op op_fdivW (e_own 4) (e_own 1)) (pg_sub (e_own 2) (e_own 3) set_list)) (pss_one (ps_ret (pe_op op_mod (pe_callTy call_int1 rfl T.n_int bt_int (pa_cons (e_own 4) pa_nil)) (e_own 1))))) pss_nil)
    (pss_cons (ps_asg (pe_op op_add (pe_ix ix_list (e_own 0) pe_int fun _ _ => rfl) pe_int) (pg_sub (e_own 0) pe_int set_list))
    (pss_cons (ps_asg (pe_op op_add (pe_ix ix_list (e_own 0) pe_int fun _ _ => rfl) pe_int) (pg_sub (e_own 0) pe_int set_list))
    (pss_cons (ps_asg (pe_op op_mod (pe_callTy call_int1 rfl T.n_int bt_int (pa_cons (pe_op op_add (pe_op op_add (pe_op op_add (pe_op op_mul (pe_ix ix_list (e_own 0) pe_int fun _ _ => rfl) pe_int) (e_own 4)) (pe_op op_mul pe_int (pe_ix ix_list (e_own 0) pe_int fun _ _ => rfl))) pe_int) pa_nil)) pe_int) (pg_sub (e_own 0) pe_int set_list))
    (pss_one (ps_ret (pe_op op_mod (pe_op op_fdiv (pe_op op_mod (pe_callTy call_int1 rfl T.n_int bt_int (pa_cons (pe_op op_mul (pe_ix ix_list (e_own 0) pe_int fun _ _ => rfl) (pe_ix ix_list (e_own 0) pe_int fun _ _ => rfl)) pa_nil)) pe_int) pe_int) (e_own 1)))))))))), ?_⟩
  exact take_sem rfl h
section
variable {Pr : Program} {w : World} {K : PySem.W.Frag} {mg : Str → Option Value} {base : Heap} {A : Ad}
theorem xI_InvalidTable (T : Tx Pr base K mg A) (v : Value) : ErI Pr w K mg (A.cls 2) A.i_InvalidTable [v] (some ("part", v)) := fun A0 R s mb y t0 X g b hmb lim hnx hx hroom hq =>
  er_init1 T.er_InvalidTable T.ef_InvalidTable ⟨_, _, _, _, _, _, _, _, _, _, _, _, rfl, rfl⟩ rfl (by decide) (by decide) T.no_InvalidTable X g b hmb lim hnx hx hroom (fun _ _ _ _ _ => .of_eq rfl) (fun _ _ _ _ _ _ => rfl) fun h1 tk dx M => hq h1 tk _ M
theorem xK_InvalidTable (T : Tx Pr base K mg A) (v : Value) : ErIK Pr w K mg (A.cls 2) A.i_InvalidTable [] [("part", v)] (some ("part", v)) := fun A0 R s mb y t0 X g b hmb lim hnx hx hroom hq =>
  er_init1K T.er_InvalidTable T.ef_InvalidTable ⟨_, _, _, _, _, _, _, _, _, _, _, _, rfl, rfl⟩ rfl (by decide) (by decide) T.no_InvalidTable X g b hmb lim hnx hx hroom (fun _ _ _ _ _ => .of_eq rfl) (fun _ _ _ _ _ _ => rfl) fun h1 tk dx M => hq h1 tk _ M
theorem xI_UnknownItem (T : Tx Pr base K mg A) (v : Value) : ErI Pr w K mg (A.cls 3) A.i_UnknownItem [v] (some ("item", v)) := fun A0 R s mb y t0 X g b hmb lim hnx hx hroom hq =>
  er_init1 T.er_UnknownItem T.ef_UnknownItem ⟨_, _, _, _, _, _, _, _, _, _, _, _, rfl, rfl⟩ rfl (by decide) (by decide) T.no_UnknownItem X g b hmb lim hnx hx hroom (fun _ _ _ _ _ => .of_eq rfl) (fun _ _ _ _ _ _ => rfl) fun h1 tk dx M => hq h1 tk _ M
theorem xK_UnknownItem (T : Tx Pr base K mg A) (v : Value) : ErIK Pr w K mg (A.cls 3) A.i_UnknownItem [] [("item", v)] (some ("item", v)) := fun A0 R s mb y t0 X g b hmb lim hnx hx hroom hq =>
  er_init1K T.er_UnknownItem T.ef_UnknownItem ⟨_, _, _, _, _, _, _, _, _, _, _, _, rfl, rfl⟩ rfl (by decide) (by decide) T.no_UnknownItem X g b hmb lim hnx hx hroom (fun _ _ _ _ _ => .of_eq rfl) (fun _ _ _ _ _ _ => rfl) fun h1 tk dx M => hq h1 tk _ M
theorem xI_InvalidSet (T : Tx Pr base K mg A) : ErI Pr w K mg (A.cls 4) A.i_InvalidSet [] none := fun A0 R s mb y t0 X g b hmb lim hnx hx hroom hq =>
  er_init0 T.er_InvalidSet T.ef_InvalidSet ⟨_, _, _, _, _, _, _, _, rfl, rfl⟩ X g b hmb lim hx hroom (fun _ _ _ _ _ => .of_eq rfl) fun h1 tk M => hq h1 tk _ M
theorem xI_InvalidFit (T : Tx Pr base K mg A) : ErI Pr w K mg (A.cls 5) A.i_InvalidFit [] none := fun A0 R s mb y t0 X g b hmb lim hnx hx hroom hq =>
  er_init0 T.er_InvalidFit T.ef_InvalidFit ⟨_, _, _, _, _, _, _, _, rfl, rfl⟩ X g b hmb lim hx hroom (fun _ _ _ _ _ => .of_eq rfl) fun h1 tk M => hq h1 tk _ M
theorem xI_InvalidHints (T : Tx Pr base K mg A) (v : Value) : ErI Pr w K mg (A.cls 6) A.i_InvalidHints [v] (some ("index", v)) := fun A0 R s mb y t0 X g b hmb lim hnx hx hroom hq =>
  er_init1 T.er_InvalidHints T.ef_InvalidHints ⟨_, _, _, _, _, _, _, _, _, _, _, _, rfl, rfl⟩ rfl (by decide) (by decide) T.no_InvalidHints X g b hmb lim hnx hx hroom (fun _ _ _ _ _ => .of_eq rfl) (fun _ _ _ _ _ _ => rfl) fun h1 tk dx M => hq h1 tk _ M
theorem xK_InvalidHints (T : Tx Pr base K mg A) (v : Value) : ErIK Pr w K mg (A.cls 6) A.i_InvalidHints [] [("index", v)] (some ("index", v)) := fun A0 R s mb y t0 X g b hmb lim hnx hx hroom hq =>
  er_init1K T.er_InvalidHints T.ef_InvalidHints ⟨_, _, _, _, _, _, _, _, _, _, _, _, rfl, rfl⟩ rfl (by decide) (by decide) T.no_InvalidHints X g b hmb lim hnx hx hroom (fun _ _ _ _ _ => .of_eq rfl) (fun _ _ _ _ _ _ => rfl) fun h1 tk dx M => hq h1 tk _ M
theorem xI_NoFit (T : Tx Pr base K mg A) : ErI Pr w K mg (A.cls 7) A.i_NoFit [] none := fun A0 R s mb y t0 X g b hmb lim hnx hx hroom hq =>
  er_init0 T.er_NoFit T.ef_NoFit ⟨_, _, _, _, _, _, _, _, rfl, rfl⟩ X g b hmb lim hx hroom (fun _ _ _ _ _ => .of_eq rfl) fun h1 tk M => hq h1 tk _ M
theorem xI_NotFound (T : Tx Pr base K mg A) : ErI Pr w K mg (A.cls 8) A.i_NotFound [] none := fun A0 R s mb y t0 X g b hmb lim hnx hx hroom hq =>
  er_init0 T.er_NotFound T.ef_NotFound ⟨_, _, _, _, _, _, _, _, rfl, rfl⟩ X g b hmb lim hx hroom (fun _ _ _ _ _ => .of_eq rfl) fun h1 tk M => hq h1 tk _ M
theorem xI_InvalidEdit (T : Tx Pr base K mg A) : ErI Pr w K mg (A.cls 9) A.i_InvalidEdit [] none := fun A0 R s mb y t0 X g b hmb lim hnx hx hroom hq =>
  er_init0 T.er_InvalidEdit T.ef_InvalidEdit ⟨_, _, _, _, _, _, _, _, rfl, rfl⟩ X g b hmb lim hx hroom (fun _ _ _ _ _ => .of_eq rfl) fun h1 tk M => hq h1 tk _ M
theorem xI_InvalidBlock (T : Tx Pr base K mg A) : ErI Pr w K mg (A.cls 10) A.i_InvalidBlock [] none := fun A0 R s mb y t0 X g b hmb lim hnx hx hroom hq =>
  er_init0 T.er_InvalidBlock T.ef_InvalidBlock ⟨_, _, _, _, _, _, _, _, rfl, rfl⟩ X g b hmb lim hx hroom (fun _ _ _ _ _ => .of_eq rfl) fun h1 tk M => hq h1 tk _ M
theorem xI_InvalidText (T : Tx Pr base K mg A) (v : Value) : ErI Pr w K mg (A.cls 11) A.i_InvalidText [v] (some ("line", v)) := fun A0 R s mb y t0 X g b hmb lim hnx hx hroom hq =>
  er_init1 T.er_InvalidText T.ef_InvalidText ⟨_, _, _, _, _, _, _, _, _, _, _, _, rfl, rfl⟩ rfl (by decide) (by decide) T.no_InvalidText X g b hmb lim hnx hx hroom (fun _ _ _ _ _ => .of_eq rfl) (fun _ _ _ _ _ _ => rfl) fun h1 tk dx M => hq h1 tk _ M
theorem xK_InvalidText (T : Tx Pr base K mg A) (v : Value) : ErIK Pr w K mg (A.cls 11) A.i_InvalidText [] [("line", v)] (some ("line", v)) := fun A0 R s mb y t0 X g b hmb lim hnx hx hroom hq =>
  er_init1K T.er_InvalidText T.ef_InvalidText ⟨_, _, _, _, _, _, _, _, _, _, _, _, rfl, rfl⟩ rfl (by decide) (by decide) T.no_InvalidText X g b hmb lim hnx hx hroom (fun _ _ _ _ _ => .of_eq rfl) (fun _ _ _ _ _ _ => rfl) fun h1 tk dx M => hq h1 tk _ M
def isT (c : Nat) : D → Option Bool
  | .cl y => if (2 ≤ c ∧ c ≤ 11) ∧ 1 ≤ y ∧ y ≤ 11 then some (y == 1 || c == y) else none
  | .ty n => if n = "ValueError" ∧ 2 ≤ c ∧ c ≤ 11 then some true else none
  | _ => none
def isx : Option Nat → D → Option Bool
  | none, _ => none
  | some c, t => isT c t
theorem isx_ok (T : Tx Pr base K mg A) : TabOk K A.cls isx := by
  refine ⟨fun c t b h => ?_, fun t b h => by cases h⟩
  cases t with
  | ty n =>
    have h : (if n = "ValueError" ∧ 2 ≤ c ∧ c ≤ 11 then some true else none) = some b := h
    split at h
    · rename_i q
      cases h
      obtain ⟨rfl, q1, q2⟩ := q
      have hc : c = 2 ∨ c = 3 ∨ c = 4 ∨ c = 5 ∨ c = 6 ∨ c = 7 ∨ c = 8 ∨ c = 9 ∨ c = 10 ∨ c = 11 := by omega
      rcases hc with rfl | rfl | rfl | rfl | rfl | rfl | rfl | rfl | rfl | rfl
      · exact ⟨T.ex_InvalidTable, _, rfl, T.kv_InvalidTable⟩
      · exact ⟨T.ex_UnknownItem, _, rfl, T.kv_UnknownItem⟩
      · exact ⟨T.ex_InvalidSet, _, rfl, T.kv_InvalidSet⟩
      · exact ⟨T.ex_InvalidFit, _, rfl, T.kv_InvalidFit⟩
      · exact ⟨T.ex_InvalidHints, _, rfl, T.kv_InvalidHints⟩
      · exact ⟨T.ex_NoFit, _, rfl, T.kv_NoFit⟩
      · exact ⟨T.ex_NotFound, _, rfl, T.kv_NotFound⟩
      · exact ⟨T.ex_InvalidEdit, _, rfl, T.kv_InvalidEdit⟩
      · exact ⟨T.ex_InvalidBlock, _, rfl, T.kv_InvalidBlock⟩
      · exact ⟨T.ex_InvalidText, _, rfl, T.kv_InvalidText⟩
    · cases h
  | cl y =>
    have h : (if (2 ≤ c ∧ c ≤ 11) ∧ 1 ≤ y ∧ y ≤ 11 then some (y == 1 || c == y) else none) = some b := h
    split at h
    · rename_i q
      cases h
      obtain ⟨⟨q1, q2⟩, q3, q4⟩ := q
      have hc : c = 2 ∨ c = 3 ∨ c = 4 ∨ c = 5 ∨ c = 6 ∨ c = 7 ∨ c = 8 ∨ c = 9 ∨ c = 10 ∨ c = 11 := by omega
      have hy : y = 1 ∨ y = 2 ∨ y = 3 ∨ y = 4 ∨ y = 5 ∨ y = 6 ∨ y = 7 ∨ y = 8 ∨ y = 9 ∨ y = 10 ∨ y = 11 := by omega
      rcases hc with rfl | rfl | rfl | rfl | rfl | rfl | rfl | rfl | rfl | rfl
      · rcases hy with rfl | rfl | rfl | rfl | rfl | rfl | rfl | rfl | rfl | rfl | rfl
        · exact ⟨T.ex_InvalidTable, _, rfl, T.ki_InvalidTable_FitError⟩
        · exact ⟨T.ex_InvalidTable, _, rfl, T.ki_InvalidTable_InvalidTable⟩
        · exact ⟨T.ex_InvalidTable, _, rfl, T.ki_InvalidTable_UnknownItem⟩
        · exact ⟨T.ex_InvalidTable, _, rfl, T.ki_InvalidTable_InvalidSet⟩
        · exact ⟨T.ex_InvalidTable, _, rfl, T.ki_InvalidTable_InvalidFit⟩
        · exact ⟨T.ex_InvalidTable, _, rfl, T.ki_InvalidTable_InvalidHints⟩
        · exact ⟨T.ex_InvalidTable, _, rfl, T.ki_InvalidTable_NoFit⟩
        · exact ⟨T.ex_InvalidTable, _, rfl, T.ki_InvalidTable_NotFound⟩
        · exact ⟨T.ex_InvalidTable, _, rfl, T.ki_InvalidTable_InvalidEdit⟩
        · exact ⟨T.ex_InvalidTable, _, rfl, T.ki_InvalidTable_InvalidBlock⟩
        · exact ⟨T.ex_InvalidTable, _, rfl, T.ki_InvalidTable_InvalidText⟩
      · rcases hy with rfl | rfl | rfl | rfl | rfl | rfl | rfl | rfl | rfl | rfl | rfl
        · exact ⟨T.ex_UnknownItem, _, rfl, T.ki_UnknownItem_FitError⟩
        · exact ⟨T.ex_UnknownItem, _, rfl, T.ki_UnknownItem_InvalidTable⟩
        · exact ⟨T.ex_UnknownItem, _, rfl, T.ki_UnknownItem_UnknownItem⟩
        · exact ⟨T.ex_UnknownItem, _, rfl, T.ki_UnknownItem_InvalidSet⟩
        · exact ⟨T.ex_UnknownItem, _, rfl, T.ki_UnknownItem_InvalidFit⟩
        · exact ⟨T.ex_UnknownItem, _, rfl, T.ki_UnknownItem_InvalidHints⟩
        · exact ⟨T.ex_UnknownItem, _, rfl, T.ki_UnknownItem_NoFit⟩
        · exact ⟨T.ex_UnknownItem, _, rfl, T.ki_UnknownItem_NotFound⟩
        · exact ⟨T.ex_UnknownItem, _, rfl, T.ki_UnknownItem_InvalidEdit⟩
        · exact ⟨T.ex_UnknownItem, _, rfl, T.ki_UnknownItem_InvalidBlock⟩
        · exact ⟨T.ex_UnknownItem, _, rfl, T.ki_UnknownItem_InvalidText⟩
      · rcases hy with rfl | rfl | rfl | rfl | rfl | rfl | rfl | rfl | rfl | rfl | rfl
        · exact ⟨T.ex_InvalidSet, _, rfl, T.ki_InvalidSet_FitError⟩
        · exact ⟨T.ex_InvalidSet, _, rfl, T.ki_InvalidSet_InvalidTable⟩
        · exact ⟨T.ex_InvalidSet, _, rfl, T.ki_InvalidSet_UnknownItem⟩
        · exact ⟨T.ex_InvalidSet, _, rfl, T.ki_InvalidSet_InvalidSet⟩
        · exact ⟨T.ex_InvalidSet, _, rfl, T.ki_InvalidSet_InvalidFit⟩
        · exact ⟨T.ex_InvalidSet, _, rfl, T.ki_InvalidSet_InvalidHints⟩
        · exact ⟨T.ex_InvalidSet, _, rfl, T.ki_InvalidSet_NoFit⟩
        · exact ⟨T.ex_InvalidSet, _, rfl, T.ki_InvalidSet_NotFound⟩
        · exact ⟨T.ex_InvalidSet, _, rfl, T.ki_InvalidSet_InvalidEdit⟩
        · exact ⟨T.ex_InvalidSet, _, rfl, T.ki_InvalidSet_InvalidBlock⟩
        · exact ⟨T.ex_InvalidSet, _, rfl, T.ki_InvalidSet_InvalidText⟩
      · rcases hy with rfl | rfl | rfl | rfl | rfl | rfl | rfl | rfl | rfl | rfl | rfl
        · exact ⟨T.ex_InvalidFit, _, rfl, T.ki_InvalidFit_FitError⟩
        · exact ⟨T.ex_InvalidFit, _, rfl, T.ki_InvalidFit_InvalidTable⟩
        · exact ⟨T.ex_InvalidFit, _, rfl, T.ki_InvalidFit_UnknownItem⟩
        · exact ⟨T.ex_InvalidFit, _, rfl, T.ki_InvalidFit_InvalidSet⟩
        · exact ⟨T.ex_InvalidFit, _, rfl, T.ki_InvalidFit_InvalidFit⟩
        · exact ⟨T.ex_InvalidFit, _, rfl, T.ki_InvalidFit_InvalidHints⟩
        · exact ⟨T.ex_InvalidFit, _, rfl, T.ki_InvalidFit_NoFit⟩
        · exact ⟨T.ex_InvalidFit, _, rfl, T.ki_InvalidFit_NotFound⟩
        · exact ⟨T.ex_InvalidFit, _, rfl, T.ki_InvalidFit_InvalidEdit⟩
        · exact ⟨T.ex_InvalidFit, _, rfl, T.ki_InvalidFit_InvalidBlock⟩
        · exact ⟨T.ex_InvalidFit, _, rfl, T.ki_InvalidFit_InvalidText⟩
      · rcases hy with rfl | rfl | rfl | rfl | rfl | rfl | rfl | rfl | rfl | rfl | rfl
        · exact ⟨T.ex_InvalidHints, _, rfl, T.ki_InvalidHints_FitError⟩
        · exact ⟨T.ex_InvalidHints, _, rfl, T.ki_InvalidHints_InvalidTable⟩
        · exact ⟨T.ex_InvalidHints, _, rfl, T.ki_InvalidHints_UnknownItem⟩
        · exact ⟨T.ex_InvalidHints, _, rfl, T.ki_InvalidHints_InvalidSet⟩
        · exact ⟨T.ex_InvalidHints, _, rfl, T.ki_InvalidHints_InvalidFit⟩
        · exact ⟨T.ex_InvalidHints, _, rfl, T.ki_InvalidHints_InvalidHints⟩
        · exact ⟨T.ex_InvalidHints, _, rfl, T.ki_InvalidHints_NoFit⟩
        · exact ⟨T.ex_InvalidHints, _, rfl, T.ki_InvalidHints_NotFound⟩
        · exact ⟨T.ex_InvalidHints, _, rfl, T.ki_InvalidHints_InvalidEdit⟩
        · exact ⟨T.ex_InvalidHints, _, rfl, T.ki_InvalidHints_InvalidBlock⟩
        · exact ⟨T.ex_InvalidHints, _, rfl, T.ki_InvalidHints_InvalidText⟩
      · rcases hy with rfl | rfl | rfl | rfl | rfl | rfl | rfl | rfl | rfl | rfl | rfl
        · exact ⟨T.ex_NoFit, _, rfl, T.ki_NoFit_FitError⟩
        · exact ⟨T.ex_NoFit, _, rfl, T.ki_NoFit_InvalidTable⟩
        · exact ⟨T.ex_NoFit, _, rfl, T.ki_NoFit_UnknownItem⟩
        · exact ⟨T.ex_NoFit, _, rfl, T.ki_NoFit_InvalidSet⟩
        · exact ⟨T.ex_NoFit, _, rfl, T.ki_NoFit_InvalidFit⟩
        · exact ⟨T.ex_NoFit, _, rfl, T.ki_NoFit_InvalidHints⟩
        · exact ⟨T.ex_NoFit, _, rfl, T.ki_NoFit_NoFit⟩
        · exact ⟨T.ex_NoFit, _, rfl, T.ki_NoFit_NotFound⟩
        · exact ⟨T.ex_NoFit, _, rfl, T.ki_NoFit_InvalidEdit⟩
        · exact ⟨T.ex_NoFit, _, rfl, T.ki_NoFit_InvalidBlock⟩
        · exact ⟨T.ex_NoFit, _, rfl, T.ki_NoFit_InvalidText⟩
      · rcases hy with rfl | rfl | rfl | rfl | rfl | rfl | rfl | rfl | rfl | rfl | rfl
        · exact ⟨T.ex_NotFound, _, rfl, T.ki_NotFound_FitError⟩
        · exact ⟨T.ex_NotFound, _, rfl, T.ki_NotFound_InvalidTable⟩
        · exact ⟨T.ex_NotFound, _, rfl, T.ki_NotFound_UnknownItem⟩
        · exact ⟨T.ex_NotFound, _, rfl, T.ki_NotFound_InvalidSet⟩
        · exact ⟨T.ex_NotFound, _, rfl, T.ki_NotFound_InvalidFit⟩
        · exact ⟨T.ex_NotFound, _, rfl, T.ki_NotFound_InvalidHints⟩
        · exact ⟨T.ex_NotFound, _, rfl, T.ki_NotFound_NoFit⟩
        · exact ⟨T.ex_NotFound, _, rfl, T.ki_NotFound_NotFound⟩
        · exact ⟨T.ex_NotFound, _, rfl, T.ki_NotFound_InvalidEdit⟩
        · exact ⟨T.ex_NotFound, _, rfl, T.ki_NotFound_InvalidBlock⟩
        · exact ⟨T.ex_NotFound, _, rfl, T.ki_NotFound_InvalidText⟩
      · rcases hy with rfl | rfl | rfl | rfl | rfl | rfl | rfl | rfl | rfl | rfl | rfl
        · exact ⟨T.ex_InvalidEdit, _, rfl, T.ki_InvalidEdit_FitError⟩
        · exact ⟨T.ex_InvalidEdit, _, rfl, T.ki_InvalidEdit_InvalidTable⟩
        · exact ⟨T.ex_InvalidEdit, _, rfl, T.ki_InvalidEdit_UnknownItem⟩
        · exact ⟨T.ex_InvalidEdit, _, rfl, T.ki_InvalidEdit_InvalidSet⟩
        · exact ⟨T.ex_InvalidEdit, _, rfl, T.ki_InvalidEdit_InvalidFit⟩
        · exact ⟨T.ex_InvalidEdit, _, rfl, T.ki_InvalidEdit_InvalidHints⟩
        · exact ⟨T.ex_InvalidEdit, _, rfl, T.ki_InvalidEdit_NoFit⟩
        · exact ⟨T.ex_InvalidEdit, _, rfl, T.ki_InvalidEdit_NotFound⟩
        · exact ⟨T.ex_InvalidEdit, _, rfl, T.ki_InvalidEdit_InvalidEdit⟩
        · exact ⟨T.ex_InvalidEdit, _, rfl, T.ki_InvalidEdit_InvalidBlock⟩
        · exact ⟨T.ex_InvalidEdit, _, rfl, T.ki_InvalidEdit_InvalidText⟩
      · rcases hy with rfl | rfl | rfl | rfl | rfl | rfl | rfl | rfl | rfl | rfl | rfl
        · exact ⟨T.ex_InvalidBlock, _, rfl, T.ki_InvalidBlock_FitError⟩
        · exact ⟨T.ex_InvalidBlock, _, rfl, T.ki_InvalidBlock_InvalidTable⟩
        · exact ⟨T.ex_InvalidBlock, _, rfl, T.ki_InvalidBlock_UnknownItem⟩
        · exact ⟨T.ex_InvalidBlock, _, rfl, T.ki_InvalidBlock_InvalidSet⟩
        · exact ⟨T.ex_InvalidBlock, _, rfl, T.ki_InvalidBlock_InvalidFit⟩
        · exact ⟨T.ex_InvalidBlock, _, rfl, T.ki_InvalidBlock_InvalidHints⟩
        · exact ⟨T.ex_InvalidBlock, _, rfl, T.ki_InvalidBlock_NoFit⟩
        · exact ⟨T.ex_InvalidBlock, _, rfl, T.ki_InvalidBlock_NotFound⟩
        · exact ⟨T.ex_InvalidBlock, _, rfl, T.ki_InvalidBlock_InvalidEdit⟩
        · exact ⟨T.ex_InvalidBlock, _, rfl, T.ki_InvalidBlock_InvalidBlock⟩
        · exact ⟨T.ex_InvalidBlock, _, rfl, T.ki_InvalidBlock_InvalidText⟩
      · rcases hy with rfl | rfl | rfl | rfl | rfl | rfl | rfl | rfl | rfl | rfl | rfl
        · exact ⟨T.ex_InvalidText, _, rfl, T.ki_InvalidText_FitError⟩
        · exact ⟨T.ex_InvalidText, _, rfl, T.ki_InvalidText_InvalidTable⟩
        · exact ⟨T.ex_InvalidText, _, rfl, T.ki_InvalidText_UnknownItem⟩
        · exact ⟨T.ex_InvalidText, _, rfl, T.ki_InvalidText_InvalidSet⟩
        · exact ⟨T.ex_InvalidText, _, rfl, T.ki_InvalidText_InvalidFit⟩
        · exact ⟨T.ex_InvalidText, _, rfl, T.ki_InvalidText_InvalidHints⟩
        · exact ⟨T.ex_InvalidText, _, rfl, T.ki_InvalidText_NoFit⟩
        · exact ⟨T.ex_InvalidText, _, rfl, T.ki_InvalidText_NotFound⟩
        · exact ⟨T.ex_InvalidText, _, rfl, T.ki_InvalidText_InvalidEdit⟩
        · exact ⟨T.ex_InvalidText, _, rfl, T.ki_InvalidText_InvalidBlock⟩
        · exact ⟨T.ex_InvalidText, _, rfl, T.ki_InvalidText_InvalidText⟩
    · cases h
  | _ => cases h
def ea_index (c : Nat) : Bool := c == 6
theorem ea_ok_index (T : Tx Pr base K mg A) : ∀ c, ea_index c = true → ExcC K (A.cls c) ∧ PySem.W.findIn K (.ref (A.cls c)) "index" = some none := fun c h => by
  unfold ea_index at h
  simp only [Bool.or_eq_true, beq_iff_eq] at h
  rcases h with rfl
  · exact ⟨T.ex_InvalidHints, T.no_InvalidHints⟩
def ea_item (c : Nat) : Bool := c == 3
theorem ea_ok_item (T : Tx Pr base K mg A) : ∀ c, ea_item c = true → ExcC K (A.cls c) ∧ PySem.W.findIn K (.ref (A.cls c)) "item" = some none := fun c h => by
  unfold ea_item at h
  simp only [Bool.or_eq_true, beq_iff_eq] at h
  rcases h with rfl
  · exact ⟨T.ex_UnknownItem, T.no_UnknownItem⟩
def ea_line (c : Nat) : Bool := c == 11
theorem ea_ok_line (T : Tx Pr base K mg A) : ∀ c, ea_line c = true → ExcC K (A.cls c) ∧ PySem.W.findIn K (.ref (A.cls c)) "line" = some none := fun c h => by
  unfold ea_line at h
  simp only [Bool.or_eq_true, beq_iff_eq] at h
  rcases h with rfl
  · exact ⟨T.ex_InvalidText, T.no_InvalidText⟩
def ea_part (c : Nat) : Bool := c == 2
theorem ea_ok_part (T : Tx Pr base K mg A) : ∀ c, ea_part c = true → ExcC K (A.cls c) ∧ PySem.W.findIn K (.ref (A.cls c)) "part" = some none := fun c h => by
  unfold ea_part at h
  simp only [Bool.or_eq_true, beq_iff_eq] at h
  rcases h with rfl
  · exact ⟨T.ex_InvalidTable, T.no_InvalidTable⟩
def r_w_pick : RunS := (sSeq (sRet (run2 (rBor 1) (rCall f_w_take (rCons (rVar 0) (rCons (runN (rCons (rBor 1) rNil) fLen) rNil))) fIx))
    sNx)
@[irreducible] def f_w_pick : Fn := runFn 2 r_w_pick
theorem b_w_pick (T : Tx Pr base K mg A) (cdv : Value) (A0 : Around) (outer : List PySem.Env) (s : Shared) (H : Hp) (E : XK) (hr : Room 2 (A0.deeper (PyProof.Rows.envOfC "_law_pick" (defScope st_w_pick) s.heap.objs.size A.a_w_pick cdv))) (hg : NoG (A0.deeper (PyProof.Rows.envOfC "_law_pick" (defScope st_w_pick) s.heap.objs.size A.a_w_pick cdv))) (W : Wd) (hK : W.K = K) (hc : W.cls = A.cls) :
    PSs (cxOf CX0 Pr w K mg base ["_law_draw", "_law_some"] "_law_pick" (defScope st_w_pick) A.a_w_pick cdv A0 outer s H E).nox (defBody st_w_pick) (TVS W r_w_pick) := by
  obtain ⟨K1, wa, wb, cl1⟩ := W
  subst hK
  subst hc
  exact (z_cons (z_ret (e_ix rfl (e_bor 1) (e_call ((d_w_take T).mono (by decide)) rfl rfl hr hg T.m_w_take T.F_w_take.kp T.b_w_take (a_cons (e_var 0) (a_cons (e_blt cr_lenAll p_len T.n_len bt_len (a_cons (e_bor 1) a_nil)) a_nil)) (LenR.ok (l_cons (l_cons l_nil))))))
    z_nil)
theorem d_w_pick (T : Tx Pr base K mg A) : FnG Pr w K mg base CX0 3 A.a_w_pick A.fd_w_pick ["_law_draw", "_law_some"] (spR K A.cls 2 f_w_pick) := by
  unfold f_w_pick
  exact fn_ok (k := 2) (N := ["_law_draw", "_law_some"]) (run := r_w_pick) T.F_w_pick sc_w_pick fun cdv A0 outer s H E hr hg W hK hc => b_w_pick T cdv A0 outer s H E hr hg W hK hc
def r_w_marks : RunS := (sSeq (sSet 1 (rDisp mkL (rCons (runN (rCons (rVar 0) (rCons (rC (.cl 2)) rNil)) (fIsX isx)) (rCons (runN (rCons (rVar 0) (rCons (rC (.cl 3)) rNil)) (fIsX isx)) (rCons (runN (rCons (rVar 0) (rCons (rC (.cl 4)) rNil)) (fIsX isx)) rNil)))))
    (sSeq (sSet 1 (run2 (rBor 1) (rDisp mkL (rCons (runN (rCons (rVar 0) (rCons (rC (.cl 5)) rNil)) (fIsX isx)) (rCons (runN (rCons (rVar 0) (rCons (rC (.cl 6)) rNil)) (fIsX isx)) (rCons (runN (rCons (rVar 0) (rCons (rC (.cl 7)) rNil)) (fIsX isx)) rNil)))) fAdd))
    (sSeq (sSet 1 (run2 (rBor 1) (rDisp mkL (rCons (runN (rCons (rVar 0) (rCons (rC (.cl 8)) rNil)) (fIsX isx)) (rCons (runN (rCons (rVar 0) (rCons (rC (.cl 9)) rNil)) (fIsX isx)) (rCons (runN (rCons (rVar 0) (rCons (rC (.cl 10)) rNil)) (fIsX isx)) rNil)))) fAdd))
    (sSeq (sRet (run2 (rBor 1) (rDisp mkL (rCons (runN (rCons (rVar 0) (rCons (rC (.cl 11)) rNil)) (fIsX isx)) rNil)) fAdd))
    sNx))))
@[irreducible] def f_w_marks : Fn := runFn 2 r_w_marks
theorem b_w_marks (T : Tx Pr base K mg A) (cdv : Value) (A0 : Around) (outer : List PySem.Env) (s : Shared) (H : Hp) (E : XK) (hr : Room 1 (A0.deeper (PyProof.Rows.envOfC "_law_marks" (defScope st_w_marks) s.heap.objs.size A.a_w_marks cdv))) (hg : NoG (A0.deeper (PyProof.Rows.envOfC "_law_marks" (defScope st_w_marks) s.heap.objs.size A.a_w_marks cdv))) (W : Wd) (hK : W.K = K) (hc : W.cls = A.cls) :
    PSs (cxOf CX0 Pr w K mg base ["_law_error", "_law_marks_here"] "_law_marks" (defScope st_w_marks) A.a_w_marks cdv A0 outer s H E).nox (defBody st_w_marks) (TVS W r_w_marks) := by
  obtain ⟨K1, wa, wb, cl1⟩ := W
  subst hK
  subst hc
  exact (z_cons (s_set 1 sc_w_marks.nd (e_lst (a_cons (e_isX rfl (isx_ok T) T.n_isinstance bt_isinstance (a_cons (e_var 0) (a_cons (e_cl T.me_InvalidTable) a_nil))) (a_cons (e_isX rfl (isx_ok T) T.n_isinstance bt_isinstance (a_cons (e_var 0) (a_cons (e_cl T.me_UnknownItem) a_nil))) (a_cons (e_isX rfl (isx_ok T) T.n_isinstance bt_isinstance (a_cons (e_var 0) (a_cons (e_cl T.me_InvalidSet) a_nil))) a_nil)))))
    (z_cons (s_set 1 sc_w_marks.nd (e_add rfl (e_bor 1) (e_lst (a_cons (e_isX rfl (isx_ok T) T.n_isinstance bt_isinstance (a_cons (e_var 0) (a_cons (e_cl T.me_InvalidFit) a_nil))) (a_cons (e_isX rfl (isx_ok T) T.n_isinstance bt_isinstance (a_cons (e_var 0) (a_cons (e_cl T.me_InvalidHints) a_nil))) (a_cons (e_isX rfl (isx_ok T) T.n_isinstance bt_isinstance (a_cons (e_var 0) (a_cons (e_cl T.me_NoFit) a_nil))) a_nil))))))
    (z_cons (s_set 1 sc_w_marks.nd (e_add rfl (e_bor 1) (e_lst (a_cons (e_isX rfl (isx_ok T) T.n_isinstance bt_isinstance (a_cons (e_var 0) (a_cons (e_cl T.me_NotFound) a_nil))) (a_cons (e_isX rfl (isx_ok T) T.n_isinstance bt_isinstance (a_cons (e_var 0) (a_cons (e_cl T.me_InvalidEdit) a_nil))) (a_cons (e_isX rfl (isx_ok T) T.n_isinstance bt_isinstance (a_cons (e_var 0) (a_cons (e_cl T.me_InvalidBlock) a_nil))) a_nil))))))
    (z_cons (z_ret (e_add rfl (e_bor 1) (e_lst (a_cons (e_isX rfl (isx_ok T) T.n_isinstance bt_isinstance (a_cons (e_var 0) (a_cons (e_cl T.me_InvalidText) a_nil))) a_nil))))
    z_nil))))
theorem d_w_marks (T : Tx Pr base K mg A) : FnG Pr w K mg base CX0 2 A.a_w_marks A.fd_w_marks ["_law_error"] (spR K A.cls 1 f_w_marks) := by
  unfold f_w_marks
  exact fn_ok (k := 1) (N := ["_law_error", "_law_marks_here"]) (run := r_w_marks) T.F_w_marks sc_w_marks fun cdv A0 outer s H E hr hg W hK hc => b_w_marks T cdv A0 outer s H E hr hg W hK hc
def r_law : RunS := (sSeq (sFor (iRange (rCons (run2 (rC (.int 1)) (runN (rCons (runN (rCons (rBor 0) rNil) fLen) (rCons (rC (.int 6)) rNil)) fMin2) fAdd) rNil)) none (tgN 2) (sSeq (sSet 3 (rDisp mkL (rCons (rC (.str "rows")) (rCons (rC (.int 0)) (rCons (rC (.int 3)) (rCons (run1 (rC (.int 1)) fNeg) (rCons (rC .non) (rCons (rDisp mkT (rCons (rC (.str "row")) (rCons (rC (.str "a")) rNil))) (rCons (rDisp mkL (rCons (rC (.str "a")) rNil)) (rCons (rDsp []) (rCons (rC (.bl true)) (rCons (run2 (rC (.int 10)) (rC (.int 40)) fPow) (rCons (rC (.str "")) (rCons (rDisp mkT (rCons (rC (.str "column")) (rCons (rDisp mkT (rCons (rC (.str "row")) (rCons (rC (.str "b")) rNil))) rNil))) rNil))))))))))))))
    (sSeq (sPar 4 5 (rCall f_w_pick (rCons (rVar 1) (rCons (rVar 3) rNil))) (rCall f_w_pick (rCons (rVar 1) (rCons (rVar 3) rNil))))
    (sSeq (sSet 6 (rDisp mkL (rCons (rDisp (mkEx 2 "part") (rCons (rVar 4) rNil)) (rCons (rDisp (mkEx 3 "item") (rCons (rVar 4) rNil)) (rCons (rDisp (mkEx0 4) rNil) (rCons (rDisp (mkEx0 5) rNil) (rCons (rDisp (mkEx 6 "index") (rCons (rVar 4) rNil)) (rCons (rDisp (mkEx0 7) rNil) rNil))))))))
    (sSeq (sSet 6 (run2 (rBor 6) (rDisp mkL (rCons (rDisp (mkEx0 8) rNil) (rCons (rDisp (mkEx0 9) rNil) (rCons (rDisp (mkEx0 10) rNil) (rCons (rDisp (mkEx 11 "line") (rCons (rVar 4) rNil)) rNil))))) fAdd))
    (sSeq (sSet 7 (rDisp mkL (rCons (rDisp (mkEx 2 "part") (rCons (rVar 5) rNil)) (rCons (rDisp (mkEx 3 "item") (rCons (rVar 5) rNil)) (rCons (rDisp (mkEx 6 "index") (rCons (rVar 5) rNil)) (rCons (rDisp (mkEx 11 "line") (rCons (rVar 5) rNil)) rNil))))))
    (sSeq (sFor (iEnumU (rCons (rVar 6) rNil)) none (tgTup 2 (tgCons (tgN 8) (tgCons (tgN 9) tgNil))) (sSeq (sIf (toT (rOr (rNot (runN (rCons (rVar 9) (rCons (rC (.cl 1)) rNil)) (fIsX isx))) (rNot (runN (rCons (rVar 9) (rCons (rC (.ty "ValueError")) rNil)) (fIsX isx))))) (sSeq (sRet (rC (.bl false)))
    sNx) sNx)
    (sSeq (sIf (toT (run2 (rCall f_w_marks (rCons (rVar 9) rNil)) (rLc (iRange (rCons (rC (.int 10)) rNil)) none (tgN 11) rYes (run2 (rBor 11) (rBor 8) fEq) [11]) fNe)) (sSeq (sRet (rC (.bl false)))
    sNx) sNx)
    sNx)))
    (sSeq (sSet 10 (rDisp mkL (rCons (run1 (run2 (rBor 6) (rC (.int 0)) fIx) (fErF ea_part "part")) (rCons (run1 (run2 (rBor 6) (rC (.int 1)) fIx) (fErF ea_item "item")) (rCons (run1 (run2 (rBor 6) (rC (.int 4)) fIx) (fErF ea_index "index")) (rCons (run1 (run2 (rBor 6) (rC (.int 9)) fIx) (fErF ea_line "line")) rNil))))))
    (sSeq (sIf (toT (run2 (runN (rCons (rVar 10) rNil) fReprU) (runN (rCons (run2 (rDisp mkL (rCons (rVar 4) rNil)) (rC (.int 4)) fRepL) rNil) fReprU) fNe)) (sSeq (sRet (rC (.bl false)))
    sNx) sNx)
    (sSeq (sSet 10 (rDisp mkL (rCons (run1 (run2 (rBor 7) (rC (.int 0)) fIx) (fErF ea_part "part")) (rCons (run1 (run2 (rBor 7) (rC (.int 1)) fIx) (fErF ea_item "item")) (rCons (run1 (run2 (rBor 7) (rC (.int 2)) fIx) (fErF ea_index "index")) (rCons (run1 (run2 (rBor 7) (rC (.int 3)) fIx) (fErF ea_line "line")) rNil))))))
    (sSeq (sIf (toT (run2 (runN (rCons (rVar 10) rNil) fReprU) (runN (rCons (run2 (rDisp mkL (rCons (rVar 5) rNil)) (rC (.int 4)) fRepL) rNil) fReprU) fNe)) (sSeq (sRet (rC (.bl false)))
    sNx) sNx)
    sNx)))))))))))
    (sSeq (sRet (rC (.bl true)))
    sNx))
theorem b_law (T : Tx Pr base K mg A) (cdv : Value) (A0 : Around) (outer : List PySem.Env) (s : Shared) (H : Hp) (E : XK) (hr : Room 3 (A0.deeper (PyProof.Rows.envOfC "law" (defScope st_law) s.heap.objs.size A.a_law cdv))) (hg : NoG (A0.deeper (PyProof.Rows.envOfC "law" (defScope st_law) s.heap.objs.size A.a_law cdv))) (W : Wd) (hK : W.K = K) (hc : W.cls = A.cls) :
    PSs (cxOf CX0 Pr w K mg base ["_law_script", "_law_draw", "_law_turn", "_law_some", "_law_thing", "_law_other", "_law_made", "_law_byname", "_law_at", "_law_error", "_law_told", "_law_k"] "law" (defScope st_law) A.a_law cdv A0 outer s H E).nox (restS st_law) (TVS W r_law) := by
  obtain ⟨K1, wa, wb, cl1⟩ := W
  subst hK
  subst hc
  exact (z_cons (s_for (x_range rfl T.n_range (e_add rfl e_int (e_blt (call_min2 rfl) p_min2 T.n_min bt_min (a_cons (e_blt cr_lenAll p_len T.n_len bt_len (a_cons (e_bor 0) a_nil)) (a_cons e_int a_nil)))) rfl) (pg_name (i := 2) sc_law.nd rfl (by first | exact Or.inl rfl | exact Or.inr rfl)) (g_name (i := 2)) (z_cons (s_set 3 sc_law.nd (e_lst (a_cons e_str (a_cons e_int (a_cons e_int (a_cons (e_neg e_int) (a_cons e_non (a_cons (e_tup (a_cons e_str (a_cons e_str a_nil))) (a_cons (e_lst (a_cons e_str a_nil)) (a_cons e_dict0 (a_cons e_bl (a_cons (e_pow e_int e_int) (a_cons e_str (a_cons (e_tup (a_cons e_str (a_cons (e_tup (a_cons e_str (a_cons e_str a_nil))) a_nil))) a_nil))))))))))))))
    (z_cons (s_par 4 5 sc_law.nd (e_call ((d_w_pick T).mono (by decide)) rfl rfl hr hg T.m_w_pick T.F_w_pick.kp T.b_w_pick (a_cons (e_var 1) (a_cons (e_var 3) a_nil)) (LenR.ok (l_cons (l_cons l_nil)))) (e_call ((d_w_pick T).mono (by decide)) rfl rfl hr hg T.m_w_pick T.F_w_pick.kp T.b_w_pick (a_cons (e_var 1) (a_cons (e_var 3) a_nil)) (LenR.ok (l_cons (l_cons l_nil)))))
    (z_cons (s_set 6 sc_law.nd (e_lst (a_cons (e_new1 T.er_InvalidTable (xI_InvalidTable T) T.me_InvalidTable hr (a_cons (e_var 4) a_nil)) (a_cons (e_new1 T.er_UnknownItem (xI_UnknownItem T) T.me_UnknownItem hr (a_cons (e_var 4) a_nil)) (a_cons (e_new0 T.er_InvalidSet (xI_InvalidSet T) T.me_InvalidSet hr) (a_cons (e_new0 T.er_InvalidFit (xI_InvalidFit T) T.me_InvalidFit hr) (a_cons (e_new1 T.er_InvalidHints (xI_InvalidHints T) T.me_InvalidHints hr (a_cons (e_var 4) a_nil)) (a_cons (e_new0 T.er_NoFit (xI_NoFit T) T.me_NoFit hr) a_nil))))))))
    (z_cons (s_set 6 sc_law.nd (e_add rfl (e_bor 6) (e_lst (a_cons (e_new0 T.er_NotFound (xI_NotFound T) T.me_NotFound hr) (a_cons (e_new0 T.er_InvalidEdit (xI_InvalidEdit T) T.me_InvalidEdit hr) (a_cons (e_new0 T.er_InvalidBlock (xI_InvalidBlock T) T.me_InvalidBlock hr) (a_cons (e_new1 T.er_InvalidText (xI_InvalidText T) T.me_InvalidText hr (a_cons (e_var 4) a_nil)) a_nil)))))))
    (z_cons (s_set 7 sc_law.nd (e_lst (a_cons (e_newK T.er_InvalidTable (xK_InvalidTable T) T.me_InvalidTable hr (k_cons (e_var 5) k_nil)) (a_cons (e_newK T.er_UnknownItem (xK_UnknownItem T) T.me_UnknownItem hr (k_cons (e_var 5) k_nil)) (a_cons (e_newK T.er_InvalidHints (xK_InvalidHints T) T.me_InvalidHints hr (k_cons (e_var 5) k_nil)) (a_cons (e_newK T.er_InvalidText (xK_InvalidText T) T.me_InvalidText hr (k_cons (e_var 5) k_nil)) a_nil))))))
    (z_cons (s_for (x_enumU rfl rfl T.n_enumerate (e_var 6) rfl) (pg_tup rfl (pgs_cons (pg_name (i := 8) sc_law.nd rfl (by first | exact Or.inl rfl | exact Or.inr rfl)) (pgs_cons (pg_name (i := 9) sc_law.nd rfl (by first | exact Or.inl rfl | exact Or.inr rfl)) pgs_nil))) (g_tup (n := 2) (g_cons (g_name (i := 8)) (g_cons (g_name (i := 9)) g_nil))) (z_cons (z_if (t_bool (w_or (t_not (t_val (e_isX rfl (isx_ok T) T.n_isinstance bt_isinstance (a_cons (e_var 9) (a_cons (e_cl T.me_FitError) a_nil))))) (w_or1 (t_not (t_val (e_isX rfl (isx_ok T) T.n_isinstance bt_isinstance (a_cons (e_var 9) (a_cons (e_ty T.n_ValueError bt_ValueError) a_nil)))))))) (z_cons (z_ret e_bl)
    z_nil) z_nil)
    (z_cons (z_if (t_ne rfl hr (e_call ((d_w_marks T).mono (by decide)) rfl rfl hr hg T.m_w_marks T.F_w_marks.kp T.b_w_marks (a_cons (e_var 9) a_nil) (LenR.ok (l_cons l_nil))) (e_lc [("_law_k", 11)] sc_law.nd (blkOk_by (N := ["_law_script", "_law_draw", "_law_turn", "_law_some", "_law_thing", "_law_other", "_law_made", "_law_byname", "_law_at", "_law_error", "_law_told", "_law_k"]) (sc := (defScope st_law)) (by decide +kernel)) (x_range rfl T.n_range e_int rfl) (fun _ _ _ _ _ => (pg_name (i := 11) sc_law.nd rfl (Or.inl rfl))) (g_name (i := 11)) (fun _ _ _ _ _ => ts_nil) (fun _ _ _ _ _ => (e_eq rfl hr (e_bor 11) (e_bor 8))))) (z_cons (z_ret e_bl)
    z_nil) z_nil)
    z_nil)))
    (z_cons (s_set 10 sc_law.nd (e_lst (a_cons (e_erF rfl (ea_ok_part T) (e_ix rfl (e_bor 6) e_int)) (a_cons (e_erF rfl (ea_ok_item T) (e_ix rfl (e_bor 6) e_int)) (a_cons (e_erF rfl (ea_ok_index T) (e_ix rfl (e_bor 6) e_int)) (a_cons (e_erF rfl (ea_ok_line T) (e_ix rfl (e_bor 6) e_int)) a_nil))))))
    (z_cons (z_if (t_ne rfl hr (e_blt (cr_reprU hr.units hg) p_reprU T.n_repr bt_repr (a_cons (e_var 10) a_nil)) (e_blt (cr_reprU hr.units hg) p_reprU T.n_repr bt_repr (a_cons (e_repL rfl (e_lst (a_cons (e_var 4) a_nil)) e_int) a_nil))) (z_cons (z_ret e_bl)
    z_nil) z_nil)
    (z_cons (s_set 10 sc_law.nd (e_lst (a_cons (e_erF rfl (ea_ok_part T) (e_ix rfl (e_bor 7) e_int)) (a_cons (e_erF rfl (ea_ok_item T) (e_ix rfl (e_bor 7) e_int)) (a_cons (e_erF rfl (ea_ok_index T) (e_ix rfl (e_bor 7) e_int)) (a_cons (e_erF rfl (ea_ok_line T) (e_ix rfl (e_bor 7) e_int)) a_nil))))))
    (z_cons (z_if (t_ne rfl hr (e_blt (cr_reprU hr.units hg) p_reprU T.n_repr bt_repr (a_cons (e_var 10) a_nil)) (e_blt (cr_reprU hr.units hg) p_reprU T.n_repr bt_repr (a_cons (e_repL rfl (e_lst (a_cons (e_var 5) a_nil)) e_int) a_nil))) (z_cons (z_ret e_bl)
    z_nil) z_nil)
    z_nil)))))))))))
    (z_cons (z_ret e_bl)
    z_nil))
theorem d_law (T : Tx Pr base K mg A) : FnG Pr w K mg base CX0 4 A.a_law A.fd_law ["_law_script"] (spLaw K A.tbl 12 r_law) :=
  law_ok (k := 3) (cls := A.cls) (N := ["_law_script", "_law_draw", "_law_turn", "_law_some", "_law_thing", "_law_other", "_law_made", "_law_byname", "_law_at", "_law_error", "_law_told", "_law_k"]) (run := r_law) (s0 := headS st_law) (rest := restS st_law) T.F_law sc_law (by decide) rfl (fun cdv A0 outer s H E hr hg => ps_set (i := 1) sc_law.nd rfl (by first | exact Or.inl rfl | exact Or.inr rfl) (pe_callG ((d_w_begin T).mono (by decide)) hr hg rfl T.m_w_begin T.F_w_begin.kp T.b_w_begin .nil pass0 (pa_cons (e_own 0) pa_nil) (by decide) rfl rfl))
    fun cdv A0 outer s H E hr hg W hK hc => b_law T cdv A0 outer s H E hr hg W hK hc
end
theorem all_mk {l : PySem.W.OpenLaw} {w : World} {K : PySem.W.Frag} {h : Heap} {mg : Str → Option Value} {fa f0 f1 f2 f3 f4 : Addr} (X : K.In h) (G : h.Ns mainGlobals mg) (hfa : mg "law" = some (.ref fa))
    {od0 an0 od1 an1 od2 an2 od3 an3 od4 an4 : Option Addr} {sl0 sl1 sl2 sl3 sl4 : Array (Option Value)} {oc0 kV0 dc0 pm0 cd0 ct0 oc1 kV1 dc1 pm1 cd1 ct1 oc2 kV2 dc2 pm2 cd2 ct2 oc3 kV3 dc3 pm3 cd3 ct3 oc4 kV4 dc4 pm4 cd4 ct4 : Value}
    {e_FitError : Addr} (aE_FitError : PySem.W.nsIn K mainGlobals "FitError" = some (some (.ref e_FitError))) (exF : PySem.W.subIn K (.ref e_FitError) (.type "BaseException") = some true) (hdF : PySem.W.hasDictIn K e_FitError = true) (tyF : PySem.W.typeIn K (.ref e_FitError) = some (.type "type"))
    (opq : PySem.W.nsIn K PySem.cStatics "thirdparty.any" = some none) (topS : (l.prog.main.scope.names.lookup ("super" : Str)).isSome = false) (zS : PySem.W.nsIn K mainGlobals "super" = some none) (xhn : PySem.W.specialIn K (.builtin "object.__class__") "__get__" = some (some (.builtin "getset_descriptor.__get__"))) (xht : PySem.W.takesIn K (.builtin "object.__class__") = some true)
    {e_InvalidTable i_InvalidTable cc_InvalidTable cd_InvalidTable N_InvalidTable : Addr} {n1_InvalidTable n2_InvalidTable tx_InvalidTable : Str} {bs_InvalidTable sub_InvalidTable : List Value} {sn_InvalidTable : List Str} {ab_InvalidTable : Bool} {col_InvalidTable : Option Bool} {dd_InvalidTable od_InvalidTable an_InvalidTable cld_InvalidTable cdd_InvalidTable : Option Addr} {m0_InvalidTable m1_InvalidTable m2_InvalidTable m3_InvalidTable m5_InvalidTable : Option Value} {oc_InvalidTable kV_InvalidTable dc_InvalidTable pm_InvalidTable ct_InvalidTable cl_InvalidTable ccl_InvalidTable : Value} {sl_InvalidTable csl_InvalidTable ccs_InvalidTable : Array (Option Value)} {vs_InvalidTable : Array Value} {tf_InvalidTable : Tok}
    (aE_InvalidTable : PySem.W.nsIn K mainGlobals "InvalidTable" = some (some (.ref e_InvalidTable))) (xE_InvalidTable : K.lookup e_InvalidTable = some (excClassObj n1_InvalidTable n2_InvalidTable e_InvalidTable N_InvalidTable bs_InvalidTable [.ref e_FitError, .type "ValueError", .type "Exception", .type "BaseException", .type "object"] true sn_InvalidTable sub_InvalidTable ab_InvalidTable col_InvalidTable dd_InvalidTable m0_InvalidTable m1_InvalidTable m2_InvalidTable m3_InvalidTable m5_InvalidTable "ValueError.__new__"))
    (al_InvalidTable : PySem.W.alongIn K "__init__" [.ref e_FitError, .type "ValueError", .type "Exception", .type "BaseException", .type "object"] = some (some (.builtin "ValueError.__init__"))) (sa_InvalidTable : PySem.W.findIn K (.ref e_InvalidTable) "__setattr__" = some (some (.builtin "object.__setattr__"))) (ga_InvalidTable : PySem.W.findIn K (.ref e_InvalidTable) "__getattribute__" = some (some (.builtin "BaseException.__getattribute__"))) (gg_InvalidTable : PySem.W.findIn K (.ref e_InvalidTable) "__getattr__" = some none)
    (ca_InvalidTable : PySem.W.findIn K (.ref e_InvalidTable) "__class__" = some (some (.builtin "object.__class__"))) (iC_InvalidTable : PySem.W.findIn K (.ref e_InvalidTable) "__init__" = some (some (.ref i_InvalidTable))) (tC_InvalidTable : PySem.W.typeIn K (.ref i_InvalidTable) = some (.type "function")) (kC_InvalidTable : PySem.W.keepIn K (.ref e_InvalidTable) = true) (xC_InvalidTable : PySem.W.subIn K (.ref e_InvalidTable) (.type "BaseException") = some true) (vC_InvalidTable : PySem.W.subIn K (.ref e_InvalidTable) (.type "ValueError") = some true) (sC_InvalidTable : PySem.W.mroIn K e_InvalidTable (.ref e_InvalidTable) = some true) (ob_InvalidTable : PySem.W.mroIn K e_InvalidTable (.type "object") = some true) (ty_InvalidTable : PySem.W.typeIn K (.ref e_InvalidTable) = some (.type "type")) (hd_InvalidTable : PySem.W.hasDictIn K e_InvalidTable = true) (su_InvalidTable : PySem.W.subIn K (.ref e_InvalidTable) (.ref e_FitError) = some true)
    (lE_InvalidTable : K.lookup i_InvalidTable = some ⟨oc_InvalidTable, od_InvalidTable, .func (PySem.W.ksFn "__init__" "InvalidTable.__init__" (defArgs st_e_InvalidTable) (defBody st_e_InvalidTable) (defScope st_e_InvalidTable) .none kV_InvalidTable dc_InvalidTable pm_InvalidTable an_InvalidTable (.ref cd_InvalidTable) ct_InvalidTable cc_InvalidTable), sl_InvalidTable⟩) (cE_InvalidTable : PySem.W.codeIn K (.ref cd_InvalidTable) "InvalidTable.__init__" = true) (ce_InvalidTable : K.lookup cc_InvalidTable = some ⟨cl_InvalidTable, cld_InvalidTable, .cell (some (.ref e_InvalidTable)), csl_InvalidTable⟩) (co_InvalidTable : K.lookup cd_InvalidTable = some ⟨ccl_InvalidTable, cdd_InvalidTable, .fields vs_InvalidTable, ccs_InvalidTable⟩) (v2_InvalidTable : vs_InvalidTable[2]? = some (.str tx_InvalidTable tf_InvalidTable)) (fi_InvalidTable : ((l.prog.main.file : Str) == tx_InvalidTable) = true)
    (no_InvalidTable : PySem.W.findIn K (.ref e_InvalidTable) "part" = some none)
    (kv_InvalidTable : PySem.W.kitOne K (.ref e_InvalidTable) (.type "ValueError") = some true)
    {e_UnknownItem i_UnknownItem cc_UnknownItem cd_UnknownItem N_UnknownItem : Addr} {n1_UnknownItem n2_UnknownItem tx_UnknownItem : Str} {bs_UnknownItem sub_UnknownItem : List Value} {sn_UnknownItem : List Str} {ab_UnknownItem : Bool} {col_UnknownItem : Option Bool} {dd_UnknownItem od_UnknownItem an_UnknownItem cld_UnknownItem cdd_UnknownItem : Option Addr} {m0_UnknownItem m1_UnknownItem m2_UnknownItem m3_UnknownItem m5_UnknownItem : Option Value} {oc_UnknownItem kV_UnknownItem dc_UnknownItem pm_UnknownItem ct_UnknownItem cl_UnknownItem ccl_UnknownItem : Value} {sl_UnknownItem csl_UnknownItem ccs_UnknownItem : Array (Option Value)} {vs_UnknownItem : Array Value} {tf_UnknownItem : Tok}
    (aE_UnknownItem : PySem.W.nsIn K mainGlobals "UnknownItem" = some (some (.ref e_UnknownItem))) (xE_UnknownItem : K.lookup e_UnknownItem = some (excClassObj n1_UnknownItem n2_UnknownItem e_UnknownItem N_UnknownItem bs_UnknownItem [.ref e_FitError, .type "ValueError", .type "Exception", .type "BaseException", .type "object"] true sn_UnknownItem sub_UnknownItem ab_UnknownItem col_UnknownItem dd_UnknownItem m0_UnknownItem m1_UnknownItem m2_UnknownItem m3_UnknownItem m5_UnknownItem "ValueError.__new__"))
    (al_UnknownItem : PySem.W.alongIn K "__init__" [.ref e_FitError, .type "ValueError", .type "Exception", .type "BaseException", .type "object"] = some (some (.builtin "ValueError.__init__"))) (sa_UnknownItem : PySem.W.findIn K (.ref e_UnknownItem) "__setattr__" = some (some (.builtin "object.__setattr__"))) (ga_UnknownItem : PySem.W.findIn K (.ref e_UnknownItem) "__getattribute__" = some (some (.builtin "BaseException.__getattribute__"))) (gg_UnknownItem : PySem.W.findIn K (.ref e_UnknownItem) "__getattr__" = some none)
    (ca_UnknownItem : PySem.W.findIn K (.ref e_UnknownItem) "__class__" = some (some (.builtin "object.__class__"))) (iC_UnknownItem : PySem.W.findIn K (.ref e_UnknownItem) "__init__" = some (some (.ref i_UnknownItem))) (tC_UnknownItem : PySem.W.typeIn K (.ref i_UnknownItem) = some (.type "function")) (kC_UnknownItem : PySem.W.keepIn K (.ref e_UnknownItem) = true) (xC_UnknownItem : PySem.W.subIn K (.ref e_UnknownItem) (.type "BaseException") = some true) (vC_UnknownItem : PySem.W.subIn K (.ref e_UnknownItem) (.type "ValueError") = some true) (sC_UnknownItem : PySem.W.mroIn K e_UnknownItem (.ref e_UnknownItem) = some true) (ob_UnknownItem : PySem.W.mroIn K e_UnknownItem (.type "object") = some true) (ty_UnknownItem : PySem.W.typeIn K (.ref e_UnknownItem) = some (.type "type")) (hd_UnknownItem : PySem.W.hasDictIn K e_UnknownItem = true) (su_UnknownItem : PySem.W.subIn K (.ref e_UnknownItem) (.ref e_FitError) = some true)
    (lE_UnknownItem : K.lookup i_UnknownItem = some ⟨oc_UnknownItem, od_UnknownItem, .func (PySem.W.ksFn "__init__" "UnknownItem.__init__" (defArgs st_e_UnknownItem) (defBody st_e_UnknownItem) (defScope st_e_UnknownItem) .none kV_UnknownItem dc_UnknownItem pm_UnknownItem an_UnknownItem (.ref cd_UnknownItem) ct_UnknownItem cc_UnknownItem), sl_UnknownItem⟩) (cE_UnknownItem : PySem.W.codeIn K (.ref cd_UnknownItem) "UnknownItem.__init__" = true) (ce_UnknownItem : K.lookup cc_UnknownItem = some ⟨cl_UnknownItem, cld_UnknownItem, .cell (some (.ref e_UnknownItem)), csl_UnknownItem⟩) (co_UnknownItem : K.lookup cd_UnknownItem = some ⟨ccl_UnknownItem, cdd_UnknownItem, .fields vs_UnknownItem, ccs_UnknownItem⟩) (v2_UnknownItem : vs_UnknownItem[2]? = some (.str tx_UnknownItem tf_UnknownItem)) (fi_UnknownItem : ((l.prog.main.file : Str) == tx_UnknownItem) = true)
    (no_UnknownItem : PySem.W.findIn K (.ref e_UnknownItem) "item" = some none)
    (kv_UnknownItem : PySem.W.kitOne K (.ref e_UnknownItem) (.type "ValueError") = some true)
    {e_InvalidSet i_InvalidSet cc_InvalidSet cd_InvalidSet N_InvalidSet : Addr} {n1_InvalidSet n2_InvalidSet tx_InvalidSet : Str} {bs_InvalidSet sub_InvalidSet : List Value} {sn_InvalidSet : List Str} {ab_InvalidSet : Bool} {col_InvalidSet : Option Bool} {dd_InvalidSet od_InvalidSet an_InvalidSet cld_InvalidSet cdd_InvalidSet : Option Addr} {m0_InvalidSet m1_InvalidSet m2_InvalidSet m3_InvalidSet m5_InvalidSet : Option Value} {oc_InvalidSet kV_InvalidSet dc_InvalidSet pm_InvalidSet ct_InvalidSet cl_InvalidSet ccl_InvalidSet : Value} {sl_InvalidSet csl_InvalidSet ccs_InvalidSet : Array (Option Value)} {vs_InvalidSet : Array Value} {tf_InvalidSet : Tok}
    (aE_InvalidSet : PySem.W.nsIn K mainGlobals "InvalidSet" = some (some (.ref e_InvalidSet))) (xE_InvalidSet : K.lookup e_InvalidSet = some (excClassObj n1_InvalidSet n2_InvalidSet e_InvalidSet N_InvalidSet bs_InvalidSet [.ref e_FitError, .type "ValueError", .type "Exception", .type "BaseException", .type "object"] true sn_InvalidSet sub_InvalidSet ab_InvalidSet col_InvalidSet dd_InvalidSet m0_InvalidSet m1_InvalidSet m2_InvalidSet m3_InvalidSet m5_InvalidSet "ValueError.__new__"))
    (al_InvalidSet : PySem.W.alongIn K "__init__" [.ref e_FitError, .type "ValueError", .type "Exception", .type "BaseException", .type "object"] = some (some (.builtin "ValueError.__init__"))) (sa_InvalidSet : PySem.W.findIn K (.ref e_InvalidSet) "__setattr__" = some (some (.builtin "object.__setattr__"))) (ga_InvalidSet : PySem.W.findIn K (.ref e_InvalidSet) "__getattribute__" = some (some (.builtin "BaseException.__getattribute__"))) (gg_InvalidSet : PySem.W.findIn K (.ref e_InvalidSet) "__getattr__" = some none)
    (ca_InvalidSet : PySem.W.findIn K (.ref e_InvalidSet) "__class__" = some (some (.builtin "object.__class__"))) (iC_InvalidSet : PySem.W.findIn K (.ref e_InvalidSet) "__init__" = some (some (.ref i_InvalidSet))) (tC_InvalidSet : PySem.W.typeIn K (.ref i_InvalidSet) = some (.type "function")) (kC_InvalidSet : PySem.W.keepIn K (.ref e_InvalidSet) = true) (xC_InvalidSet : PySem.W.subIn K (.ref e_InvalidSet) (.type "BaseException") = some true) (vC_InvalidSet : PySem.W.subIn K (.ref e_InvalidSet) (.type "ValueError") = some true) (sC_InvalidSet : PySem.W.mroIn K e_InvalidSet (.ref e_InvalidSet) = some true) (ob_InvalidSet : PySem.W.mroIn K e_InvalidSet (.type "object") = some true) (ty_InvalidSet : PySem.W.typeIn K (.ref e_InvalidSet) = some (.type "type")) (hd_InvalidSet : PySem.W.hasDictIn K e_InvalidSet = true) (su_InvalidSet : PySem.W.subIn K (.ref e_InvalidSet) (.ref e_FitError) = some true)
    (lE_InvalidSet : K.lookup i_InvalidSet = some ⟨oc_InvalidSet, od_InvalidSet, .func (PySem.W.ksFn "__init__" "InvalidSet.__init__" (defArgs st_e_InvalidSet) (defBody st_e_InvalidSet) (defScope st_e_InvalidSet) .none kV_InvalidSet dc_InvalidSet pm_InvalidSet an_InvalidSet (.ref cd_InvalidSet) ct_InvalidSet cc_InvalidSet), sl_InvalidSet⟩) (cE_InvalidSet : PySem.W.codeIn K (.ref cd_InvalidSet) "InvalidSet.__init__" = true) (ce_InvalidSet : K.lookup cc_InvalidSet = some ⟨cl_InvalidSet, cld_InvalidSet, .cell (some (.ref e_InvalidSet)), csl_InvalidSet⟩) (co_InvalidSet : K.lookup cd_InvalidSet = some ⟨ccl_InvalidSet, cdd_InvalidSet, .fields vs_InvalidSet, ccs_InvalidSet⟩) (v2_InvalidSet : vs_InvalidSet[2]? = some (.str tx_InvalidSet tf_InvalidSet)) (fi_InvalidSet : ((l.prog.main.file : Str) == tx_InvalidSet) = true)
    (kv_InvalidSet : PySem.W.kitOne K (.ref e_InvalidSet) (.type "ValueError") = some true)
    {e_InvalidFit i_InvalidFit cc_InvalidFit cd_InvalidFit N_InvalidFit : Addr} {n1_InvalidFit n2_InvalidFit tx_InvalidFit : Str} {bs_InvalidFit sub_InvalidFit : List Value} {sn_InvalidFit : List Str} {ab_InvalidFit : Bool} {col_InvalidFit : Option Bool} {dd_InvalidFit od_InvalidFit an_InvalidFit cld_InvalidFit cdd_InvalidFit : Option Addr} {m0_InvalidFit m1_InvalidFit m2_InvalidFit m3_InvalidFit m5_InvalidFit : Option Value} {oc_InvalidFit kV_InvalidFit dc_InvalidFit pm_InvalidFit ct_InvalidFit cl_InvalidFit ccl_InvalidFit : Value} {sl_InvalidFit csl_InvalidFit ccs_InvalidFit : Array (Option Value)} {vs_InvalidFit : Array Value} {tf_InvalidFit : Tok}
    (aE_InvalidFit : PySem.W.nsIn K mainGlobals "InvalidFit" = some (some (.ref e_InvalidFit))) (xE_InvalidFit : K.lookup e_InvalidFit = some (excClassObj n1_InvalidFit n2_InvalidFit e_InvalidFit N_InvalidFit bs_InvalidFit [.ref e_FitError, .type "ValueError", .type "Exception", .type "BaseException", .type "object"] true sn_InvalidFit sub_InvalidFit ab_InvalidFit col_InvalidFit dd_InvalidFit m0_InvalidFit m1_InvalidFit m2_InvalidFit m3_InvalidFit m5_InvalidFit "ValueError.__new__"))
    (al_InvalidFit : PySem.W.alongIn K "__init__" [.ref e_FitError, .type "ValueError", .type "Exception", .type "BaseException", .type "object"] = some (some (.builtin "ValueError.__init__"))) (sa_InvalidFit : PySem.W.findIn K (.ref e_InvalidFit) "__setattr__" = some (some (.builtin "object.__setattr__"))) (ga_InvalidFit : PySem.W.findIn K (.ref e_InvalidFit) "__getattribute__" = some (some (.builtin "BaseException.__getattribute__"))) (gg_InvalidFit : PySem.W.findIn K (.ref e_InvalidFit) "__getattr__" = some none)
    (ca_InvalidFit : PySem.W.findIn K (.ref e_InvalidFit) "__class__" = some (some (.builtin "object.__class__"))) (iC_InvalidFit : PySem.W.findIn K (.ref e_InvalidFit) "__init__" = some (some (.ref i_InvalidFit))) (tC_InvalidFit : PySem.W.typeIn K (.ref i_InvalidFit) = some (.type "function")) (kC_InvalidFit : PySem.W.keepIn K (.ref e_InvalidFit) = true) (xC_InvalidFit : PySem.W.subIn K (.ref e_InvalidFit) (.type "BaseException") = some true) (vC_InvalidFit : PySem.W.subIn K (.ref e_InvalidFit) (.type "ValueError") = some true) (sC_InvalidFit : PySem.W.mroIn K e_InvalidFit (.ref e_InvalidFit) = some true) (ob_InvalidFit : PySem.W.mroIn K e_InvalidFit (.type "object") = some true) (ty_InvalidFit : PySem.W.typeIn K (.ref e_InvalidFit) = some (.type "type")) (hd_InvalidFit : PySem.W.hasDictIn K e_InvalidFit = true) (su_InvalidFit : PySem.W.subIn K (.ref e_InvalidFit) (.ref e_FitError) = some true)
    (lE_InvalidFit : K.lookup i_InvalidFit = some ⟨oc_InvalidFit, od_InvalidFit, .func (PySem.W.ksFn "__init__" "InvalidFit.__init__" (defArgs st_e_InvalidFit) (defBody st_e_InvalidFit) (defScope st_e_InvalidFit) .none kV_InvalidFit dc_InvalidFit pm_InvalidFit an_InvalidFit (.ref cd_InvalidFit) ct_InvalidFit cc_InvalidFit), sl_InvalidFit⟩) (cE_InvalidFit : PySem.W.codeIn K (.ref cd_InvalidFit) "InvalidFit.__init__" = true) (ce_InvalidFit : K.lookup cc_InvalidFit = some ⟨cl_InvalidFit, cld_InvalidFit, .cell (some (.ref e_InvalidFit)), csl_InvalidFit⟩) (co_InvalidFit : K.lookup cd_InvalidFit = some ⟨ccl_InvalidFit, cdd_InvalidFit, .fields vs_InvalidFit, ccs_InvalidFit⟩) (v2_InvalidFit : vs_InvalidFit[2]? = some (.str tx_InvalidFit tf_InvalidFit)) (fi_InvalidFit : ((l.prog.main.file : Str) == tx_InvalidFit) = true)
    (kv_InvalidFit : PySem.W.kitOne K (.ref e_InvalidFit) (.type "ValueError") = some true)
    {e_InvalidHints i_InvalidHints cc_InvalidHints cd_InvalidHints N_InvalidHints : Addr} {n1_InvalidHints n2_InvalidHints tx_InvalidHints : Str} {bs_InvalidHints sub_InvalidHints : List Value} {sn_InvalidHints : List Str} {ab_InvalidHints : Bool} {col_InvalidHints : Option Bool} {dd_InvalidHints od_InvalidHints an_InvalidHints cld_InvalidHints cdd_InvalidHints : Option Addr} {m0_InvalidHints m1_InvalidHints m2_InvalidHints m3_InvalidHints m5_InvalidHints : Option Value} {oc_InvalidHints kV_InvalidHints dc_InvalidHints pm_InvalidHints ct_InvalidHints cl_InvalidHints ccl_InvalidHints : Value} {sl_InvalidHints csl_InvalidHints ccs_InvalidHints : Array (Option Value)} {vs_InvalidHints : Array Value} {tf_InvalidHints : Tok}
    (aE_InvalidHints : PySem.W.nsIn K mainGlobals "InvalidHints" = some (some (.ref e_InvalidHints))) (xE_InvalidHints : K.lookup e_InvalidHints = some (excClassObj n1_InvalidHints n2_InvalidHints e_InvalidHints N_InvalidHints bs_InvalidHints [.ref e_FitError, .type "ValueError", .type "Exception", .type "BaseException", .type "object"] true sn_InvalidHints sub_InvalidHints ab_InvalidHints col_InvalidHints dd_InvalidHints m0_InvalidHints m1_InvalidHints m2_InvalidHints m3_InvalidHints m5_InvalidHints "ValueError.__new__"))
    (al_InvalidHints : PySem.W.alongIn K "__init__" [.ref e_FitError, .type "ValueError", .type "Exception", .type "BaseException", .type "object"] = some (some (.builtin "ValueError.__init__"))) (sa_InvalidHints : PySem.W.findIn K (.ref e_InvalidHints) "__setattr__" = some (some (.builtin "object.__setattr__"))) (ga_InvalidHints : PySem.W.findIn K (.ref e_InvalidHints) "__getattribute__" = some (some (.builtin "BaseException.__getattribute__"))) (gg_InvalidHints : PySem.W.findIn K (.ref e_InvalidHints) "__getattr__" = some none)
    (ca_InvalidHints : PySem.W.findIn K (.ref e_InvalidHints) "__class__" = some (some (.builtin "object.__class__"))) (iC_InvalidHints : PySem.W.findIn K (.ref e_InvalidHints) "__init__" = some (some (.ref i_InvalidHints))) (tC_InvalidHints : PySem.W.typeIn K (.ref i_InvalidHints) = some (.type "function")) (kC_InvalidHints : PySem.W.keepIn K (.ref e_InvalidHints) = true) (xC_InvalidHints : PySem.W.subIn K (.ref e_InvalidHints) (.type "BaseException") = some true) (vC_InvalidHints : PySem.W.subIn K (.ref e_InvalidHints) (.type "ValueError") = some true) (sC_InvalidHints : PySem.W.mroIn K e_InvalidHints (.ref e_InvalidHints) = some true) (ob_InvalidHints : PySem.W.mroIn K e_InvalidHints (.type "object") = some true) (ty_InvalidHints : PySem.W.typeIn K (.ref e_InvalidHints) = some (.type "type")) (hd_InvalidHints : PySem.W.hasDictIn K e_InvalidHints = true) (su_InvalidHints : PySem.W.subIn K (.ref e_InvalidHints) (.ref e_FitError) = some true)
    (lE_InvalidHints : K.lookup i_InvalidHints = some ⟨oc_InvalidHints, od_InvalidHints, .func (PySem.W.ksFn "__init__" "InvalidHints.__init__" (defArgs st_e_InvalidHints) (defBody st_e_InvalidHints) (defScope st_e_InvalidHints) .none kV_InvalidHints dc_InvalidHints pm_InvalidHints an_InvalidHints (.ref cd_InvalidHints) ct_InvalidHints cc_InvalidHints), sl_InvalidHints⟩) (cE_InvalidHints : PySem.W.codeIn K (.ref cd_InvalidHints) "InvalidHints.__init__" = true) (ce_InvalidHints : K.lookup cc_InvalidHints = some ⟨cl_InvalidHints, cld_InvalidHints, .cell (some (.ref e_InvalidHints)), csl_InvalidHints⟩) (co_InvalidHints : K.lookup cd_InvalidHints = some ⟨ccl_InvalidHints, cdd_InvalidHints, .fields vs_InvalidHints, ccs_InvalidHints⟩) (v2_InvalidHints : vs_InvalidHints[2]? = some (.str tx_InvalidHints tf_InvalidHints)) (fi_InvalidHints : ((l.prog.main.file : Str) == tx_InvalidHints) = true)
    (no_InvalidHints : PySem.W.findIn K (.ref e_InvalidHints) "index" = some none)
    (kv_InvalidHints : PySem.W.kitOne K (.ref e_InvalidHints) (.type "ValueError") = some true)
    {e_NoFit i_NoFit cc_NoFit cd_NoFit N_NoFit : Addr} {n1_NoFit n2_NoFit tx_NoFit : Str} {bs_NoFit sub_NoFit : List Value} {sn_NoFit : List Str} {ab_NoFit : Bool} {col_NoFit : Option Bool} {dd_NoFit od_NoFit an_NoFit cld_NoFit cdd_NoFit : Option Addr} {m0_NoFit m1_NoFit m2_NoFit m3_NoFit m5_NoFit : Option Value} {oc_NoFit kV_NoFit dc_NoFit pm_NoFit ct_NoFit cl_NoFit ccl_NoFit : Value} {sl_NoFit csl_NoFit ccs_NoFit : Array (Option Value)} {vs_NoFit : Array Value} {tf_NoFit : Tok}
    (aE_NoFit : PySem.W.nsIn K mainGlobals "NoFit" = some (some (.ref e_NoFit))) (xE_NoFit : K.lookup e_NoFit = some (excClassObj n1_NoFit n2_NoFit e_NoFit N_NoFit bs_NoFit [.ref e_FitError, .type "ValueError", .type "Exception", .type "BaseException", .type "object"] true sn_NoFit sub_NoFit ab_NoFit col_NoFit dd_NoFit m0_NoFit m1_NoFit m2_NoFit m3_NoFit m5_NoFit "ValueError.__new__"))
    (al_NoFit : PySem.W.alongIn K "__init__" [.ref e_FitError, .type "ValueError", .type "Exception", .type "BaseException", .type "object"] = some (some (.builtin "ValueError.__init__"))) (sa_NoFit : PySem.W.findIn K (.ref e_NoFit) "__setattr__" = some (some (.builtin "object.__setattr__"))) (ga_NoFit : PySem.W.findIn K (.ref e_NoFit) "__getattribute__" = some (some (.builtin "BaseException.__getattribute__"))) (gg_NoFit : PySem.W.findIn K (.ref e_NoFit) "__getattr__" = some none)
    (ca_NoFit : PySem.W.findIn K (.ref e_NoFit) "__class__" = some (some (.builtin "object.__class__"))) (iC_NoFit : PySem.W.findIn K (.ref e_NoFit) "__init__" = some (some (.ref i_NoFit))) (tC_NoFit : PySem.W.typeIn K (.ref i_NoFit) = some (.type "function")) (kC_NoFit : PySem.W.keepIn K (.ref e_NoFit) = true) (xC_NoFit : PySem.W.subIn K (.ref e_NoFit) (.type "BaseException") = some true) (vC_NoFit : PySem.W.subIn K (.ref e_NoFit) (.type "ValueError") = some true) (sC_NoFit : PySem.W.mroIn K e_NoFit (.ref e_NoFit) = some true) (ob_NoFit : PySem.W.mroIn K e_NoFit (.type "object") = some true) (ty_NoFit : PySem.W.typeIn K (.ref e_NoFit) = some (.type "type")) (hd_NoFit : PySem.W.hasDictIn K e_NoFit = true) (su_NoFit : PySem.W.subIn K (.ref e_NoFit) (.ref e_FitError) = some true)
    (lE_NoFit : K.lookup i_NoFit = some ⟨oc_NoFit, od_NoFit, .func (PySem.W.ksFn "__init__" "NoFit.__init__" (defArgs st_e_NoFit) (defBody st_e_NoFit) (defScope st_e_NoFit) .none kV_NoFit dc_NoFit pm_NoFit an_NoFit (.ref cd_NoFit) ct_NoFit cc_NoFit), sl_NoFit⟩) (cE_NoFit : PySem.W.codeIn K (.ref cd_NoFit) "NoFit.__init__" = true) (ce_NoFit : K.lookup cc_NoFit = some ⟨cl_NoFit, cld_NoFit, .cell (some (.ref e_NoFit)), csl_NoFit⟩) (co_NoFit : K.lookup cd_NoFit = some ⟨ccl_NoFit, cdd_NoFit, .fields vs_NoFit, ccs_NoFit⟩) (v2_NoFit : vs_NoFit[2]? = some (.str tx_NoFit tf_NoFit)) (fi_NoFit : ((l.prog.main.file : Str) == tx_NoFit) = true)
    (kv_NoFit : PySem.W.kitOne K (.ref e_NoFit) (.type "ValueError") = some true)
    {e_NotFound i_NotFound cc_NotFound cd_NotFound N_NotFound : Addr} {n1_NotFound n2_NotFound tx_NotFound : Str} {bs_NotFound sub_NotFound : List Value} {sn_NotFound : List Str} {ab_NotFound : Bool} {col_NotFound : Option Bool} {dd_NotFound od_NotFound an_NotFound cld_NotFound cdd_NotFound : Option Addr} {m0_NotFound m1_NotFound m2_NotFound m3_NotFound m5_NotFound : Option Value} {oc_NotFound kV_NotFound dc_NotFound pm_NotFound ct_NotFound cl_NotFound ccl_NotFound : Value} {sl_NotFound csl_NotFound ccs_NotFound : Array (Option Value)} {vs_NotFound : Array Value} {tf_NotFound : Tok}
    (aE_NotFound : PySem.W.nsIn K mainGlobals "NotFound" = some (some (.ref e_NotFound))) (xE_NotFound : K.lookup e_NotFound = some (excClassObj n1_NotFound n2_NotFound e_NotFound N_NotFound bs_NotFound [.ref e_FitError, .type "ValueError", .type "Exception", .type "BaseException", .type "object"] true sn_NotFound sub_NotFound ab_NotFound col_NotFound dd_NotFound m0_NotFound m1_NotFound m2_NotFound m3_NotFound m5_NotFound "ValueError.__new__"))
    (al_NotFound : PySem.W.alongIn K "__init__" [.ref e_FitError, .type "ValueError", .type "Exception", .type "BaseException", .type "object"] = some (some (.builtin "ValueError.__init__"))) (sa_NotFound : PySem.W.findIn K (.ref e_NotFound) "__setattr__" = some (some (.builtin "object.__setattr__"))) (ga_NotFound : PySem.W.findIn K (.ref e_NotFound) "__getattribute__" = some (some (.builtin "BaseException.__getattribute__"))) (gg_NotFound : PySem.W.findIn K (.ref e_NotFound) "__getattr__" = some none)
    (ca_NotFound : PySem.W.findIn K (.ref e_NotFound) "__class__" = some (some (.builtin "object.__class__"))) (iC_NotFound : PySem.W.findIn K (.ref e_NotFound) "__init__" = some (some (.ref i_NotFound))) (tC_NotFound : PySem.W.typeIn K (.ref i_NotFound) = some (.type "function")) (kC_NotFound : PySem.W.keepIn K (.ref e_NotFound) = true) (xC_NotFound : PySem.W.subIn K (.ref e_NotFound) (.type "BaseException") = some true) (vC_NotFound : PySem.W.subIn K (.ref e_NotFound) (.type "ValueError") = some true) (sC_NotFound : PySem.W.mroIn K e_NotFound (.ref e_NotFound) = some true) (ob_NotFound : PySem.W.mroIn K e_NotFound (.type "object") = some true) (ty_NotFound : PySem.W.typeIn K (.ref e_NotFound) = some (.type "type")) (hd_NotFound : PySem.W.hasDictIn K e_NotFound = true) (su_NotFound : PySem.W.subIn K (.ref e_NotFound) (.ref e_FitError) = some true)
    (lE_NotFound : K.lookup i_NotFound = some ⟨oc_NotFound, od_NotFound, .func (PySem.W.ksFn "__init__" "NotFound.__init__" (defArgs st_e_NotFound) (defBody st_e_NotFound) (defScope st_e_NotFound) .none kV_NotFound dc_NotFound pm_NotFound an_NotFound (.ref cd_NotFound) ct_NotFound cc_NotFound), sl_NotFound⟩) (cE_NotFound : PySem.W.codeIn K (.ref cd_NotFound) "NotFound.__init__" = true) (ce_NotFound : K.lookup cc_NotFound = some ⟨cl_NotFound, cld_NotFound, .cell (some (.ref e_NotFound)), csl_NotFound⟩) (co_NotFound : K.lookup cd_NotFound = some ⟨ccl_NotFound, cdd_NotFound, .fields vs_NotFound, ccs_NotFound⟩) (v2_NotFound : vs_NotFound[2]? = some (.str tx_NotFound tf_NotFound)) (fi_NotFound : ((l.prog.main.file : Str) == tx_NotFound) = true)
    (kv_NotFound : PySem.W.kitOne K (.ref e_NotFound) (.type "ValueError") = some true)
    {e_InvalidEdit i_InvalidEdit cc_InvalidEdit cd_InvalidEdit N_InvalidEdit : Addr} {n1_InvalidEdit n2_InvalidEdit tx_InvalidEdit : Str} {bs_InvalidEdit sub_InvalidEdit : List Value} {sn_InvalidEdit : List Str} {ab_InvalidEdit : Bool} {col_InvalidEdit : Option Bool} {dd_InvalidEdit od_InvalidEdit an_InvalidEdit cld_InvalidEdit cdd_InvalidEdit : Option Addr} {m0_InvalidEdit m1_InvalidEdit m2_InvalidEdit m3_InvalidEdit m5_InvalidEdit : Option Value} {oc_InvalidEdit kV_InvalidEdit dc_InvalidEdit pm_InvalidEdit ct_InvalidEdit cl_InvalidEdit ccl_InvalidEdit : Value} {sl_InvalidEdit csl_InvalidEdit ccs_InvalidEdit : Array (Option Value)} {vs_InvalidEdit : Array Value} {tf_InvalidEdit : Tok}
    (aE_InvalidEdit : PySem.W.nsIn K mainGlobals "InvalidEdit" = some (some (.ref e_InvalidEdit))) (xE_InvalidEdit : K.lookup e_InvalidEdit = some (excClassObj n1_InvalidEdit n2_InvalidEdit e_InvalidEdit N_InvalidEdit bs_InvalidEdit [.ref e_FitError, .type "ValueError", .type "Exception", .type "BaseException", .type "object"] true sn_InvalidEdit sub_InvalidEdit ab_InvalidEdit col_InvalidEdit dd_InvalidEdit m0_InvalidEdit m1_InvalidEdit m2_InvalidEdit m3_InvalidEdit m5_InvalidEdit "ValueError.__new__"))
    (al_InvalidEdit : PySem.W.alongIn K "__init__" [.ref e_FitError, .type "ValueError", .type "Exception", .type "BaseException", .type "object"] = some (some (.builtin "ValueError.__init__"))) (sa_InvalidEdit : PySem.W.findIn K (.ref e_InvalidEdit) "__setattr__" = some (some (.builtin "object.__setattr__"))) (ga_InvalidEdit : PySem.W.findIn K (.ref e_InvalidEdit) "__getattribute__" = some (some (.builtin "BaseException.__getattribute__"))) (gg_InvalidEdit : PySem.W.findIn K (.ref e_InvalidEdit) "__getattr__" = some none)
    (ca_InvalidEdit : PySem.W.findIn K (.ref e_InvalidEdit) "__class__" = some (some (.builtin "object.__class__"))) (iC_InvalidEdit : PySem.W.findIn K (.ref e_InvalidEdit) "__init__" = some (some (.ref i_InvalidEdit))) (tC_InvalidEdit : PySem.W.typeIn K (.ref i_InvalidEdit) = some (.type "function")) (kC_InvalidEdit : PySem.W.keepIn K (.ref e_InvalidEdit) = true) (xC_InvalidEdit : PySem.W.subIn K (.ref e_InvalidEdit) (.type "BaseException") = some true) (vC_InvalidEdit : PySem.W.subIn K (.ref e_InvalidEdit) (.type "ValueError") = some true) (sC_InvalidEdit : PySem.W.mroIn K e_InvalidEdit (.ref e_InvalidEdit) = some true) (ob_InvalidEdit : PySem.W.mroIn K e_InvalidEdit (.type "object") = some true) (ty_InvalidEdit : PySem.W.typeIn K (.ref e_InvalidEdit) = some (.type "type")) (hd_InvalidEdit : PySem.W.hasDictIn K e_InvalidEdit = true) (su_InvalidEdit : PySem.W.subIn K (.ref e_InvalidEdit) (.ref e_FitError) = some true)
    (lE_InvalidEdit : K.lookup i_InvalidEdit = some ⟨oc_InvalidEdit, od_InvalidEdit, .func (PySem.W.ksFn "__init__" "InvalidEdit.__init__" (defArgs st_e_InvalidEdit) (defBody st_e_InvalidEdit) (defScope st_e_InvalidEdit) .none kV_InvalidEdit dc_InvalidEdit pm_InvalidEdit an_InvalidEdit (.ref cd_InvalidEdit) ct_InvalidEdit cc_InvalidEdit), sl_InvalidEdit⟩) (cE_InvalidEdit : PySem.W.codeIn K (.ref cd_InvalidEdit) "InvalidEdit.__init__" = true) (ce_InvalidEdit : K.lookup cc_InvalidEdit = some ⟨cl_InvalidEdit, cld_InvalidEdit, .cell (some (.ref e_InvalidEdit)), csl_InvalidEdit⟩) (co_InvalidEdit : K.lookup cd_InvalidEdit = some ⟨ccl_InvalidEdit, cdd_InvalidEdit, .fields vs_InvalidEdit, ccs_InvalidEdit⟩) (v2_InvalidEdit : vs_InvalidEdit[2]? = some (.str tx_InvalidEdit tf_InvalidEdit)) (fi_InvalidEdit : ((l.prog.main.file : Str) == tx_InvalidEdit) = true)
    (kv_InvalidEdit : PySem.W.kitOne K (.ref e_InvalidEdit) (.type "ValueError") = some true)
    {e_InvalidBlock i_InvalidBlock cc_InvalidBlock cd_InvalidBlock N_InvalidBlock : Addr} {n1_InvalidBlock n2_InvalidBlock tx_InvalidBlock : Str} {bs_InvalidBlock sub_InvalidBlock : List Value} {sn_InvalidBlock : List Str} {ab_InvalidBlock : Bool} {col_InvalidBlock : Option Bool} {dd_InvalidBlock od_InvalidBlock an_InvalidBlock cld_InvalidBlock cdd_InvalidBlock : Option Addr} {m0_InvalidBlock m1_InvalidBlock m2_InvalidBlock m3_InvalidBlock m5_InvalidBlock : Option Value} {oc_InvalidBlock kV_InvalidBlock dc_InvalidBlock pm_InvalidBlock ct_InvalidBlock cl_InvalidBlock ccl_InvalidBlock : Value} {sl_InvalidBlock csl_InvalidBlock ccs_InvalidBlock : Array (Option Value)} {vs_InvalidBlock : Array Value} {tf_InvalidBlock : Tok}
    (aE_InvalidBlock : PySem.W.nsIn K mainGlobals "InvalidBlock" = some (some (.ref e_InvalidBlock))) (xE_InvalidBlock : K.lookup e_InvalidBlock = some (excClassObj n1_InvalidBlock n2_InvalidBlock e_InvalidBlock N_InvalidBlock bs_InvalidBlock [.ref e_FitError, .type "ValueError", .type "Exception", .type "BaseException", .type "object"] true sn_InvalidBlock sub_InvalidBlock ab_InvalidBlock col_InvalidBlock dd_InvalidBlock m0_InvalidBlock m1_InvalidBlock m2_InvalidBlock m3_InvalidBlock m5_InvalidBlock "ValueError.__new__"))
    (al_InvalidBlock : PySem.W.alongIn K "__init__" [.ref e_FitError, .type "ValueError", .type "Exception", .type "BaseException", .type "object"] = some (some (.builtin "ValueError.__init__"))) (sa_InvalidBlock : PySem.W.findIn K (.ref e_InvalidBlock) "__setattr__" = some (some (.builtin "object.__setattr__"))) (ga_InvalidBlock : PySem.W.findIn K (.ref e_InvalidBlock) "__getattribute__" = some (some (.builtin "BaseException.__getattribute__"))) (gg_InvalidBlock : PySem.W.findIn K (.ref e_InvalidBlock) "__getattr__" = some none)
    (ca_InvalidBlock : PySem.W.findIn K (.ref e_InvalidBlock) "__class__" = some (some (.builtin "object.__class__"))) (iC_InvalidBlock : PySem.W.findIn K (.ref e_InvalidBlock) "__init__" = some (some (.ref i_InvalidBlock))) (tC_InvalidBlock : PySem.W.typeIn K (.ref i_InvalidBlock) = some (.type "function")) (kC_InvalidBlock : PySem.W.keepIn K (.ref e_InvalidBlock) = true) (xC_InvalidBlock : PySem.W.subIn K (.ref e_InvalidBlock) (.type "BaseException") = some true) (vC_InvalidBlock : PySem.W.subIn K (.ref e_InvalidBlock) (.type "ValueError") = some true) (sC_InvalidBlock : PySem.W.mroIn K e_InvalidBlock (.ref e_InvalidBlock) = some true) (ob_InvalidBlock : PySem.W.mroIn K e_InvalidBlock (.type "object") = some true) (ty_InvalidBlock : PySem.W.typeIn K (.ref e_InvalidBlock) = some (.type "type")) (hd_InvalidBlock : PySem.W.hasDictIn K e_InvalidBlock = true) (su_InvalidBlock : PySem.W.subIn K (.ref e_InvalidBlock) (.ref e_FitError) = some true)
    (lE_InvalidBlock : K.lookup i_InvalidBlock = some ⟨oc_InvalidBlock, od_InvalidBlock, .func (PySem.W.ksFn "__init__" "InvalidBlock.__init__" (defArgs st_e_InvalidBlock) (defBody st_e_InvalidBlock) (defScope st_e_InvalidBlock) .none kV_InvalidBlock dc_InvalidBlock pm_InvalidBlock an_InvalidBlock (.ref cd_InvalidBlock) ct_InvalidBlock cc_InvalidBlock), sl_InvalidBlock⟩) (cE_InvalidBlock : PySem.W.codeIn K (.ref cd_InvalidBlock) "InvalidBlock.__init__" = true) (ce_InvalidBlock : K.lookup cc_InvalidBlock = some ⟨cl_InvalidBlock, cld_InvalidBlock, .cell (some (.ref e_InvalidBlock)), csl_InvalidBlock⟩) (co_InvalidBlock : K.lookup cd_InvalidBlock = some ⟨ccl_InvalidBlock, cdd_InvalidBlock, .fields vs_InvalidBlock, ccs_InvalidBlock⟩) (v2_InvalidBlock : vs_InvalidBlock[2]? = some (.str tx_InvalidBlock tf_InvalidBlock)) (fi_InvalidBlock : ((l.prog.main.file : Str) == tx_InvalidBlock) = true)
    (kv_InvalidBlock : PySem.W.kitOne K (.ref e_InvalidBlock) (.type "ValueError") = some true)
    {e_InvalidText i_InvalidText cc_InvalidText cd_InvalidText N_InvalidText : Addr} {n1_InvalidText n2_InvalidText tx_InvalidText : Str} {bs_InvalidText sub_InvalidText : List Value} {sn_InvalidText : List Str} {ab_InvalidText : Bool} {col_InvalidText : Option Bool} {dd_InvalidText od_InvalidText an_InvalidText cld_InvalidText cdd_InvalidText : Option Addr} {m0_InvalidText m1_InvalidText m2_InvalidText m3_InvalidText m5_InvalidText : Option Value} {oc_InvalidText kV_InvalidText dc_InvalidText pm_InvalidText ct_InvalidText cl_InvalidText ccl_InvalidText : Value} {sl_InvalidText csl_InvalidText ccs_InvalidText : Array (Option Value)} {vs_InvalidText : Array Value} {tf_InvalidText : Tok}
    (aE_InvalidText : PySem.W.nsIn K mainGlobals "InvalidText" = some (some (.ref e_InvalidText))) (xE_InvalidText : K.lookup e_InvalidText = some (excClassObj n1_InvalidText n2_InvalidText e_InvalidText N_InvalidText bs_InvalidText [.ref e_FitError, .type "ValueError", .type "Exception", .type "BaseException", .type "object"] true sn_InvalidText sub_InvalidText ab_InvalidText col_InvalidText dd_InvalidText m0_InvalidText m1_InvalidText m2_InvalidText m3_InvalidText m5_InvalidText "ValueError.__new__"))
    (al_InvalidText : PySem.W.alongIn K "__init__" [.ref e_FitError, .type "ValueError", .type "Exception", .type "BaseException", .type "object"] = some (some (.builtin "ValueError.__init__"))) (sa_InvalidText : PySem.W.findIn K (.ref e_InvalidText) "__setattr__" = some (some (.builtin "object.__setattr__"))) (ga_InvalidText : PySem.W.findIn K (.ref e_InvalidText) "__getattribute__" = some (some (.builtin "BaseException.__getattribute__"))) (gg_InvalidText : PySem.W.findIn K (.ref e_InvalidText) "__getattr__" = some none)
    (ca_InvalidText : PySem.W.findIn K (.ref e_InvalidText) "__class__" = some (some (.builtin "object.__class__"))) (iC_InvalidText : PySem.W.findIn K (.ref e_InvalidText) "__init__" = some (some (.ref i_InvalidText))) (tC_InvalidText : PySem.W.typeIn K (.ref i_InvalidText) = some (.type "function")) (kC_InvalidText : PySem.W.keepIn K (.ref e_InvalidText) = true) (xC_InvalidText : PySem.W.subIn K (.ref e_InvalidText) (.type "BaseException") = some true) (vC_InvalidText : PySem.W.subIn K (.ref e_InvalidText) (.type "ValueError") = some true) (sC_InvalidText : PySem.W.mroIn K e_InvalidText (.ref e_InvalidText) = some true) (ob_InvalidText : PySem.W.mroIn K e_InvalidText (.type "object") = some true) (ty_InvalidText : PySem.W.typeIn K (.ref e_InvalidText) = some (.type "type")) (hd_InvalidText : PySem.W.hasDictIn K e_InvalidText = true) (su_InvalidText : PySem.W.subIn K (.ref e_InvalidText) (.ref e_FitError) = some true)
    (lE_InvalidText : K.lookup i_InvalidText = some ⟨oc_InvalidText, od_InvalidText, .func (PySem.W.ksFn "__init__" "InvalidText.__init__" (defArgs st_e_InvalidText) (defBody st_e_InvalidText) (defScope st_e_InvalidText) .none kV_InvalidText dc_InvalidText pm_InvalidText an_InvalidText (.ref cd_InvalidText) ct_InvalidText cc_InvalidText), sl_InvalidText⟩) (cE_InvalidText : PySem.W.codeIn K (.ref cd_InvalidText) "InvalidText.__init__" = true) (ce_InvalidText : K.lookup cc_InvalidText = some ⟨cl_InvalidText, cld_InvalidText, .cell (some (.ref e_InvalidText)), csl_InvalidText⟩) (co_InvalidText : K.lookup cd_InvalidText = some ⟨ccl_InvalidText, cdd_InvalidText, .fields vs_InvalidText, ccs_InvalidText⟩) (v2_InvalidText : vs_InvalidText[2]? = some (.str tx_InvalidText tf_InvalidText)) (fi_InvalidText : ((l.prog.main.file : Str) == tx_InvalidText) = true)
    (no_InvalidText : PySem.W.findIn K (.ref e_InvalidText) "line" = some none)
    (kv_InvalidText : PySem.W.kitOne K (.ref e_InvalidText) (.type "ValueError") = some true)
    (ki_InvalidTable_FitError : PySem.W.kitOne K (.ref e_InvalidTable) (.ref e_FitError) = some true)
    (ki_UnknownItem_FitError : PySem.W.kitOne K (.ref e_UnknownItem) (.ref e_FitError) = some true)
    (ki_InvalidSet_FitError : PySem.W.kitOne K (.ref e_InvalidSet) (.ref e_FitError) = some true)
    (ki_InvalidFit_FitError : PySem.W.kitOne K (.ref e_InvalidFit) (.ref e_FitError) = some true)
    (ki_InvalidHints_FitError : PySem.W.kitOne K (.ref e_InvalidHints) (.ref e_FitError) = some true)
    (ki_NoFit_FitError : PySem.W.kitOne K (.ref e_NoFit) (.ref e_FitError) = some true)
    (ki_NotFound_FitError : PySem.W.kitOne K (.ref e_NotFound) (.ref e_FitError) = some true)
    (ki_InvalidEdit_FitError : PySem.W.kitOne K (.ref e_InvalidEdit) (.ref e_FitError) = some true)
    (ki_InvalidBlock_FitError : PySem.W.kitOne K (.ref e_InvalidBlock) (.ref e_FitError) = some true)
    (ki_InvalidText_FitError : PySem.W.kitOne K (.ref e_InvalidText) (.ref e_FitError) = some true)
    (kn_FitError : PySem.W.kitOne K (.type "NoneType") (.ref e_FitError) = some false)
    (ki_InvalidTable_InvalidBlock : PySem.W.kitOne K (.ref e_InvalidTable) (.ref e_InvalidBlock) = some false)
    (ki_UnknownItem_InvalidBlock : PySem.W.kitOne K (.ref e_UnknownItem) (.ref e_InvalidBlock) = some false)
    (ki_InvalidSet_InvalidBlock : PySem.W.kitOne K (.ref e_InvalidSet) (.ref e_InvalidBlock) = some false)
    (ki_InvalidFit_InvalidBlock : PySem.W.kitOne K (.ref e_InvalidFit) (.ref e_InvalidBlock) = some false)
    (ki_InvalidHints_InvalidBlock : PySem.W.kitOne K (.ref e_InvalidHints) (.ref e_InvalidBlock) = some false)
    (ki_NoFit_InvalidBlock : PySem.W.kitOne K (.ref e_NoFit) (.ref e_InvalidBlock) = some false)
    (ki_NotFound_InvalidBlock : PySem.W.kitOne K (.ref e_NotFound) (.ref e_InvalidBlock) = some false)
    (ki_InvalidEdit_InvalidBlock : PySem.W.kitOne K (.ref e_InvalidEdit) (.ref e_InvalidBlock) = some false)
    (ki_InvalidBlock_InvalidBlock : PySem.W.kitOne K (.ref e_InvalidBlock) (.ref e_InvalidBlock) = some true)
    (ki_InvalidText_InvalidBlock : PySem.W.kitOne K (.ref e_InvalidText) (.ref e_InvalidBlock) = some false)
    (kn_InvalidBlock : PySem.W.kitOne K (.type "NoneType") (.ref e_InvalidBlock) = some false)
    (ki_InvalidTable_InvalidEdit : PySem.W.kitOne K (.ref e_InvalidTable) (.ref e_InvalidEdit) = some false)
    (ki_UnknownItem_InvalidEdit : PySem.W.kitOne K (.ref e_UnknownItem) (.ref e_InvalidEdit) = some false)
    (ki_InvalidSet_InvalidEdit : PySem.W.kitOne K (.ref e_InvalidSet) (.ref e_InvalidEdit) = some false)
    (ki_InvalidFit_InvalidEdit : PySem.W.kitOne K (.ref e_InvalidFit) (.ref e_InvalidEdit) = some false)
    (ki_InvalidHints_InvalidEdit : PySem.W.kitOne K (.ref e_InvalidHints) (.ref e_InvalidEdit) = some false)
    (ki_NoFit_InvalidEdit : PySem.W.kitOne K (.ref e_NoFit) (.ref e_InvalidEdit) = some false)
    (ki_NotFound_InvalidEdit : PySem.W.kitOne K (.ref e_NotFound) (.ref e_InvalidEdit) = some false)
    (ki_InvalidEdit_InvalidEdit : PySem.W.kitOne K (.ref e_InvalidEdit) (.ref e_InvalidEdit) = some true)
    (ki_InvalidBlock_InvalidEdit : PySem.W.kitOne K (.ref e_InvalidBlock) (.ref e_InvalidEdit) = some false)
    (ki_InvalidText_InvalidEdit : PySem.W.kitOne K (.ref e_InvalidText) (.ref e_InvalidEdit) = some false)
    (kn_InvalidEdit : PySem.W.kitOne K (.type "NoneType") (.ref e_InvalidEdit) = some false)
    (ki_InvalidTable_InvalidFit : PySem.W.kitOne K (.ref e_InvalidTable) (.ref e_InvalidFit) = some false)
    (ki_UnknownItem_InvalidFit : PySem.W.kitOne K (.ref e_UnknownItem) (.ref e_InvalidFit) = some false)
    (ki_InvalidSet_InvalidFit : PySem.W.kitOne K (.ref e_InvalidSet) (.ref e_InvalidFit) = some false)
    (ki_InvalidFit_InvalidFit : PySem.W.kitOne K (.ref e_InvalidFit) (.ref e_InvalidFit) = some true)
    (ki_InvalidHints_InvalidFit : PySem.W.kitOne K (.ref e_InvalidHints) (.ref e_InvalidFit) = some false)
    (ki_NoFit_InvalidFit : PySem.W.kitOne K (.ref e_NoFit) (.ref e_InvalidFit) = some false)
    (ki_NotFound_InvalidFit : PySem.W.kitOne K (.ref e_NotFound) (.ref e_InvalidFit) = some false)
    (ki_InvalidEdit_InvalidFit : PySem.W.kitOne K (.ref e_InvalidEdit) (.ref e_InvalidFit) = some false)
    (ki_InvalidBlock_InvalidFit : PySem.W.kitOne K (.ref e_InvalidBlock) (.ref e_InvalidFit) = some false)
    (ki_InvalidText_InvalidFit : PySem.W.kitOne K (.ref e_InvalidText) (.ref e_InvalidFit) = some false)
    (kn_InvalidFit : PySem.W.kitOne K (.type "NoneType") (.ref e_InvalidFit) = some false)
    (ki_InvalidTable_InvalidHints : PySem.W.kitOne K (.ref e_InvalidTable) (.ref e_InvalidHints) = some false)
    (ki_UnknownItem_InvalidHints : PySem.W.kitOne K (.ref e_UnknownItem) (.ref e_InvalidHints) = some false)
    (ki_InvalidSet_InvalidHints : PySem.W.kitOne K (.ref e_InvalidSet) (.ref e_InvalidHints) = some false)
    (ki_InvalidFit_InvalidHints : PySem.W.kitOne K (.ref e_InvalidFit) (.ref e_InvalidHints) = some false)
    (ki_InvalidHints_InvalidHints : PySem.W.kitOne K (.ref e_InvalidHints) (.ref e_InvalidHints) = some true)
    (ki_NoFit_InvalidHints : PySem.W.kitOne K (.ref e_NoFit) (.ref e_InvalidHints) = some false)
    (ki_NotFound_InvalidHints : PySem.W.kitOne K (.ref e_NotFound) (.ref e_InvalidHints) = some false)
    (ki_InvalidEdit_InvalidHints : PySem.W.kitOne K (.ref e_InvalidEdit) (.ref e_InvalidHints) = some false)
    (ki_InvalidBlock_InvalidHints : PySem.W.kitOne K (.ref e_InvalidBlock) (.ref e_InvalidHints) = some false)
    (ki_InvalidText_InvalidHints : PySem.W.kitOne K (.ref e_InvalidText) (.ref e_InvalidHints) = some false)
    (kn_InvalidHints : PySem.W.kitOne K (.type "NoneType") (.ref e_InvalidHints) = some false)
    (ki_InvalidTable_InvalidSet : PySem.W.kitOne K (.ref e_InvalidTable) (.ref e_InvalidSet) = some false)
    (ki_UnknownItem_InvalidSet : PySem.W.kitOne K (.ref e_UnknownItem) (.ref e_InvalidSet) = some false)
    (ki_InvalidSet_InvalidSet : PySem.W.kitOne K (.ref e_InvalidSet) (.ref e_InvalidSet) = some true)
    (ki_InvalidFit_InvalidSet : PySem.W.kitOne K (.ref e_InvalidFit) (.ref e_InvalidSet) = some false)
    (ki_InvalidHints_InvalidSet : PySem.W.kitOne K (.ref e_InvalidHints) (.ref e_InvalidSet) = some false)
    (ki_NoFit_InvalidSet : PySem.W.kitOne K (.ref e_NoFit) (.ref e_InvalidSet) = some false)
    (ki_NotFound_InvalidSet : PySem.W.kitOne K (.ref e_NotFound) (.ref e_InvalidSet) = some false)
    (ki_InvalidEdit_InvalidSet : PySem.W.kitOne K (.ref e_InvalidEdit) (.ref e_InvalidSet) = some false)
    (ki_InvalidBlock_InvalidSet : PySem.W.kitOne K (.ref e_InvalidBlock) (.ref e_InvalidSet) = some false)
    (ki_InvalidText_InvalidSet : PySem.W.kitOne K (.ref e_InvalidText) (.ref e_InvalidSet) = some false)
    (kn_InvalidSet : PySem.W.kitOne K (.type "NoneType") (.ref e_InvalidSet) = some false)
    (ki_InvalidTable_InvalidTable : PySem.W.kitOne K (.ref e_InvalidTable) (.ref e_InvalidTable) = some true)
    (ki_UnknownItem_InvalidTable : PySem.W.kitOne K (.ref e_UnknownItem) (.ref e_InvalidTable) = some false)
    (ki_InvalidSet_InvalidTable : PySem.W.kitOne K (.ref e_InvalidSet) (.ref e_InvalidTable) = some false)
    (ki_InvalidFit_InvalidTable : PySem.W.kitOne K (.ref e_InvalidFit) (.ref e_InvalidTable) = some false)
    (ki_InvalidHints_InvalidTable : PySem.W.kitOne K (.ref e_InvalidHints) (.ref e_InvalidTable) = some false)
    (ki_NoFit_InvalidTable : PySem.W.kitOne K (.ref e_NoFit) (.ref e_InvalidTable) = some false)
    (ki_NotFound_InvalidTable : PySem.W.kitOne K (.ref e_NotFound) (.ref e_InvalidTable) = some false)
    (ki_InvalidEdit_InvalidTable : PySem.W.kitOne K (.ref e_InvalidEdit) (.ref e_InvalidTable) = some false)
    (ki_InvalidBlock_InvalidTable : PySem.W.kitOne K (.ref e_InvalidBlock) (.ref e_InvalidTable) = some false)
    (ki_InvalidText_InvalidTable : PySem.W.kitOne K (.ref e_InvalidText) (.ref e_InvalidTable) = some false)
    (kn_InvalidTable : PySem.W.kitOne K (.type "NoneType") (.ref e_InvalidTable) = some false)
    (ki_InvalidTable_InvalidText : PySem.W.kitOne K (.ref e_InvalidTable) (.ref e_InvalidText) = some false)
    (ki_UnknownItem_InvalidText : PySem.W.kitOne K (.ref e_UnknownItem) (.ref e_InvalidText) = some false)
    (ki_InvalidSet_InvalidText : PySem.W.kitOne K (.ref e_InvalidSet) (.ref e_InvalidText) = some false)
    (ki_InvalidFit_InvalidText : PySem.W.kitOne K (.ref e_InvalidFit) (.ref e_InvalidText) = some false)
    (ki_InvalidHints_InvalidText : PySem.W.kitOne K (.ref e_InvalidHints) (.ref e_InvalidText) = some false)
    (ki_NoFit_InvalidText : PySem.W.kitOne K (.ref e_NoFit) (.ref e_InvalidText) = some false)
    (ki_NotFound_InvalidText : PySem.W.kitOne K (.ref e_NotFound) (.ref e_InvalidText) = some false)
    (ki_InvalidEdit_InvalidText : PySem.W.kitOne K (.ref e_InvalidEdit) (.ref e_InvalidText) = some false)
    (ki_InvalidBlock_InvalidText : PySem.W.kitOne K (.ref e_InvalidBlock) (.ref e_InvalidText) = some false)
    (ki_InvalidText_InvalidText : PySem.W.kitOne K (.ref e_InvalidText) (.ref e_InvalidText) = some true)
    (kn_InvalidText : PySem.W.kitOne K (.type "NoneType") (.ref e_InvalidText) = some false)
    (ki_InvalidTable_NoFit : PySem.W.kitOne K (.ref e_InvalidTable) (.ref e_NoFit) = some false)
    (ki_UnknownItem_NoFit : PySem.W.kitOne K (.ref e_UnknownItem) (.ref e_NoFit) = some false)
    (ki_InvalidSet_NoFit : PySem.W.kitOne K (.ref e_InvalidSet) (.ref e_NoFit) = some false)
    (ki_InvalidFit_NoFit : PySem.W.kitOne K (.ref e_InvalidFit) (.ref e_NoFit) = some false)
    (ki_InvalidHints_NoFit : PySem.W.kitOne K (.ref e_InvalidHints) (.ref e_NoFit) = some false)
    (ki_NoFit_NoFit : PySem.W.kitOne K (.ref e_NoFit) (.ref e_NoFit) = some true)
    (ki_NotFound_NoFit : PySem.W.kitOne K (.ref e_NotFound) (.ref e_NoFit) = some false)
    (ki_InvalidEdit_NoFit : PySem.W.kitOne K (.ref e_InvalidEdit) (.ref e_NoFit) = some false)
    (ki_InvalidBlock_NoFit : PySem.W.kitOne K (.ref e_InvalidBlock) (.ref e_NoFit) = some false)
    (ki_InvalidText_NoFit : PySem.W.kitOne K (.ref e_InvalidText) (.ref e_NoFit) = some false)
    (kn_NoFit : PySem.W.kitOne K (.type "NoneType") (.ref e_NoFit) = some false)
    (ki_InvalidTable_NotFound : PySem.W.kitOne K (.ref e_InvalidTable) (.ref e_NotFound) = some false)
    (ki_UnknownItem_NotFound : PySem.W.kitOne K (.ref e_UnknownItem) (.ref e_NotFound) = some false)
    (ki_InvalidSet_NotFound : PySem.W.kitOne K (.ref e_InvalidSet) (.ref e_NotFound) = some false)
    (ki_InvalidFit_NotFound : PySem.W.kitOne K (.ref e_InvalidFit) (.ref e_NotFound) = some false)
    (ki_InvalidHints_NotFound : PySem.W.kitOne K (.ref e_InvalidHints) (.ref e_NotFound) = some false)
    (ki_NoFit_NotFound : PySem.W.kitOne K (.ref e_NoFit) (.ref e_NotFound) = some false)
    (ki_NotFound_NotFound : PySem.W.kitOne K (.ref e_NotFound) (.ref e_NotFound) = some true)
    (ki_InvalidEdit_NotFound : PySem.W.kitOne K (.ref e_InvalidEdit) (.ref e_NotFound) = some false)
    (ki_InvalidBlock_NotFound : PySem.W.kitOne K (.ref e_InvalidBlock) (.ref e_NotFound) = some false)
    (ki_InvalidText_NotFound : PySem.W.kitOne K (.ref e_InvalidText) (.ref e_NotFound) = some false)
    (kn_NotFound : PySem.W.kitOne K (.type "NoneType") (.ref e_NotFound) = some false)
    (ki_InvalidTable_UnknownItem : PySem.W.kitOne K (.ref e_InvalidTable) (.ref e_UnknownItem) = some false)
    (ki_UnknownItem_UnknownItem : PySem.W.kitOne K (.ref e_UnknownItem) (.ref e_UnknownItem) = some true)
    (ki_InvalidSet_UnknownItem : PySem.W.kitOne K (.ref e_InvalidSet) (.ref e_UnknownItem) = some false)
    (ki_InvalidFit_UnknownItem : PySem.W.kitOne K (.ref e_InvalidFit) (.ref e_UnknownItem) = some false)
    (ki_InvalidHints_UnknownItem : PySem.W.kitOne K (.ref e_InvalidHints) (.ref e_UnknownItem) = some false)
    (ki_NoFit_UnknownItem : PySem.W.kitOne K (.ref e_NoFit) (.ref e_UnknownItem) = some false)
    (ki_NotFound_UnknownItem : PySem.W.kitOne K (.ref e_NotFound) (.ref e_UnknownItem) = some false)
    (ki_InvalidEdit_UnknownItem : PySem.W.kitOne K (.ref e_InvalidEdit) (.ref e_UnknownItem) = some false)
    (ki_InvalidBlock_UnknownItem : PySem.W.kitOne K (.ref e_InvalidBlock) (.ref e_UnknownItem) = some false)
    (ki_InvalidText_UnknownItem : PySem.W.kitOne K (.ref e_InvalidText) (.ref e_UnknownItem) = some false)
    (kn_UnknownItem : PySem.W.kitOne K (.type "NoneType") (.ref e_UnknownItem) = some false)
    (a0 : PySem.W.nsIn K mainGlobals "_law_begin" = some (some (.ref f0))) (l0 : K.lookup f0 = some ⟨oc0, od0, .func (PySem.W.fnOf "_law_begin" "_law_begin" (defArgs st_w_begin) (defBody st_w_begin) (defScope st_w_begin) .none kV0 dc0 pm0 an0 cd0 ct0), sl0⟩) (c0 : PySem.W.codeIn K cd0 "_law_begin" = true) (k0 : PySem.W.keepIn K (.ref f0) = true)
    (a1 : PySem.W.nsIn K mainGlobals "_law_take" = some (some (.ref f1))) (l1 : K.lookup f1 = some ⟨oc1, od1, .func (PySem.W.fnOf "_law_take" "_law_take" (defArgs st_w_take) (defBody st_w_take) (defScope st_w_take) .none kV1 dc1 pm1 an1 cd1 ct1), sl1⟩) (c1 : PySem.W.codeIn K cd1 "_law_take" = true) (k1 : PySem.W.keepIn K (.ref f1) = true)
    (a2 : PySem.W.nsIn K mainGlobals "_law_pick" = some (some (.ref f2))) (l2 : K.lookup f2 = some ⟨oc2, od2, .func (PySem.W.fnOf "_law_pick" "_law_pick" (defArgs st_w_pick) (defBody st_w_pick) (defScope st_w_pick) .none kV2 dc2 pm2 an2 cd2 ct2), sl2⟩) (c2 : PySem.W.codeIn K cd2 "_law_pick" = true) (k2 : PySem.W.keepIn K (.ref f2) = true)
    (a3 : PySem.W.nsIn K mainGlobals "_law_marks" = some (some (.ref f3))) (l3 : K.lookup f3 = some ⟨oc3, od3, .func (PySem.W.fnOf "_law_marks" "_law_marks" (defArgs st_w_marks) (defBody st_w_marks) (defScope st_w_marks) .none kV3 dc3 pm3 an3 cd3 ct3), sl3⟩) (c3 : PySem.W.codeIn K cd3 "_law_marks" = true) (k3 : PySem.W.keepIn K (.ref f3) = true)
    (a4 : PySem.W.nsIn K mainGlobals "law" = some (some (.ref f4))) (l4 : K.lookup f4 = some ⟨oc4, od4, .func (PySem.W.fnOf "law" "law" (defArgs st_law) (defBody st_law) (defScope st_law) .none kV4 dc4 pm4 an4 cd4 ct4), sl4⟩) (c4 : PySem.W.codeIn K cd4 "law" = true) (k4 : PySem.W.keepIn K (.ref f4) = true)
    (z_ValueError : PySem.W.nsIn K mainGlobals "ValueError" = some none)
    (z_abs : PySem.W.nsIn K mainGlobals "abs" = some none)
    (z_enumerate : PySem.W.nsIn K mainGlobals "enumerate" = some none)
    (z_int : PySem.W.nsIn K mainGlobals "int" = some none)
    (z_isinstance : PySem.W.nsIn K mainGlobals "isinstance" = some none)
    (z_len : PySem.W.nsIn K mainGlobals "len" = some none)
    (z_min : PySem.W.nsIn K mainGlobals "min" = some none)
    (z_range : PySem.W.nsIn K mainGlobals "range" = some none)
    (z_repr : PySem.W.nsIn K mainGlobals "repr" = some none)
    : ∃ fd : FuncData, (∀ (s : Shared) (u : Value), BindsTo s fd ⟨[u], []⟩ [("_law_script", u)]) ∧ ∀ b : Heap, K.In b → b.Ns mainGlobals mg → FnG l.prog w K mg b CX0 4 fa fd ["_law_script"] (spLaw K [] 12 r_law) := by
  have e := hfa.symm.trans (PySem.W.mg_of X G a4)
  cases e
  have F0 := fun_mk (st := st_w_begin) l0 c0 k0
  have b0 := F0.binds (ps := ["_law_script"]) fun _ _ _ _ _ _ us hl => match us, hl with | [_], _ => rfl
  have F1 := fun_mk (st := st_w_take) l1 c1 k1
  have b1 := F1.binds (ps := ["_law_draw", "_law_bound"]) fun _ _ _ _ _ _ us hl => match us, hl with | [_, _], _ => rfl
  have F2 := fun_mk (st := st_w_pick) l2 c2 k2
  have b2 := F2.binds (ps := ["_law_draw", "_law_some"]) fun _ _ _ _ _ _ us hl => match us, hl with | [_, _], _ => rfl
  have F3 := fun_mk (st := st_w_marks) l3 c3 k3
  have b3 := F3.binds (ps := ["_law_error"]) fun _ _ _ _ _ _ us hl => match us, hl with | [_], _ => rfl
  have F4 := fun_mk (st := st_law) l4 c4 k4
  have b4 := F4.binds (ps := ["_law_script"]) fun _ _ _ _ _ _ us hl => match us, hl with | [_], _ => rfl
  refine ⟨PySem.W.fnOf "law" "law" (defArgs st_law) (defBody st_law) (defScope st_law) .none kV4 dc4 pm4 an4 cd4 ct4, fun s v => .of_eq rfl, fun base _ _ => d_law (A := ⟨f0, f1, f2, f3, fa, PySem.W.fnOf "_law_begin" "_law_begin" (defArgs st_w_begin) (defBody st_w_begin) (defScope st_w_begin) .none kV0 dc0 pm0 an0 cd0 ct0, PySem.W.fnOf "_law_take" "_law_take" (defArgs st_w_take) (defBody st_w_take) (defScope st_w_take) .none kV1 dc1 pm1 an1 cd1 ct1, PySem.W.fnOf "_law_pick" "_law_pick" (defArgs st_w_pick) (defBody st_w_pick) (defScope st_w_pick) .none kV2 dc2 pm2 an2 cd2 ct2, PySem.W.fnOf "_law_marks" "_law_marks" (defArgs st_w_marks) (defBody st_w_marks) (defScope st_w_marks) .none kV3 dc3 pm3 an3 cd3 ct3, PySem.W.fnOf "law" "law" (defArgs st_law) (defBody st_law) (defScope st_law) .none kV4 dc4 pm4 an4 cd4 ct4, e_InvalidTable, i_InvalidTable, cc_InvalidTable, cd_InvalidTable, e_UnknownItem, i_UnknownItem, cc_UnknownItem, cd_UnknownItem, e_InvalidSet, i_InvalidSet, cc_InvalidSet, cd_InvalidSet, e_InvalidFit, i_InvalidFit, cc_InvalidFit, cd_InvalidFit, e_InvalidHints, i_InvalidHints, cc_InvalidHints, cd_InvalidHints, e_NoFit, i_NoFit, cc_NoFit, cd_NoFit, e_NotFound, i_NotFound, cc_NotFound, cd_NotFound, e_InvalidEdit, i_InvalidEdit, cc_InvalidEdit, cd_InvalidEdit, e_InvalidBlock, i_InvalidBlock, cc_InvalidBlock, cd_InvalidBlock, e_InvalidText, i_InvalidText, cc_InvalidText, cd_InvalidText, e_FitError⟩) ?_⟩
  exact ⟨⟨⟨_, _, _, _, _, _, _, _, _, _, _, _, _, _, _, xE_InvalidTable, rfl, al_InvalidTable⟩, sa_InvalidTable, iC_InvalidTable, tC_InvalidTable, kC_InvalidTable, xC_InvalidTable, vC_InvalidTable, sC_InvalidTable, ty_InvalidTable, opq, ⟨_, _, _, ce_InvalidTable⟩, ⟨_, _, _, _, _, _, co_InvalidTable, v2_InvalidTable, fi_InvalidTable⟩, topS, PySem.W.mg_none_of X G zS⟩, ⟨⟨_, _, _, _, _, _, _, _, lE_InvalidTable⟩, cE_InvalidTable, rfl, rfl, rfl, rfl, rfl, rfl, by decide +kernel, ⟨_, rfl, rfl⟩⟩, PySem.W.mg_of X G aE_InvalidTable, ⟨ga_InvalidTable, gg_InvalidTable, xC_InvalidTable, hd_InvalidTable, ca_InvalidTable, xhn, xht, ob_InvalidTable⟩, PySem.W.exm_ref exF hdF tyF su_InvalidTable, no_InvalidTable, kv_InvalidTable, ki_InvalidTable_FitError, ki_InvalidTable_InvalidBlock, ki_InvalidTable_InvalidEdit, ki_InvalidTable_InvalidFit, ki_InvalidTable_InvalidHints, ki_InvalidTable_InvalidSet, ki_InvalidTable_InvalidTable, ki_InvalidTable_InvalidText, ki_InvalidTable_NoFit, ki_InvalidTable_NotFound, ki_InvalidTable_UnknownItem, ⟨⟨_, _, _, _, _, _, _, _, _, _, _, _, _, _, _, xE_UnknownItem, rfl, al_UnknownItem⟩, sa_UnknownItem, iC_UnknownItem, tC_UnknownItem, kC_UnknownItem, xC_UnknownItem, vC_UnknownItem, sC_UnknownItem, ty_UnknownItem, opq, ⟨_, _, _, ce_UnknownItem⟩, ⟨_, _, _, _, _, _, co_UnknownItem, v2_UnknownItem, fi_UnknownItem⟩, topS, PySem.W.mg_none_of X G zS⟩, ⟨⟨_, _, _, _, _, _, _, _, lE_UnknownItem⟩, cE_UnknownItem, rfl, rfl, rfl, rfl, rfl, rfl, by decide +kernel, ⟨_, rfl, rfl⟩⟩, PySem.W.mg_of X G aE_UnknownItem, ⟨ga_UnknownItem, gg_UnknownItem, xC_UnknownItem, hd_UnknownItem, ca_UnknownItem, xhn, xht, ob_UnknownItem⟩, PySem.W.exm_ref exF hdF tyF su_UnknownItem, no_UnknownItem, kv_UnknownItem, ki_UnknownItem_FitError, ki_UnknownItem_InvalidBlock, ki_UnknownItem_InvalidEdit, ki_UnknownItem_InvalidFit, ki_UnknownItem_InvalidHints, ki_UnknownItem_InvalidSet, ki_UnknownItem_InvalidTable, ki_UnknownItem_InvalidText, ki_UnknownItem_NoFit, ki_UnknownItem_NotFound, ki_UnknownItem_UnknownItem, ⟨⟨_, _, _, _, _, _, _, _, _, _, _, _, _, _, _, xE_InvalidSet, rfl, al_InvalidSet⟩, sa_InvalidSet, iC_InvalidSet, tC_InvalidSet, kC_InvalidSet, xC_InvalidSet, vC_InvalidSet, sC_InvalidSet, ty_InvalidSet, opq, ⟨_, _, _, ce_InvalidSet⟩, ⟨_, _, _, _, _, _, co_InvalidSet, v2_InvalidSet, fi_InvalidSet⟩, topS, PySem.W.mg_none_of X G zS⟩, ⟨⟨_, _, _, _, _, _, _, _, lE_InvalidSet⟩, cE_InvalidSet, rfl, rfl, rfl, rfl, rfl, rfl, by decide +kernel, ⟨_, rfl, rfl⟩⟩, PySem.W.mg_of X G aE_InvalidSet, ⟨ga_InvalidSet, gg_InvalidSet, xC_InvalidSet, hd_InvalidSet, ca_InvalidSet, xhn, xht, ob_InvalidSet⟩, PySem.W.exm_ref exF hdF tyF su_InvalidSet, kv_InvalidSet, ki_InvalidSet_FitError, ki_InvalidSet_InvalidBlock, ki_InvalidSet_InvalidEdit, ki_InvalidSet_InvalidFit, ki_InvalidSet_InvalidHints, ki_InvalidSet_InvalidSet, ki_InvalidSet_InvalidTable, ki_InvalidSet_InvalidText, ki_InvalidSet_NoFit, ki_InvalidSet_NotFound, ki_InvalidSet_UnknownItem, ⟨⟨_, _, _, _, _, _, _, _, _, _, _, _, _, _, _, xE_InvalidFit, rfl, al_InvalidFit⟩, sa_InvalidFit, iC_InvalidFit, tC_InvalidFit, kC_InvalidFit, xC_InvalidFit, vC_InvalidFit, sC_InvalidFit, ty_InvalidFit, opq, ⟨_, _, _, ce_InvalidFit⟩, ⟨_, _, _, _, _, _, co_InvalidFit, v2_InvalidFit, fi_InvalidFit⟩, topS, PySem.W.mg_none_of X G zS⟩, ⟨⟨_, _, _, _, _, _, _, _, lE_InvalidFit⟩, cE_InvalidFit, rfl, rfl, rfl, rfl, rfl, rfl, by decide +kernel, ⟨_, rfl, rfl⟩⟩, PySem.W.mg_of X G aE_InvalidFit, ⟨ga_InvalidFit, gg_InvalidFit, xC_InvalidFit, hd_InvalidFit, ca_InvalidFit, xhn, xht, ob_InvalidFit⟩, PySem.W.exm_ref exF hdF tyF su_InvalidFit, kv_InvalidFit, ki_InvalidFit_FitError, ki_InvalidFit_InvalidBlock, ki_InvalidFit_InvalidEdit, ki_InvalidFit_InvalidFit, ki_InvalidFit_InvalidHints, ki_InvalidFit_InvalidSet, ki_InvalidFit_InvalidTable, ki_InvalidFit_InvalidText, ki_InvalidFit_NoFit, ki_InvalidFit_NotFound, ki_InvalidFit_UnknownItem, ⟨⟨_, _, _, _, _, _, _, _, _, _, _, _, _, _, _, xE_InvalidHints, rfl, al_InvalidHints⟩, sa_InvalidHints, iC_InvalidHints, tC_InvalidHints, kC_InvalidHints, xC_InvalidHints, vC_InvalidHints, sC_InvalidHints, ty_InvalidHints, opq, ⟨_, _, _, ce_InvalidHints⟩, ⟨_, _, _, _, _, _, co_InvalidHints, v2_InvalidHints, fi_InvalidHints⟩, topS, PySem.W.mg_none_of X G zS⟩, ⟨⟨_, _, _, _, _, _, _, _, lE_InvalidHints⟩, cE_InvalidHints, rfl, rfl, rfl, rfl, rfl, rfl, by decide +kernel, ⟨_, rfl, rfl⟩⟩, PySem.W.mg_of X G aE_InvalidHints, ⟨ga_InvalidHints, gg_InvalidHints, xC_InvalidHints, hd_InvalidHints, ca_InvalidHints, xhn, xht, ob_InvalidHints⟩, PySem.W.exm_ref exF hdF tyF su_InvalidHints, no_InvalidHints, kv_InvalidHints, ki_InvalidHints_FitError, ki_InvalidHints_InvalidBlock, ki_InvalidHints_InvalidEdit, ki_InvalidHints_InvalidFit, ki_InvalidHints_InvalidHints, ki_InvalidHints_InvalidSet, ki_InvalidHints_InvalidTable, ki_InvalidHints_InvalidText, ki_InvalidHints_NoFit, ki_InvalidHints_NotFound, ki_InvalidHints_UnknownItem, ⟨⟨_, _, _, _, _, _, _, _, _, _, _, _, _, _, _, xE_NoFit, rfl, al_NoFit⟩, sa_NoFit, iC_NoFit, tC_NoFit, kC_NoFit, xC_NoFit, vC_NoFit, sC_NoFit, ty_NoFit, opq, ⟨_, _, _, ce_NoFit⟩, ⟨_, _, _, _, _, _, co_NoFit, v2_NoFit, fi_NoFit⟩, topS, PySem.W.mg_none_of X G zS⟩, ⟨⟨_, _, _, _, _, _, _, _, lE_NoFit⟩, cE_NoFit, rfl, rfl, rfl, rfl, rfl, rfl, by decide +kernel, ⟨_, rfl, rfl⟩⟩, PySem.W.mg_of X G aE_NoFit, ⟨ga_NoFit, gg_NoFit, xC_NoFit, hd_NoFit, ca_NoFit, xhn, xht, ob_NoFit⟩, PySem.W.exm_ref exF hdF tyF su_NoFit, kv_NoFit, ki_NoFit_FitError, ki_NoFit_InvalidBlock, ki_NoFit_InvalidEdit, ki_NoFit_InvalidFit, ki_NoFit_InvalidHints, ki_NoFit_InvalidSet, ki_NoFit_InvalidTable, ki_NoFit_InvalidText, ki_NoFit_NoFit, ki_NoFit_NotFound, ki_NoFit_UnknownItem, ⟨⟨_, _, _, _, _, _, _, _, _, _, _, _, _, _, _, xE_NotFound, rfl, al_NotFound⟩, sa_NotFound, iC_NotFound, tC_NotFound, kC_NotFound, xC_NotFound, vC_NotFound, sC_NotFound, ty_NotFound, opq, ⟨_, _, _, ce_NotFound⟩, ⟨_, _, _, _, _, _, co_NotFound, v2_NotFound, fi_NotFound⟩, topS, PySem.W.mg_none_of X G zS⟩, ⟨⟨_, _, _, _, _, _, _, _, lE_NotFound⟩, cE_NotFound, rfl, rfl, rfl, rfl, rfl, rfl, by decide +kernel, ⟨_, rfl, rfl⟩⟩, PySem.W.mg_of X G aE_NotFound, ⟨ga_NotFound, gg_NotFound, xC_NotFound, hd_NotFound, ca_NotFound, xhn, xht, ob_NotFound⟩, PySem.W.exm_ref exF hdF tyF su_NotFound, kv_NotFound, ki_NotFound_FitError, ki_NotFound_InvalidBlock, ki_NotFound_InvalidEdit, ki_NotFound_InvalidFit, ki_NotFound_InvalidHints, ki_NotFound_InvalidSet, ki_NotFound_InvalidTable, ki_NotFound_InvalidText, ki_NotFound_NoFit, ki_NotFound_NotFound, ki_NotFound_UnknownItem, ⟨⟨_, _, _, _, _, _, _, _, _, _, _, _, _, _, _, xE_InvalidEdit, rfl, al_InvalidEdit⟩, sa_InvalidEdit, iC_InvalidEdit, tC_InvalidEdit, kC_InvalidEdit, xC_InvalidEdit, vC_InvalidEdit, sC_InvalidEdit, ty_InvalidEdit, opq, ⟨_, _, _, ce_InvalidEdit⟩, ⟨_, _, _, _, _, _, co_InvalidEdit, v2_InvalidEdit, fi_InvalidEdit⟩, topS, PySem.W.mg_none_of X G zS⟩, ⟨⟨_, _, _, _, _, _, _, _, lE_InvalidEdit⟩, cE_InvalidEdit, rfl, rfl, rfl, rfl, rfl, rfl, by decide +kernel, ⟨_, rfl, rfl⟩⟩, PySem.W.mg_of X G aE_InvalidEdit, ⟨ga_InvalidEdit, gg_InvalidEdit, xC_InvalidEdit, hd_InvalidEdit, ca_InvalidEdit, xhn, xht, ob_InvalidEdit⟩, PySem.W.exm_ref exF hdF tyF su_InvalidEdit, kv_InvalidEdit, ki_InvalidEdit_FitError, ki_InvalidEdit_InvalidBlock, ki_InvalidEdit_InvalidEdit, ki_InvalidEdit_InvalidFit, ki_InvalidEdit_InvalidHints, ki_InvalidEdit_InvalidSet, ki_InvalidEdit_InvalidTable, ki_InvalidEdit_InvalidText, ki_InvalidEdit_NoFit, ki_InvalidEdit_NotFound, ki_InvalidEdit_UnknownItem, ⟨⟨_, _, _, _, _, _, _, _, _, _, _, _, _, _, _, xE_InvalidBlock, rfl, al_InvalidBlock⟩, sa_InvalidBlock, iC_InvalidBlock, tC_InvalidBlock, kC_InvalidBlock, xC_InvalidBlock, vC_InvalidBlock, sC_InvalidBlock, ty_InvalidBlock, opq, ⟨_, _, _, ce_InvalidBlock⟩, ⟨_, _, _, _, _, _, co_InvalidBlock, v2_InvalidBlock, fi_InvalidBlock⟩, topS, PySem.W.mg_none_of X G zS⟩, ⟨⟨_, _, _, _, _, _, _, _, lE_InvalidBlock⟩, cE_InvalidBlock, rfl, rfl, rfl, rfl, rfl, rfl, by decide +kernel, ⟨_, rfl, rfl⟩⟩, PySem.W.mg_of X G aE_InvalidBlock, ⟨ga_InvalidBlock, gg_InvalidBlock, xC_InvalidBlock, hd_InvalidBlock, ca_InvalidBlock, xhn, xht, ob_InvalidBlock⟩, PySem.W.exm_ref exF hdF tyF su_InvalidBlock, kv_InvalidBlock, ki_InvalidBlock_FitError, ki_InvalidBlock_InvalidBlock, ki_InvalidBlock_InvalidEdit, ki_InvalidBlock_InvalidFit, ki_InvalidBlock_InvalidHints, ki_InvalidBlock_InvalidSet, ki_InvalidBlock_InvalidTable, ki_InvalidBlock_InvalidText, ki_InvalidBlock_NoFit, ki_InvalidBlock_NotFound, ki_InvalidBlock_UnknownItem, ⟨⟨_, _, _, _, _, _, _, _, _, _, _, _, _, _, _, xE_InvalidText, rfl, al_InvalidText⟩, sa_InvalidText, iC_InvalidText, tC_InvalidText, kC_InvalidText, xC_InvalidText, vC_InvalidText, sC_InvalidText, ty_InvalidText, opq, ⟨_, _, _, ce_InvalidText⟩, ⟨_, _, _, _, _, _, co_InvalidText, v2_InvalidText, fi_InvalidText⟩, topS, PySem.W.mg_none_of X G zS⟩, ⟨⟨_, _, _, _, _, _, _, _, lE_InvalidText⟩, cE_InvalidText, rfl, rfl, rfl, rfl, rfl, rfl, by decide +kernel, ⟨_, rfl, rfl⟩⟩, PySem.W.mg_of X G aE_InvalidText, ⟨ga_InvalidText, gg_InvalidText, xC_InvalidText, hd_InvalidText, ca_InvalidText, xhn, xht, ob_InvalidText⟩, PySem.W.exm_ref exF hdF tyF su_InvalidText, no_InvalidText, kv_InvalidText, ki_InvalidText_FitError, ki_InvalidText_InvalidBlock, ki_InvalidText_InvalidEdit, ki_InvalidText_InvalidFit, ki_InvalidText_InvalidHints, ki_InvalidText_InvalidSet, ki_InvalidText_InvalidTable, ki_InvalidText_InvalidText, ki_InvalidText_NoFit, ki_InvalidText_NotFound, ki_InvalidText_UnknownItem, PySem.W.mg_of X G aE_FitError, kn_FitError, kn_InvalidBlock, kn_InvalidEdit, kn_InvalidFit, kn_InvalidHints, kn_InvalidSet, kn_InvalidTable, kn_InvalidText, kn_NoFit, kn_NotFound, kn_UnknownItem, F0, PySem.W.mg_of X G a0, b0, F1, PySem.W.mg_of X G a1, b1, F2, PySem.W.mg_of X G a2, b2, F3, PySem.W.mg_of X G a3, b3, F4, PySem.W.mg_of X G a4, b4, PySem.W.mg_none_of X G z_ValueError, PySem.W.mg_none_of X G z_abs, PySem.W.mg_none_of X G z_enumerate, PySem.W.mg_none_of X G z_int, PySem.W.mg_none_of X G z_isinstance, PySem.W.mg_none_of X G z_len, PySem.W.mg_none_of X G z_min, PySem.W.mg_none_of X G z_range, PySem.W.mg_none_of X G z_repr⟩
end Sx
set_option Elab.async false
set_option linter.all false
set_option maxRecDepth 100000
set_option maxHeartbeats 1000000
set_option autoImplicit false
namespace Sx
theorem filter_tt {α : Type} (l : List α) : l.filter (fun _ => true) = l := List.filter_eq_self.mpr fun _ _ => rfl
theorem back_none {en : En} {i : Nat} (hn : en[i]? = some none) : wip en [i] = en ∧ back en en [i] = en := by
  have hi := lt_of_get hn
  have wp0 : en.set i none = en := by
    apply List.ext_getElem?
    intro j
    by_cases e : i = j
    · subst e; rw [List.getElem?_set_self hi, hn]
    · rw [List.getElem?_set_ne e]
  refine ⟨wp0, ?_⟩
  show en.set i (match en[i]? with | some (some (.fz, d)) => some (.fz, d) | _ => none) = en
  rw [hn]
  exact wp0
open Classical in
theorem fEq_no {n m : Nat} {x y : D} (hx : Pd n x) (hy : Pd m y) (hn : n ≤ 60) (h : ¬ x = y) : fEq x y = some0 (.bl false) := by
  rw [fEq_pd hx hy hn, decide_eq_false h]
open Classical in
theorem fEq_yes {n m : Nat} {x y : D} (hx : Pd n x) (hy : Pd m y) (hn : n ≤ 60) (h : x = y) : fEq x y = some0 (.bl true) := by
  rw [fEq_pd hx hy hn, decide_eq_true h]
open Classical in
theorem fNe_no {n m : Nat} {x y : D} (hx : Pd n x) (hy : Pd m y) (hn : n ≤ 60) (h : x = y) : fNe x y = some0 (.bl false) := by
  rw [fNe_pd hx hy hn, decide_eq_false (not_not_intro h)]
theorem sForL_nx {l : Option Nat} {t : Tg} {rb : RunS} {d : D} {ds : List D} {en en1 en2 : En} (ht : t d en = some en1) (hb : rb en1 = .ret (.nx, en2)) : sForL l t rb (d :: ds) en = sForL l t rb ds en2 := by
  rw [sForL]
  simp only [ht, T.ofOpt, T.ret_bind, hb]
theorem ch_bind {α β : Type} (n : Nat) (k : Nat → T α) (f : α → T β) : (T.ch n k).bind f = .ch n fun i => (k i).bind f := rfl
theorem take_run {n : Nat} (h0 : 0 < n) (h1 : n ≤ 1073741824) : f_w_take [.drw, .int (n : Nat)] = .ch n fun i => .ret (false, .int i) := by
  show (if 0 < (n : Int) ∧ (n : Int) ≤ 1073741824 then T.ch (n : Int).toNat _ else .fail) = _
  rw [if_pos ⟨by omega, by omega⟩, Int.toNat_natCast]
theorem take_lit {n : Int} (h : 0 < n ∧ n ≤ 1073741824) : f_w_take [.drw, .int n] = .ch n.toNat fun i => .ret (false, .int i) := if_pos h
theorem ix_lst {xs : List D} {i : Nat} {x : D} (h : xs[i]? = some x) : fIx (.lst xs) (.int (i : Nat)) = some0 x := by
  unfold fIx
  simp only [(ix_nat (k := (i : Nat)) (by omega) (by simpa using h)).1, Option.bind_some]
theorem pick_wp {xs : List D} {Q : Bool × D → Prop} (h0 : xs ≠ []) (h1 : xs.length ≤ 4096) (h : ∀ x ∈ xs, Q (false, x)) : (f_w_pick [.drw, .lst xs]).wp Q := by
  have e1 : fLen [.lst xs] = some0 (.int (xs.length : Nat)) := rfl
  have e2 := take_run (n := xs.length) (List.length_pos_iff.mpr h0) (by omega)
  have he : en0 2 [.drw, .lst xs] = [some (.fz, .drw), some (.fz, .lst xs)] := rfl
  unfold f_w_pick runFn r_w_pick
  rw [he]
  simp only [sSeq, sIf, sRet, sNx, sSet, sPar, sTgt, sDrop, toT, rOr, rAnd, rNot, rIf, runN, run1, run2, rCons, rNil, rBor, rVar, rMov, rC, rChn, rDisp, rCall, rSlice, oNone, oSome, ret1, frc, frcs, onlyV, valO, Op.fz, mkO, boolOf, intOf, itemsOf, iSeq, tgN, T.ret_bind, T.ofOpt, retO, putO, flOf, some0, some1, Option.bind_some, Option.map_some, List.getElem?_cons_zero, List.getElem?_cons_succ, List.set_cons_zero, List.set_cons_succ, List.length_cons, List.length_nil, mkL, mkT, small, Bool.not_true, Bool.not_false, if_true, if_false, Bool.false_eq_true, ite_true, ite_false, Nat.reduceAdd, Nat.reduceLT, Nat.reduceLeDiff, e1, e2, ch_bind]
  intro i hi
  obtain ⟨x, hx⟩ : ∃ x, xs[i]? = some x := ⟨_, List.getElem?_eq_getElem hi⟩
  simp only [sSeq, sIf, sRet, sNx, sSet, sPar, sTgt, sDrop, toT, rOr, rAnd, rNot, rIf, runN, run1, run2, rCons, rNil, rBor, rVar, rMov, rC, rChn, rDisp, rCall, rSlice, oNone, oSome, ret1, frc, frcs, onlyV, valO, Op.fz, mkO, boolOf, intOf, itemsOf, iSeq, tgN, T.ret_bind, T.ofOpt, retO, putO, flOf, some0, some1, Option.bind_some, Option.map_some, List.getElem?_cons_zero, List.getElem?_cons_succ, List.set_cons_zero, List.set_cons_succ, List.length_cons, List.length_nil, mkL, mkT, small, Bool.not_true, Bool.not_false, if_true, if_false, Bool.false_eq_true, ite_true, ite_false, Nat.reduceAdd, Nat.reduceLT, Nat.reduceLeDiff, ix_lst hx]
  exact h x (List.mem_of_getElem? hx)
theorem wp_if {rc : RunT} {a b : RunS} {en : En} {Q : Fl × En → Prop} (h : (rc en).wp fun x => (if x.1 then a x.2 else b x.2).wp Q) : (sIf rc a b en).wp Q :=
  (T.wp_bind _ _ _).mpr h
theorem wp_nx {a b : RunS} {en : En} {Q : Fl × En → Prop} (h : (a en).wp fun r => ∃ e, r = (.nx, e) ∧ (b e).wp Q) : (sSeq a b en).wp Q :=
  wp_seq (T.wp_mono h fun _ q => .inl q)
theorem fEq_int (i j : Int) : fEq (.int i) (.int j) = some0 (.bl (decide (i = j))) := by
  by_cases z : i = j
  · rw [decide_eq_true z]; exact fEq_yes (.int _ 0) (.int _ 0) (by decide) (by rw [z])
  · rw [decide_eq_false z]; exact fEq_no (.int _ 0) (.int _ 0) (by decide) fun q => z (by cases q; rfl)
theorem wp_loop {l : Option Nat} {t : Tg} {rb : RunS} {Q : Fl × En → Prop} (I : List D → En → Prop) (hend : ∀ en, I [] en → Q (.nx, unl l en))
    (step : ∀ d ds en, I (d :: ds) en → ∃ e1, t d en = some e1 ∧ (rb e1).wp fun r => (r.1 = .nx ∧ I ds r.2) ∨ ∃ c, r.1 = .rt c ∧ Q (.rt c, r.2)) : ∀ (ds : List D) (en : En), I ds en → (sForL l t rb ds en).wp Q
  | [], en, h => hend en h
  | d :: ds, en, h => by
    obtain ⟨e1, h1, h2⟩ := step d ds en h
    rw [sForL]
    simp only [h1, T.ofOpt, T.ret_bind]
    refine (T.wp_bind _ _ _).mpr (T.wp_mono h2 fun r q => ?_)
    obtain ⟨f, e⟩ := r
    rcases q with ⟨rfl, q⟩ | ⟨c, rfl, q⟩
    · exact wp_loop I hend step ds e q
    · exact q
theorem wp_par {i j : Nat} {ra rb : Run} {en : En} {Q : Fl × En → Prop} (h : (ra en).wp fun a => (rb a.2).wp fun b => ∃ e, putO i (a.1, b.2) = some e ∧ ∃ e', putO j (b.1, e) = some e' ∧ Q (.nx, e')) : (sPar i j ra rb en).wp Q :=
  (T.wp_bind _ _ _).mpr (T.wp_mono h fun a h => (T.wp_bind _ _ _).mpr (T.wp_mono h fun b ⟨e, h1, e', h2, q⟩ => by
    show ((T.ofOpt (putO i (a.1, b.2))).bind _).wp _
    rw [h1]
    show ((T.ofOpt (putO j (b.1, e))).bind _).wp _
    rw [h2]
    exact q))
end Sx
set_option Elab.async false
set_option linter.all false
set_option maxRecDepth 100000
set_option maxHeartbeats 1000000
set_option autoImplicit false
namespace Sx
open PySem L2

/-! which class an error is of -/
theorem isx_cl {c y : Nat} (h : 2 ≤ c ∧ c ≤ 11) (g : 1 ≤ y ∧ y ≤ 11) (fs : List (Str × D)) : fIsX isx [.exc c fs, .cl y] = some0 (.bl (y == 1 || c == y)) := by
  show ((if (2 ≤ c ∧ c ≤ 11) ∧ 1 ≤ y ∧ y ≤ 11 then some (y == 1 || c == y) else none : Option Bool).map fun b => (false, D.bl b)) = _
  rw [if_pos ⟨h, g⟩]
  rfl
theorem isx_ve {c : Nat} (h : 2 ≤ c ∧ c ≤ 11) (fs : List (Str × D)) : fIsX isx [.exc c fs, .ty "ValueError"] = some0 (.bl true) := by
  show ((if ("ValueError" : String) = "ValueError" ∧ 2 ≤ c ∧ c ≤ 11 then some true else none : Option Bool).map fun b => (false, D.bl b)) = _
  rw [if_pos ⟨rfl, h⟩]
  rfl
def markL (c : Nat) : List D := [.bl (2 == 1 || c == 2), .bl (3 == 1 || c == 3), .bl (4 == 1 || c == 4), .bl (5 == 1 || c == 5), .bl (6 == 1 || c == 6), .bl (7 == 1 || c == 7), .bl (8 == 1 || c == 8), .bl (9 == 1 || c == 9), .bl (10 == 1 || c == 10), .bl (11 == 1 || c == 11)]
theorem add_ten {a b : List D} (h : a.length + b.length ≤ 4096) : fAdd (.lst a) (.lst b) = some1 (.lst (a ++ b)) := if_pos h
theorem marks_ok {c : Nat} (h : 2 ≤ c ∧ c ≤ 11) (fs : List (Str × D)) : f_w_marks [.exc c fs] = .ret (true, .lst (markL c)) := by
  have he : en0 2 [.exc c fs] = [some (.fz, .exc c fs), none] := rfl
  have i2 := isx_cl h (y := 2) (by decide) fs
  have i3 := isx_cl h (y := 3) (by decide) fs
  have i4 := isx_cl h (y := 4) (by decide) fs
  have i5 := isx_cl h (y := 5) (by decide) fs
  have i6 := isx_cl h (y := 6) (by decide) fs
  have i7 := isx_cl h (y := 7) (by decide) fs
  have i8 := isx_cl h (y := 8) (by decide) fs
  have i9 := isx_cl h (y := 9) (by decide) fs
  have i10 := isx_cl h (y := 10) (by decide) fs
  have i11 := isx_cl h (y := 11) (by decide) fs
  unfold f_w_marks runFn r_w_marks markL
  rw [he]
  generalize (D.exc c fs) = E at i2 i3 i4 i5 i6 i7 i8 i9 i10 i11 ⊢
  generalize (2 == 1 || c == 2) = b2 at i2 ⊢
  generalize (3 == 1 || c == 3) = b3 at i3 ⊢
  generalize (4 == 1 || c == 4) = b4 at i4 ⊢
  generalize (5 == 1 || c == 5) = b5 at i5 ⊢
  generalize (6 == 1 || c == 6) = b6 at i6 ⊢
  generalize (7 == 1 || c == 7) = b7 at i7 ⊢
  generalize (8 == 1 || c == 8) = b8 at i8 ⊢
  generalize (9 == 1 || c == 9) = b9 at i9 ⊢
  generalize (10 == 1 || c == 10) = b10 at i10 ⊢
  generalize (11 == 1 || c == 11) = b11 at i11 ⊢
  have a1 : fAdd (.lst [.bl b2, .bl b3, .bl b4]) (.lst [.bl b5, .bl b6, .bl b7]) = some1 (.lst [.bl b2, .bl b3, .bl b4, .bl b5, .bl b6, .bl b7]) := rfl
  have a2 : fAdd (.lst [.bl b2, .bl b3, .bl b4, .bl b5, .bl b6, .bl b7]) (.lst [.bl b8, .bl b9, .bl b10]) = some1 (.lst [.bl b2, .bl b3, .bl b4, .bl b5, .bl b6, .bl b7, .bl b8, .bl b9, .bl b10]) := rfl
  have a3 : fAdd (.lst [.bl b2, .bl b3, .bl b4, .bl b5, .bl b6, .bl b7, .bl b8, .bl b9, .bl b10]) (.lst [.bl b11]) = some1 (.lst [.bl b2, .bl b3, .bl b4, .bl b5, .bl b6, .bl b7, .bl b8, .bl b9, .bl b10, .bl b11]) := rfl
  simp only [sSeq, sIf, sRet, sNx, sSet, sPar, sTgt, sDrop, toT, rOr, rAnd, rNot, rIf, runN, run1, run2, rCons, rNil, rBor, rVar, rMov, rC, rChn, rDisp, rCall, rSlice, oNone, oSome, ret1, frc, frcs, onlyV, valO, Op.fz, mkO, boolOf, intOf, itemsOf, iSeq, tgN, T.ret_bind, T.ofOpt, retO, putO, flOf, some0, some1, Option.bind_some, Option.map_some, List.getElem?_cons_zero, List.getElem?_cons_succ, List.set_cons_zero, List.set_cons_succ, List.length_cons, List.length_nil, mkL, mkT, small, Bool.not_true, Bool.not_false, if_true, if_false, Bool.false_eq_true, ite_true, ite_false, Nat.reduceAdd, Nat.reduceLT, Nat.reduceLeDiff, i2, i3, i4, i5, i6, i7, i8, i9, i10, i11, a1, a2, a3]
theorem eqv_bls : ∀ bs : List Bool, PyData.eqvAll (bs.map PyData.bool) (bs.map PyData.bool) = true
  | [] => by simp [PyData.eqvAll]
  | b :: bs => by
    rw [List.map_cons, PyData.eqvAll, eqv_bls bs]
    cases b <;> simp [PyData.eqv]
theorem py_bls : ∀ bs : List Bool, pyL (bs.map D.bl) = some (bs.map PyData.bool)
  | [] => rfl
  | b :: bs => by
    rw [List.map_cons, pyL, py_bls bs]
    rfl
theorem dep_bls : ∀ bs : List Bool, PyData.depthAll (bs.map PyData.bool) = 0
  | [] => rfl
  | b :: bs => by
    rw [List.map_cons, PyData.depthAll, dep_bls bs]
    rfl
theorem ne_bls (bs : List Bool) : fNe (.lst (bs.map D.bl)) (.lst (bs.map D.bl)) = some0 (.bl false) := by
  have p : py (.lst (bs.map D.bl)) = some (.list (bs.map PyData.bool)) := by rw [py, py_bls]; rfl
  unfold fNe
  rw [p]
  show (if (PyData.list (bs.map PyData.bool)).depth ≤ 60 then some0 (.bl (!PyData.eqv (.list (bs.map PyData.bool)) (.list (bs.map PyData.bool)))) else none) = _
  rw [if_pos (by rw [PyData.depth, dep_bls]; decide), PyData.eqv, eqv_bls]
  rfl
/-! the values -/
def someL : List D := [.str "rows", .int 0, .int 3, .int (-1), .non, .tup [.str "row", .str "a"], .lst [.str "a"], .dK [], .bl true, .int (10 ^ 40), .str "", .tup [.str "column", .tup [.str "row", .str "b"]]]
def Rp (d : D) : Prop := ∃ s, fReprU [.lst [d, d, d, d]] = some0 (.str s)
theorem rp_of {d : D} {p : PyData} (h : pyG d = some p) (ok : shOkG (.list [p, p, p, p]) = true) : Rp d := ⟨(PyData.list [p, p, p, p]).shown, by
  show ((pyG d).bind fun p => (pyGL [d, d, d]).bind fun ps => if shOkG (.list (p :: ps)) then some0 (.str (PyData.list (p :: ps)).shown) else none) = _
  have h2 : pyGL [d, d, d] = some [p, p, p] := by simp [pyGL, h]
  rw [h, h2]
  show (if shOkG (.list [p, p, p, p]) = true then _ else _) = _
  rw [if_pos ok]⟩
theorem rp_all : ∀ d ∈ someL, Rp d := fun d hd => by
  unfold someL at hd
  simp only [List.mem_cons, List.not_mem_nil, or_false] at hd
  rcases hd with rfl | rfl | rfl | rfl | rfl | rfl | rfl | rfl | rfl | rfl | rfl | rfl
  · exact rp_of (p := .str "rows") rfl (by decide +kernel)
  · exact rp_of (p := .int 0) rfl (by decide +kernel)
  · exact rp_of (p := .int 3) rfl (by decide +kernel)
  · exact rp_of (p := .int (-1)) rfl (by decide +kernel)
  · exact rp_of (p := .none) rfl (by decide +kernel)
  · exact rp_of (p := .tuple [.str "row", .str "a"]) rfl (by decide +kernel)
  · exact rp_of (p := .list [.str "a"]) rfl (by decide +kernel)
  · exact rp_of (p := .dict []) rfl (by decide +kernel)
  · exact rp_of (p := .bool true) rfl (by decide +kernel)
  · exact rp_of (p := .int (10 ^ 40)) rfl (by decide +kernel)
  · exact rp_of (p := .str "") rfl (by decide +kernel)
  · exact rp_of (p := .tuple [.str "column", .tuple [.str "row", .str "b"]]) rfl (by decide +kernel)
end Sx
set_option Elab.async false
set_option linter.all false
set_option maxRecDepth 100000
set_option maxHeartbeats 1000000
set_option autoImplicit false
namespace Sx
open PySem L2

abbrev EL (m : Nat) (t s3 s4 s5 s6 s7 s8 s9 s10 : Slot) : En := [some (.fz, .scr m), some (.fz, .drw), t, s3, s4, s5, s6, s7, s8, s9, s10, none]
def exD (c : Nat) (f : Str) (d : D) : D := .exc c [(f, d)]
def madeL (d : D) : List D := [exD 2 "part" d, exD 3 "item" d, .exc 4 [], .exc 5 [], exD 6 "index" d, .exc 7 [], .exc 8 [], .exc 9 [], .exc 10 [], exD 11 "line" d]
def byL (d : D) : List D := [exD 2 "part" d, exD 3 "item" d, exD 6 "index" d, exD 11 "line" d]
section
variable {m : Nat} {t s3 s4 s5 s6 s7 s8 s9 s10 : Slot} {d e : D}
@[irreducible] def aR : RunS := (sSet 3 (rDisp mkL (rCons (rC (.str "rows")) (rCons (rC (.int 0)) (rCons (rC (.int 3)) (rCons (run1 (rC (.int 1)) fNeg) (rCons (rC .non) (rCons (rDisp mkT (rCons (rC (.str "row")) (rCons (rC (.str "a")) rNil))) (rCons (rDisp mkL (rCons (rC (.str "a")) rNil)) (rCons (rDsp []) (rCons (rC (.bl true)) (rCons (run2 (rC (.int 10)) (rC (.int 40)) fPow) (rCons (rC (.str "")) (rCons (rDisp mkT (rCons (rC (.str "column")) (rCons (rDisp mkT (rCons (rC (.str "row")) (rCons (rC (.str "b")) rNil))) rNil))) rNil))))))))))))))
theorem a_run : aR (EL m t s3 s4 s5 s6 s7 s8 s9 s10) = .ret (.nx, EL m t (some (.ow, .lst someL)) s4 s5 s6 s7 s8 s9 s10) := by
  have d0 : mkDK [] = some (true, .dK []) := rfl
  have n1 : fNeg (.int 1) = some0 (.int (-1)) := rfl
  have p1 : fPow (.int 10) (.int 40) = some0 (.int (10 ^ 40)) := by
    show (if decide ((0 : Int) ≤ 40 ∧ (40 : Int) ≤ 1000 ∧ (10 : Int).natAbs < 2 ^ 60) = true then some0 (D.int ((10 : Int) ^ (40 : Int).toNat)) else none) = _
    rw [if_pos (by decide)]
    have : (40 : Int).toNat = 40 := rfl
    rw [this]
  unfold aR someL
  generalize (10 : Int) ^ 40 = big at p1 ⊢
  simp only [EL, sSeq, sIf, sRet, sNx, sSet, sPar, sTgt, sDrop, toT, rOr, rAnd, rNot, rIf, runN, run1, run2, rCons, rNil, rBor, rVar, rMov, rC, rChn, rDisp, rCall, rSlice, oNone, oSome, ret1, frc, frcs, onlyV, valO, Op.fz, mkO, boolOf, intOf, itemsOf, iSeq, tgN, T.ret_bind, T.ofOpt, retO, putO, flOf, some0, some1, Option.bind_some, Option.map_some, List.getElem?_cons_zero, List.getElem?_cons_succ, List.set_cons_zero, List.set_cons_succ, List.length_cons, List.length_nil, mkL, mkT, small, Bool.not_true, Bool.not_false, if_true, if_false, Bool.false_eq_true, ite_true, ite_false, Nat.reduceAdd, Nat.reduceLT, Nat.reduceLeDiff, rDsp, prRuns, d0, n1, p1]
@[irreducible] def bR : RunS := (sPar 4 5 (rCall f_w_pick (rCons (rVar 1) (rCons (rVar 3) rNil))) (rCall f_w_pick (rCons (rVar 1) (rCons (rVar 3) rNil))))
theorem b_wp : (bR (EL m t (some (.ow, .lst someL)) s4 s5 s6 s7 s8 s9 s10)).wp fun r => ∃ d e, d ∈ someL ∧ e ∈ someL ∧ r = (.nx, EL m t (some (.fz, .lst someL)) (some (.fz, d)) (some (.fz, e)) s6 s7 s8 s9 s10) := by
  have pw := fun (L : List D) (Q : Bool × D → Prop) (h0 : L ≠ []) (h1 : L.length ≤ 4096) (h : ∀ x ∈ L, Q (false, x)) => pick_wp (Q := Q) h0 h1 h
  have o0 : someL ≠ [] := by unfold someL; simp
  have o1 : someL.length ≤ 4096 := by unfold someL; decide
  unfold bR
  generalize f_w_pick = P at pw ⊢
  generalize someL = L at o0 o1 ⊢
  refine wp_par (wp_call (wp_eq (x := ([.v .drw, .v (.lst L)], EL m t (some (.fz, .lst L)) s4 s5 s6 s7 s8 s9 s10)) rfl ⟨_, rfl, pw L _ o0 o1 fun d hd => ?_⟩))
  refine wp_call (wp_eq (x := ([.v .drw, .v (.lst L)], EL m t (some (.fz, .lst L)) s4 s5 s6 s7 s8 s9 s10)) rfl ⟨_, rfl, pw L _ o0 o1 fun e he => ?_⟩)
  exact ⟨_, rfl, _, rfl, d, e, hd, he, rfl⟩
theorem mk1 (c : Nat) (f : Str) (d : D) : mkEx c f [d] = some0 (exD c f d) := rfl
theorem mk0 (c : Nat) : mkEx0 c [] = some0 (.exc c []) := rfl
@[irreducible] def cR : RunS := (sSet 6 (rDisp mkL (rCons (rDisp (mkEx 2 "part") (rCons (rVar 4) rNil)) (rCons (rDisp (mkEx 3 "item") (rCons (rVar 4) rNil)) (rCons (rDisp (mkEx0 4) rNil) (rCons (rDisp (mkEx0 5) rNil) (rCons (rDisp (mkEx 6 "index") (rCons (rVar 4) rNil)) (rCons (rDisp (mkEx0 7) rNil) rNil))))))))
theorem c_run : cR (EL m t s3 (some (.fz, d)) s5 s6 s7 s8 s9 s10) = .ret (.nx, EL m t s3 (some (.fz, d)) s5 (some (.ow, .lst [exD 2 "part" d, exD 3 "item" d, .exc 4 [], .exc 5 [], exD 6 "index" d, .exc 7 []])) s7 s8 s9 s10) := by
  unfold cR
  simp only [EL, sSeq, sIf, sRet, sNx, sSet, sPar, sTgt, sDrop, toT, rOr, rAnd, rNot, rIf, runN, run1, run2, rCons, rNil, rBor, rVar, rMov, rC, rChn, rDisp, rCall, rSlice, oNone, oSome, ret1, frc, frcs, onlyV, valO, Op.fz, mkO, boolOf, intOf, itemsOf, iSeq, tgN, T.ret_bind, T.ofOpt, retO, putO, flOf, some0, some1, Option.bind_some, Option.map_some, List.getElem?_cons_zero, List.getElem?_cons_succ, List.set_cons_zero, List.set_cons_succ, List.length_cons, List.length_nil, mkL, mkT, small, Bool.not_true, Bool.not_false, if_true, if_false, Bool.false_eq_true, ite_true, ite_false, Nat.reduceAdd, Nat.reduceLT, Nat.reduceLeDiff, mk1, mk0]
@[irreducible] def c2R : RunS := (sSet 6 (run2 (rBor 6) (rDisp mkL (rCons (rDisp (mkEx0 8) rNil) (rCons (rDisp (mkEx0 9) rNil) (rCons (rDisp (mkEx0 10) rNil) (rCons (rDisp (mkEx 11 "line") (rCons (rVar 4) rNil)) rNil))))) fAdd))
theorem c2_run : c2R (EL m t s3 (some (.fz, d)) s5 (some (.ow, .lst [exD 2 "part" d, exD 3 "item" d, .exc 4 [], .exc 5 [], exD 6 "index" d, .exc 7 []])) s7 s8 s9 s10) = .ret (.nx, EL m t s3 (some (.fz, d)) s5 (some (.ow, .lst (madeL d))) s7 s8 s9 s10) := by
  have a1 : ∀ a b c e1 e2 e3 e4 : D, fAdd (.lst [a, b, .exc 4 [], .exc 5 [], c, .exc 7 []]) (.lst [e1, e2, e3, e4]) = some1 (.lst [a, b, .exc 4 [], .exc 5 [], c, .exc 7 [], e1, e2, e3, e4]) := fun _ _ _ _ _ _ _ => rfl
  unfold c2R madeL
  simp only [EL, sSeq, sIf, sRet, sNx, sSet, sPar, sTgt, sDrop, toT, rOr, rAnd, rNot, rIf, runN, run1, run2, rCons, rNil, rBor, rVar, rMov, rC, rChn, rDisp, rCall, rSlice, oNone, oSome, ret1, frc, frcs, onlyV, valO, Op.fz, mkO, boolOf, intOf, itemsOf, iSeq, tgN, T.ret_bind, T.ofOpt, retO, putO, flOf, some0, some1, Option.bind_some, Option.map_some, List.getElem?_cons_zero, List.getElem?_cons_succ, List.set_cons_zero, List.set_cons_succ, List.length_cons, List.length_nil, mkL, mkT, small, Bool.not_true, Bool.not_false, if_true, if_false, Bool.false_eq_true, ite_true, ite_false, Nat.reduceAdd, Nat.reduceLT, Nat.reduceLeDiff, mk1, mk0, a1]
@[irreducible] def dR : RunS := (sSet 7 (rDisp mkL (rCons (rDisp (mkEx 2 "part") (rCons (rVar 5) rNil)) (rCons (rDisp (mkEx 3 "item") (rCons (rVar 5) rNil)) (rCons (rDisp (mkEx 6 "index") (rCons (rVar 5) rNil)) (rCons (rDisp (mkEx 11 "line") (rCons (rVar 5) rNil)) rNil))))))
theorem d_run : dR (EL m t s3 s4 (some (.fz, e)) s6 s7 s8 s9 s10) = .ret (.nx, EL m t s3 s4 (some (.fz, e)) s6 (some (.ow, .lst (byL e))) s8 s9 s10) := by
  unfold dR byL
  simp only [EL, sSeq, sIf, sRet, sNx, sSet, sPar, sTgt, sDrop, toT, rOr, rAnd, rNot, rIf, runN, run1, run2, rCons, rNil, rBor, rVar, rMov, rC, rChn, rDisp, rCall, rSlice, oNone, oSome, ret1, frc, frcs, onlyV, valO, Op.fz, mkO, boolOf, intOf, itemsOf, iSeq, tgN, T.ret_bind, T.ofOpt, retO, putO, flOf, some0, some1, Option.bind_some, Option.map_some, List.getElem?_cons_zero, List.getElem?_cons_succ, List.set_cons_zero, List.set_cons_succ, List.length_cons, List.length_nil, mkL, mkT, small, Bool.not_true, Bool.not_false, if_true, if_false, Bool.false_eq_true, ite_true, ite_false, Nat.reduceAdd, Nat.reduceLT, Nat.reduceLeDiff, mk1]
@[irreducible] def ebR : RunS := (sSeq (sIf (toT (rOr (rNot (runN (rCons (rVar 9) (rCons (rC (.cl 1)) rNil)) (fIsX isx))) (rNot (runN (rCons (rVar 9) (rCons (rC (.ty "ValueError")) rNil)) (fIsX isx))))) (sSeq (sRet (rC (.bl false)))
    sNx) sNx)
    (sSeq (sIf (toT (run2 (rCall f_w_marks (rCons (rVar 9) rNil)) (rLc (iRange (rCons (rC (.int 10)) rNil)) none (tgN 11) rYes (run2 (rBor 11) (rBor 8) fEq) [11]) fNe)) (sSeq (sRet (rC (.bl false)))
    sNx) sNx)
    sNx))
theorem eb_run {k : Nat} {fs : List (Str × D)} (hk : k < 10) : ebR (EL m t s3 s4 s5 s6 s7 (some (.fz, .int (k : Nat))) (some (.fz, .exc (k + 2) fs)) s10) = .ret (.nx, EL m t s3 s4 s5 s6 s7 (some (.fz, .int (k : Nat))) (some (.fz, .exc (k + 2) fs)) s10) := by
  have hc : 2 ≤ k + 2 ∧ k + 2 ≤ 11 := by omega
  have i1 : fIsX isx [.exc (k + 2) fs, .cl 1] = some0 (.bl true) := isx_cl hc (y := 1) (by decide) fs
  have i2 := isx_ve hc fs
  have i3 := marks_ok hc fs
  have c1 : rLc (iRange (rCons (rC (.int 10)) rNil)) none (tgN 11) rYes (run2 (rBor 11) (rBor 8) fEq) [11] (EL m t s3 s4 s5 s6 s7 (some (.fz, .int (k : Nat))) (some (.fz, .exc (k + 2) fs)) s10) = .ret (.fr (.lst ((List.range 10).map fun j => .bl (decide (((j : Nat) : Int) = (k : Nat))))), EL m t s3 s4 s5 s6 s7 (some (.fz, .int (k : Nat))) (some (.fz, .exc (k + 2) fs)) s10) := by
    refine (rLc_map (en1 := EL m t s3 s4 s5 s6 s7 (some (.fz, .int (k : Nat))) (some (.fz, .exc (k + 2) fs)) s10) (g := fun j : Nat => D.int (0 + (j : Nat))) (xs := List.range 10) (fun _ => true) (fun j => .bl (decide (((j : Nat) : Int) = (k : Nat)))) rfl (by decide) fun j hj => ?_).trans (by rw [filter_tt]; rfl)
    have q : fEq (.int (0 + (j : Nat))) (.int (k : Nat)) = some0 (.bl (decide (((j : Nat) : Int) = (k : Nat)))) := by rw [fEq_int, Int.zero_add]
    refine ⟨[some (.fz, .scr m), some (.fz, .drw), t, s3, s4, s5, s6, s7, some (.fz, .int (k : Nat)), some (.fz, .exc (k + 2) fs), s10, some (.fz, .int (0 + (j : Nat)))], _, rfl, rfl, (fun z => by cases z), fun _ => ⟨.v (.bl (decide (((j : Nat) : Int) = (k : Nat)))), [some (.fz, .scr m), some (.fz, .drw), t, s3, s4, s5, s6, s7, some (.fz, .int (k : Nat)), some (.fz, .exc (k + 2) fs), s10, some (.fz, .int (0 + (j : Nat)))], ?_, rfl, rfl⟩⟩
    simp only [sSeq, sIf, sRet, sNx, sSet, sPar, sTgt, sDrop, toT, rOr, rAnd, rNot, rIf, runN, run1, run2, rCons, rNil, rBor, rVar, rMov, rC, rChn, rDisp, rCall, rSlice, oNone, oSome, ret1, frc, frcs, onlyV, valO, Op.fz, mkO, boolOf, intOf, itemsOf, iSeq, tgN, T.ret_bind, T.ofOpt, retO, putO, flOf, some0, some1, Option.bind_some, Option.map_some, List.getElem?_cons_zero, List.getElem?_cons_succ, List.set_cons_zero, List.set_cons_succ, List.length_cons, List.length_nil, mkL, mkT, small, Bool.not_true, Bool.not_false, if_true, if_false, Bool.false_eq_true, ite_true, ite_false, Nat.reduceAdd, Nat.reduceLT, Nat.reduceLeDiff, q]
  have q : ∀ k : Nat, k < 10 → ([(2 == 1 || k + 2 == 2), (3 == 1 || k + 2 == 3), (4 == 1 || k + 2 == 4), (5 == 1 || k + 2 == 5), (6 == 1 || k + 2 == 6), (7 == 1 || k + 2 == 7), (8 == 1 || k + 2 == 8), (9 == 1 || k + 2 == 9), (10 == 1 || k + 2 == 10), (11 == 1 || k + 2 == 11)] : List Bool) = (List.range 10).map fun j => decide (((j : Nat) : Int) = (k : Nat)) := by decide +kernel
  have eq : markL (k + 2) = (List.range 10).map fun j => .bl (decide (((j : Nat) : Int) = (k : Nat))) := by
    show ([(2 == 1 || k + 2 == 2), (3 == 1 || k + 2 == 3), (4 == 1 || k + 2 == 4), (5 == 1 || k + 2 == 5), (6 == 1 || k + 2 == 6), (7 == 1 || k + 2 == 7), (8 == 1 || k + 2 == 8), (9 == 1 || k + 2 == 9), (10 == 1 || k + 2 == 10), (11 == 1 || k + 2 == 11)] : List Bool).map D.bl = _
    rw [q k hk, List.map_map]
    rfl
  have n1 := ne_bls ((List.range 10).map fun j => decide (((j : Nat) : Int) = (k : Nat)))
  rw [List.map_map] at n1
  have n1 : fNe (.lst ((List.range 10).map fun j => .bl (decide (((j : Nat) : Int) = (k : Nat))))) (.lst ((List.range 10).map fun j => .bl (decide (((j : Nat) : Int) = (k : Nat))))) = some0 (.bl false) := n1
  rw [eq] at i3
  unfold ebR
  generalize ((List.range 10).map fun j => D.bl (decide (((j : Nat) : Int) = (k : Nat)))) = L at i3 c1 n1
  generalize D.exc (k + 2) fs = X at i1 i2 i3 c1 ⊢
  simp only [EL] at c1 ⊢
  simp only [sSeq, sIf, sRet, sNx, sSet, sPar, sTgt, sDrop, toT, rOr, rAnd, rNot, rIf, runN, run1, run2, rCons, rNil, rBor, rVar, rMov, rC, rChn, rDisp, rCall, rSlice, oNone, oSome, ret1, frc, frcs, onlyV, valO, Op.fz, mkO, boolOf, intOf, itemsOf, iSeq, tgN, T.ret_bind, T.ofOpt, retO, putO, flOf, some0, some1, Option.bind_some, Option.map_some, List.getElem?_cons_zero, List.getElem?_cons_succ, List.set_cons_zero, List.set_cons_succ, List.length_cons, List.length_nil, mkL, mkT, small, Bool.not_true, Bool.not_false, if_true, if_false, Bool.false_eq_true, ite_true, ite_false, Nat.reduceAdd, Nat.reduceLT, Nat.reduceLeDiff, i1, i2, i3, c1, n1]
def tgP : Tg := tgTup 2 (tgCons (tgN 8) (tgCons (tgN 9) tgNil))
theorem e_loop : ∀ {es : List (List (Str × D))} {k : Nat} {s8 s9 : Slot}, k + es.length ≤ 10 →
    ∃ z8 z9, sForL none tgP ebR ((es.zipIdx k).map fun p => D.tup [.int (p.2 : Nat), .exc (p.2 + 2) p.1]) (EL m t s3 s4 s5 s6 s7 s8 s9 s10) = .ret (.nx, EL m t s3 s4 s5 s6 s7 z8 z9 s10)
  | [], k, s8, s9, _ => ⟨s8, s9, rfl⟩
  | f :: es, k, s8, s9, h => by
    rw [List.length_cons] at h
    obtain ⟨z8, z9, ih⟩ := e_loop (es := es) (k := k + 1) (s8 := some (.fz, .int (k : Nat))) (s9 := some (.fz, .exc (k + 2) f)) (by omega)
    refine ⟨z8, z9, ?_⟩
    rw [List.zipIdx_cons, List.map_cons]
    have t1 : tgP (.tup [.int (k : Nat), .exc (k + 2) f]) (EL m t s3 s4 s5 s6 s7 s8 s9 s10) = some (EL m t s3 s4 s5 s6 s7 (some (.fz, .int (k : Nat))) (some (.fz, .exc (k + 2) f)) s10) := rfl
    exact (sForL_nx (l := none) t1 (eb_run (by omega))).trans ih
@[irreducible] def eR : RunS := sFor (iEnumU (rCons (rVar 6) rNil)) none tgP ebR
theorem e_run : ∃ z8 z9, eR (EL m t s3 s4 s5 (some (.ow, .lst (madeL d))) s7 s8 s9 s10) = .ret (.nx, EL m t s3 s4 s5 (some (.fz, .lst (madeL d))) s7 z8 z9 s10) := by
  obtain ⟨z8, z9, q⟩ := e_loop (m := m) (t := t) (s3 := s3) (s4 := s4) (s5 := s5) (s6 := some (.fz, .lst (madeL d))) (s7 := s7) (s8 := s8) (s9 := s9) (s10 := s10) (es := [[("part", d)], [("item", d)], [], [], [("index", d)], [], [], [], [], [("line", d)]]) (k := 0) (by simp)
  refine ⟨z8, z9, ?_⟩
  unfold eR sFor
  generalize ebR = R at q ⊢
  exact q
theorem er_f {ok : Nat → Bool} {c : Nat} {f : Str} {d : D} (h : ok c = true) : fErF ok f (exD c f d) = some0 d := by
  show (if ok c = true then (List.lookup f [(f, d)]).map fun y => (false, y) else none) = _
  rw [if_pos h, List.lookup_cons, beq_self_eq_true]
  rfl
@[irreducible] def fR : RunS := (sSet 10 (rDisp mkL (rCons (run1 (run2 (rBor 6) (rC (.int 0)) fIx) (fErF ea_part "part")) (rCons (run1 (run2 (rBor 6) (rC (.int 1)) fIx) (fErF ea_item "item")) (rCons (run1 (run2 (rBor 6) (rC (.int 4)) fIx) (fErF ea_index "index")) (rCons (run1 (run2 (rBor 6) (rC (.int 9)) fIx) (fErF ea_line "line")) rNil))))))
theorem f_run : fR (EL m t s3 s4 s5 (some (.fz, .lst (madeL d))) s7 s8 s9 s10) = .ret (.nx, EL m t s3 s4 s5 (some (.fz, .lst (madeL d))) s7 s8 s9 (some (.ow, .lst [d, d, d, d]))) := by
  have i0 : fIx (.lst (madeL d)) (.int 0) = some0 (exD 2 "part" d) := rfl
  have i1 : fIx (.lst (madeL d)) (.int 1) = some0 (exD 3 "item" d) := rfl
  have i4 : fIx (.lst (madeL d)) (.int 4) = some0 (exD 6 "index" d) := rfl
  have i9 : fIx (.lst (madeL d)) (.int 9) = some0 (exD 11 "line" d) := rfl
  have g0 := er_f (ok := ea_part) (c := 2) (f := "part") (d := d) (by decide)
  have g1 := er_f (ok := ea_item) (c := 3) (f := "item") (d := d) (by decide)
  have g4 := er_f (ok := ea_index) (c := 6) (f := "index") (d := d) (by decide)
  have g9 := er_f (ok := ea_line) (c := 11) (f := "line") (d := d) (by decide)
  unfold fR
  generalize madeL d = L at i0 i1 i4 i9 ⊢
  simp only [EL, sSeq, sIf, sRet, sNx, sSet, sPar, sTgt, sDrop, toT, rOr, rAnd, rNot, rIf, runN, run1, run2, rCons, rNil, rBor, rVar, rMov, rC, rChn, rDisp, rCall, rSlice, oNone, oSome, ret1, frc, frcs, onlyV, valO, Op.fz, mkO, boolOf, intOf, itemsOf, iSeq, tgN, T.ret_bind, T.ofOpt, retO, putO, flOf, some0, some1, Option.bind_some, Option.map_some, List.getElem?_cons_zero, List.getElem?_cons_succ, List.set_cons_zero, List.set_cons_succ, List.length_cons, List.length_nil, mkL, mkT, small, Bool.not_true, Bool.not_false, if_true, if_false, Bool.false_eq_true, ite_true, ite_false, Nat.reduceAdd, Nat.reduceLT, Nat.reduceLeDiff, i0, i1, i4, i9, g0, g1, g4, g9]
theorem rep4 (d : D) : fRepL (.lst [d]) (.int 4) = some1 (.lst [d, d, d, d]) := rfl
@[irreducible] def gR : RunS := (sIf (toT (run2 (runN (rCons (rVar 10) rNil) fReprU) (runN (rCons (run2 (rDisp mkL (rCons (rVar 4) rNil)) (rC (.int 4)) fRepL) rNil) fReprU) fNe)) (sSeq (sRet (rC (.bl false)))
    sNx) sNx)
theorem g_run (h : Rp d) : gR (EL m t s3 (some (.fz, d)) s5 s6 s7 s8 s9 (some (.ow, .lst [d, d, d, d]))) = .ret (.nx, EL m t s3 (some (.fz, d)) s5 s6 s7 s8 s9 (some (.fz, .lst [d, d, d, d]))) := by
  obtain ⟨q, hq⟩ := h
  have r4 := rep4 d
  have ne : fNe (.str q) (.str q) = some0 (.bl false) := fNe_no (.str q 0) (.str q 0) (by decide) rfl
  unfold gR
  simp only [EL, sSeq, sIf, sRet, sNx, sSet, sPar, sTgt, sDrop, toT, rOr, rAnd, rNot, rIf, runN, run1, run2, rCons, rNil, rBor, rVar, rMov, rC, rChn, rDisp, rCall, rSlice, oNone, oSome, ret1, frc, frcs, onlyV, valO, Op.fz, mkO, boolOf, intOf, itemsOf, iSeq, tgN, T.ret_bind, T.ofOpt, retO, putO, flOf, some0, some1, Option.bind_some, Option.map_some, List.getElem?_cons_zero, List.getElem?_cons_succ, List.set_cons_zero, List.set_cons_succ, List.length_cons, List.length_nil, mkL, mkT, small, Bool.not_true, Bool.not_false, if_true, if_false, Bool.false_eq_true, ite_true, ite_false, Nat.reduceAdd, Nat.reduceLT, Nat.reduceLeDiff, r4, hq, ne]
@[irreducible] def hR : RunS := (sSet 10 (rDisp mkL (rCons (run1 (run2 (rBor 7) (rC (.int 0)) fIx) (fErF ea_part "part")) (rCons (run1 (run2 (rBor 7) (rC (.int 1)) fIx) (fErF ea_item "item")) (rCons (run1 (run2 (rBor 7) (rC (.int 2)) fIx) (fErF ea_index "index")) (rCons (run1 (run2 (rBor 7) (rC (.int 3)) fIx) (fErF ea_line "line")) rNil))))))
theorem h_run : hR (EL m t s3 s4 s5 s6 (some (.ow, .lst (byL e))) s8 s9 s10) = .ret (.nx, EL m t s3 s4 s5 s6 (some (.ow, .lst (byL e))) s8 s9 (some (.ow, .lst [e, e, e, e]))) := by
  have i0 : fIx (.lst (byL e)) (.int 0) = some0 (exD 2 "part" e) := rfl
  have i1 : fIx (.lst (byL e)) (.int 1) = some0 (exD 3 "item" e) := rfl
  have i2 : fIx (.lst (byL e)) (.int 2) = some0 (exD 6 "index" e) := rfl
  have i3 : fIx (.lst (byL e)) (.int 3) = some0 (exD 11 "line" e) := rfl
  have g0 := er_f (ok := ea_part) (c := 2) (f := "part") (d := e) (by decide)
  have g1 := er_f (ok := ea_item) (c := 3) (f := "item") (d := e) (by decide)
  have g4 := er_f (ok := ea_index) (c := 6) (f := "index") (d := e) (by decide)
  have g9 := er_f (ok := ea_line) (c := 11) (f := "line") (d := e) (by decide)
  unfold hR
  generalize byL e = L at i0 i1 i2 i3 ⊢
  simp only [EL, sSeq, sIf, sRet, sNx, sSet, sPar, sTgt, sDrop, toT, rOr, rAnd, rNot, rIf, runN, run1, run2, rCons, rNil, rBor, rVar, rMov, rC, rChn, rDisp, rCall, rSlice, oNone, oSome, ret1, frc, frcs, onlyV, valO, Op.fz, mkO, boolOf, intOf, itemsOf, iSeq, tgN, T.ret_bind, T.ofOpt, retO, putO, flOf, some0, some1, Option.bind_some, Option.map_some, List.getElem?_cons_zero, List.getElem?_cons_succ, List.set_cons_zero, List.set_cons_succ, List.length_cons, List.length_nil, mkL, mkT, small, Bool.not_true, Bool.not_false, if_true, if_false, Bool.false_eq_true, ite_true, ite_false, Nat.reduceAdd, Nat.reduceLT, Nat.reduceLeDiff, i0, i1, i2, i3, g0, g1, g4, g9]
@[irreducible] def iR : RunS := (sIf (toT (run2 (runN (rCons (rVar 10) rNil) fReprU) (runN (rCons (run2 (rDisp mkL (rCons (rVar 5) rNil)) (rC (.int 4)) fRepL) rNil) fReprU) fNe)) (sSeq (sRet (rC (.bl false)))
    sNx) sNx)
theorem i_run (h : Rp e) : iR (EL m t s3 s4 (some (.fz, e)) s6 s7 s8 s9 (some (.ow, .lst [e, e, e, e]))) = .ret (.nx, EL m t s3 s4 (some (.fz, e)) s6 s7 s8 s9 (some (.fz, .lst [e, e, e, e]))) := by
  obtain ⟨q, hq⟩ := h
  have r4 := rep4 e
  have ne : fNe (.str q) (.str q) = some0 (.bl false) := fNe_no (.str q 0) (.str q 0) (by decide) rfl
  unfold iR
  simp only [EL, sSeq, sIf, sRet, sNx, sSet, sPar, sTgt, sDrop, toT, rOr, rAnd, rNot, rIf, runN, run1, run2, rCons, rNil, rBor, rVar, rMov, rC, rChn, rDisp, rCall, rSlice, oNone, oSome, ret1, frc, frcs, onlyV, valO, Op.fz, mkO, boolOf, intOf, itemsOf, iSeq, tgN, T.ret_bind, T.ofOpt, retO, putO, flOf, some0, some1, Option.bind_some, Option.map_some, List.getElem?_cons_zero, List.getElem?_cons_succ, List.set_cons_zero, List.set_cons_succ, List.length_cons, List.length_nil, mkL, mkT, small, Bool.not_true, Bool.not_false, if_true, if_false, Bool.false_eq_true, ite_true, ite_false, Nat.reduceAdd, Nat.reduceLT, Nat.reduceLeDiff, r4, hq, ne]
@[irreducible] def bodyR : RunS := (sSeq aR (sSeq bR (sSeq cR (sSeq c2R (sSeq dR (sSeq eR (sSeq fR (sSeq gR (sSeq hR (sSeq iR sNx))))))))))
theorem body_wp : (bodyR (EL m t s3 s4 s5 s6 s7 s8 s9 s10)).wp fun r => r.1 = .nx ∧ ∃ s3 s4 s5 s6 s7 s8 s9 s10, r.2 = EL m t s3 s4 s5 s6 s7 s8 s9 s10 := by
  have q1 := @a_run
  have q2 := @b_wp
  have q3 := @c_run
  have q4 := @c2_run
  have q5 := @d_run
  have q6 := @e_run
  have q7 := @f_run
  have q8 := @g_run
  have q9 := @h_run
  have q10 := @i_run
  unfold bodyR
  generalize aR = R1 at q1 ⊢
  generalize bR = R2 at q2 ⊢
  generalize cR = R3 at q3 ⊢
  generalize c2R = R4 at q4 ⊢
  generalize dR = R5 at q5 ⊢
  generalize eR = R6 at q6 ⊢
  generalize fR = R7 at q7 ⊢
  generalize gR = R8 at q8 ⊢
  generalize hR = R9 at q9 ⊢
  generalize iR = R10 at q10 ⊢
  refine wp_nx (wp_eq q1 ⟨_, rfl, ?_⟩)
  refine wp_nx (T.wp_mono q2 fun r ⟨d, e, hd, he, z⟩ => ⟨_, z, ?_⟩)
  refine wp_nx (wp_eq q3 ⟨_, rfl, ?_⟩)
  refine wp_nx (wp_eq q4 ⟨_, rfl, ?_⟩)
  refine wp_nx (wp_eq q5 ⟨_, rfl, ?_⟩)
  obtain ⟨z8, z9, q6⟩ := q6 (m := m) (t := t) (s3 := some (.fz, .lst someL)) (s4 := some (.fz, d)) (s5 := some (.fz, e)) (s7 := some (.ow, .lst (byL e))) (s8 := s8) (s9 := s9) (s10 := s10) (d := d)
  refine wp_nx (wp_eq q6 ⟨_, rfl, ?_⟩)
  refine wp_nx (wp_eq q7 ⟨_, rfl, ?_⟩)
  refine wp_nx (wp_eq (q8 (rp_all d hd)) ⟨_, rfl, ?_⟩)
  refine wp_nx (wp_eq q9 ⟨_, rfl, ?_⟩)
  refine wp_nx (wp_eq (q10 (rp_all e he)) ⟨_, rfl, ?_⟩)
  exact ⟨rfl, _, _, _, _, _, _, _, _, rfl⟩
end
theorem law_true : ∀ m, m ≤ 63 → (r_law (lawEn 12 m)).wp Yes := by
  intro m hm
  have hR : r_law = (sSeq (sFor (iRange (rCons (run2 (rC (.int 1)) (runN (rCons (runN (rCons (rBor 0) rNil) fLen) (rCons (rC (.int 6)) rNil)) fMin2) fAdd) rNil)) none (tgN 2) bodyR) (sSeq (sRet (rC (.bl true))) sNx)) := by
    unfold r_law bodyR aR bR cR c2R dR eR tgP ebR fR gR hR iR
    rfl
  rw [hR]
  have al := fun t => @body_wp m t
  generalize bodyR = R at al ⊢
  have he : lawEn 12 m = EL m none none none none none none none none none := rfl
  rw [he]
  refine wp_nx ?_
  unfold sFor
  obtain ⟨n, it⟩ : ∃ n : Nat, (iRange (rCons (run2 (rC (.int 1)) (runN (rCons (runN (rCons (rBor 0) rNil) fLen) (rCons (rC (.int 6)) rNil)) fMin2) fAdd) rNil)) (EL m none none none none none none none none none) = .ret ((List.range n).map fun k => D.int (0 + (k : Nat)), EL m none none none none none none none none none) := by
    have e1 : fLen [.scr m] = some0 (.int (m : Nat)) := rfl
    have e2 : fMin2 [.int (m : Nat), .int 6] = some0 (.int ((if 6 < m then 6 else m : Nat) : Int)) := by
      show some0 (.int (if (6 : Int) < (m : Int) then 6 else (m : Int))) = _
      by_cases h : 6 < m
      · rw [if_pos h, if_pos (by omega)]; rfl
      · rw [if_neg h, if_neg (by omega)]
    have e3 : fAdd (.int 1) (.int ((if 6 < m then 6 else m : Nat) : Int)) = some0 (.int ((1 + (if 6 < m then 6 else m) : Nat) : Int)) := by
      show some0 (.int (1 + _)) = _
      congr 2
    refine ⟨1 + (if 6 < m then 6 else m), ?_⟩
    generalize hk : 1 + (if 6 < m then 6 else m) = k at e3 ⊢
    have kl : k ≤ 7 := by rw [← hk]; split <;> omega
    have a2 : (k : Int) ≤ 4096 ∧ -4096 ≤ (k : Int) := by omega
    simp only [EL, iRange, sSeq, sIf, sRet, sNx, sSet, sPar, sTgt, sDrop, toT, rOr, rAnd, rNot, rIf, runN, run1, run2, rCons, rNil, rBor, rVar, rMov, rC, rChn, rDisp, rCall, rSlice, oNone, oSome, ret1, frc, frcs, onlyV, valO, Op.fz, mkO, boolOf, intOf, itemsOf, iSeq, tgN, T.ret_bind, T.ofOpt, retO, putO, flOf, some0, some1, Option.bind_some, Option.map_some, List.getElem?_cons_zero, List.getElem?_cons_succ, List.set_cons_zero, List.set_cons_succ, List.length_cons, List.length_nil, mkL, mkT, small, Bool.not_true, Bool.not_false, if_true, if_false, Bool.false_eq_true, ite_true, ite_false, Nat.reduceAdd, Nat.reduceLT, Nat.reduceLeDiff, e1, e2, e3, if_pos a2, Int.toNat_natCast]
  rw [it, T.ret_bind]
  refine wp_loop (fun _ en => ∃ t s3 s4 s5 s6 s7 s8 s9 s10, en = EL m t s3 s4 s5 s6 s7 s8 s9 s10) ?_ ?_ _ _ ⟨_, _, _, _, _, _, _, _, _, rfl⟩
  · rintro en ⟨t, s3, s4, s5, s6, s7, s8, s9, s10, rfl⟩
    exact ⟨_, rfl, wp_eq (x := (.rt (false, .bl true), EL m t s3 s4 s5 s6 s7 s8 s9 s10)) rfl ⟨false, rfl⟩⟩
  · rintro d _ en ⟨t, s3, s4, s5, s6, s7, s8, s9, s10, rfl⟩
    refine ⟨EL m (some (.fz, d)) s3 s4 s5 s6 s7 s8 s9 s10, rfl, T.wp_mono (al _) fun r ⟨e1, e2⟩ => .inl ⟨e1, ?_⟩⟩
    obtain ⟨a3, a4, a5, a6, a7, a8, a9, a10, q⟩ := e2
    exact ⟨_, a3, a4, a5, a6, a7, a8, a9, a10, q⟩
end Sx
set_option Elab.async false
set_option linter.all false
set_option maxRecDepth 100000
set_option maxHeartbeats 4000000
set_option autoImplicit false
open PySem PySem.W PyProof.Rows in
set_option maxRecDepth 100000 in
set_option maxHeartbeats 0 in
theorem PySem.Challenge.cw_strangerows_k08_errors_holds : PySem.Challenge.rw_strangerows_k08_errors.Holds := by
  w_on; o_law; k_head; (case hw => w_witness2)
  k_fill
  refine Sx.walkG (l := PySem.Challenge.rw_strangerows_k08_errors) (n := 63) (k := 4) (sp := fun K => Sx.spLaw K [] 12 Sx.r_law) (x := "_law_script") rfl (by decide) rfl ⟨rfl, by decide, by decide⟩ (fun w h Y => PySem.W.kIn_of Y) ?F (fun K G a ns hl hO hS => ⟨a, ns, rfl, hS, Sx.tabs_nil, Sx.none_nil, hl, Sx.law_true ns.length hl, fun _ => rfl⟩)
  case F =>
    intro w mg fa h KX G hmg
    refine' Sx.all_mk KX G hmg ?aE_FitError ?exF ?hdF ?tyF ?opq ?topS ?zS ?xhn ?xht ?aE_InvalidTable ?xE_InvalidTable ?al_InvalidTable ?sa_InvalidTable ?ga_InvalidTable ?gg_InvalidTable ?ca_InvalidTable ?iC_InvalidTable ?tC_InvalidTable ?kC_InvalidTable ?xC_InvalidTable ?vC_InvalidTable ?sC_InvalidTable ?ob_InvalidTable ?ty_InvalidTable ?hd_InvalidTable ?su_InvalidTable ?lE_InvalidTable ?cE_InvalidTable ?ce_InvalidTable ?co_InvalidTable ?v2_InvalidTable ?fi_InvalidTable ?no_InvalidTable ?kv_InvalidTable ?aE_UnknownItem ?xE_UnknownItem ?al_UnknownItem ?sa_UnknownItem ?ga_UnknownItem ?gg_UnknownItem ?ca_UnknownItem ?iC_UnknownItem ?tC_UnknownItem ?kC_UnknownItem ?xC_UnknownItem ?vC_UnknownItem ?sC_UnknownItem ?ob_UnknownItem ?ty_UnknownItem ?hd_UnknownItem ?su_UnknownItem ?lE_UnknownItem ?cE_UnknownItem ?ce_UnknownItem ?co_UnknownItem ?v2_UnknownItem ?fi_UnknownItem ?no_UnknownItem ?kv_UnknownItem ?aE_InvalidSet ?xE_InvalidSet ?al_InvalidSet ?sa_InvalidSet ?ga_InvalidSet ?gg_InvalidSet ?ca_InvalidSet ?iC_InvalidSet ?tC_InvalidSet ?kC_InvalidSet ?xC_InvalidSet ?vC_InvalidSet ?sC_InvalidSet ?ob_InvalidSet ?ty_InvalidSet ?hd_InvalidSet ?su_InvalidSet ?lE_InvalidSet ?cE_InvalidSet ?ce_InvalidSet ?co_InvalidSet ?v2_InvalidSet ?fi_InvalidSet ?kv_InvalidSet ?aE_InvalidFit ?xE_InvalidFit ?al_InvalidFit ?sa_InvalidFit ?ga_InvalidFit ?gg_InvalidFit ?ca_InvalidFit ?iC_InvalidFit ?tC_InvalidFit ?kC_InvalidFit ?xC_InvalidFit ?vC_InvalidFit ?sC_InvalidFit ?ob_InvalidFit ?ty_InvalidFit ?hd_InvalidFit ?su_InvalidFit ?lE_InvalidFit ?cE_InvalidFit ?ce_InvalidFit ?co_InvalidFit ?v2_InvalidFit ?fi_InvalidFit ?kv_InvalidFit ?aE_InvalidHints ?xE_InvalidHints ?al_InvalidHints ?sa_InvalidHints ?ga_InvalidHints ?gg_InvalidHints ?ca_InvalidHints ?iC_InvalidHints ?tC_InvalidHints ?kC_InvalidHints ?xC_InvalidHints ?vC_InvalidHints ?sC_InvalidHints ?ob_InvalidHints ?ty_InvalidHints ?hd_InvalidHints ?su_InvalidHints ?lE_InvalidHints ?cE_InvalidHints ?ce_InvalidHints ?co_InvalidHints ?v2_InvalidHints ?fi_InvalidHints ?no_InvalidHints ?kv_InvalidHints ?aE_NoFit ?xE_NoFit ?al_NoFit ?sa_NoFit ?ga_NoFit ?gg_NoFit ?ca_NoFit ?iC_NoFit ?tC_NoFit ?kC_NoFit ?xC_NoFit ?vC_NoFit ?sC_NoFit ?ob_NoFit ?ty_NoFit ?hd_NoFit ?su_NoFit ?lE_NoFit ?cE_NoFit ?ce_NoFit ?co_NoFit ?v2_NoFit ?fi_NoFit ?kv_NoFit ?aE_NotFound ?xE_NotFound ?al_NotFound ?sa_NotFound ?ga_NotFound ?gg_NotFound ?ca_NotFound ?iC_NotFound ?tC_NotFound ?kC_NotFound ?xC_NotFound ?vC_NotFound ?sC_NotFound ?ob_NotFound ?ty_NotFound ?hd_NotFound ?su_NotFound ?lE_NotFound ?cE_NotFound ?ce_NotFound ?co_NotFound ?v2_NotFound ?fi_NotFound ?kv_NotFound ?aE_InvalidEdit ?xE_InvalidEdit ?al_InvalidEdit ?sa_InvalidEdit ?ga_InvalidEdit ?gg_InvalidEdit ?ca_InvalidEdit ?iC_InvalidEdit ?tC_InvalidEdit ?kC_InvalidEdit ?xC_InvalidEdit ?vC_InvalidEdit ?sC_InvalidEdit ?ob_InvalidEdit ?ty_InvalidEdit ?hd_InvalidEdit ?su_InvalidEdit ?lE_InvalidEdit ?cE_InvalidEdit ?ce_InvalidEdit ?co_InvalidEdit ?v2_InvalidEdit ?fi_InvalidEdit ?kv_InvalidEdit ?aE_InvalidBlock ?xE_InvalidBlock ?al_InvalidBlock ?sa_InvalidBlock ?ga_InvalidBlock ?gg_InvalidBlock ?ca_InvalidBlock ?iC_InvalidBlock ?tC_InvalidBlock ?kC_InvalidBlock ?xC_InvalidBlock ?vC_InvalidBlock ?sC_InvalidBlock ?ob_InvalidBlock ?ty_InvalidBlock ?hd_InvalidBlock ?su_InvalidBlock ?lE_InvalidBlock ?cE_InvalidBlock ?ce_InvalidBlock ?co_InvalidBlock ?v2_InvalidBlock ?fi_InvalidBlock ?kv_InvalidBlock ?aE_InvalidText ?xE_InvalidText ?al_InvalidText ?sa_InvalidText ?ga_InvalidText ?gg_InvalidText ?ca_InvalidText ?iC_InvalidText ?tC_InvalidText ?kC_InvalidText ?xC_InvalidText ?vC_InvalidText ?sC_InvalidText ?ob_InvalidText ?ty_InvalidText ?hd_InvalidText ?su_InvalidText ?lE_InvalidText ?cE_InvalidText ?ce_InvalidText ?co_InvalidText ?v2_InvalidText ?fi_InvalidText ?no_InvalidText ?kv_InvalidText ?ki_InvalidTable_FitError ?ki_UnknownItem_FitError ?ki_InvalidSet_FitError ?ki_InvalidFit_FitError ?ki_InvalidHints_FitError ?ki_NoFit_FitError ?ki_NotFound_FitError ?ki_InvalidEdit_FitError ?ki_InvalidBlock_FitError ?ki_InvalidText_FitError ?kn_FitError ?ki_InvalidTable_InvalidBlock ?ki_UnknownItem_InvalidBlock ?ki_InvalidSet_InvalidBlock ?ki_InvalidFit_InvalidBlock ?ki_InvalidHints_InvalidBlock ?ki_NoFit_InvalidBlock ?ki_NotFound_InvalidBlock ?ki_InvalidEdit_InvalidBlock ?ki_InvalidBlock_InvalidBlock ?ki_InvalidText_InvalidBlock ?kn_InvalidBlock ?ki_InvalidTable_InvalidEdit ?ki_UnknownItem_InvalidEdit ?ki_InvalidSet_InvalidEdit ?ki_InvalidFit_InvalidEdit ?ki_InvalidHints_InvalidEdit ?ki_NoFit_InvalidEdit ?ki_NotFound_InvalidEdit ?ki_InvalidEdit_InvalidEdit ?ki_InvalidBlock_InvalidEdit ?ki_InvalidText_InvalidEdit ?kn_InvalidEdit ?ki_InvalidTable_InvalidFit ?ki_UnknownItem_InvalidFit ?ki_InvalidSet_InvalidFit ?ki_InvalidFit_InvalidFit ?ki_InvalidHints_InvalidFit ?ki_NoFit_InvalidFit ?ki_NotFound_InvalidFit ?ki_InvalidEdit_InvalidFit ?ki_InvalidBlock_InvalidFit ?ki_InvalidText_InvalidFit ?kn_InvalidFit ?ki_InvalidTable_InvalidHints ?ki_UnknownItem_InvalidHints ?ki_InvalidSet_InvalidHints ?ki_InvalidFit_InvalidHints ?ki_InvalidHints_InvalidHints ?ki_NoFit_InvalidHints ?ki_NotFound_InvalidHints ?ki_InvalidEdit_InvalidHints ?ki_InvalidBlock_InvalidHints ?ki_InvalidText_InvalidHints ?kn_InvalidHints ?ki_InvalidTable_InvalidSet ?ki_UnknownItem_InvalidSet ?ki_InvalidSet_InvalidSet ?ki_InvalidFit_InvalidSet ?ki_InvalidHints_InvalidSet ?ki_NoFit_InvalidSet ?ki_NotFound_InvalidSet ?ki_InvalidEdit_InvalidSet ?ki_InvalidBlock_InvalidSet ?ki_InvalidText_InvalidSet ?kn_InvalidSet ?ki_InvalidTable_InvalidTable ?ki_UnknownItem_InvalidTable ?ki_InvalidSet_InvalidTable ?ki_InvalidFit_InvalidTable ?ki_InvalidHints_InvalidTable ?ki_NoFit_InvalidTable ?ki_NotFound_InvalidTable ?ki_InvalidEdit_InvalidTable ?ki_InvalidBlock_InvalidTable ?ki_InvalidText_InvalidTable ?kn_InvalidTable ?ki_InvalidTable_InvalidText ?ki_UnknownItem_InvalidText ?ki_InvalidSet_InvalidText ?ki_InvalidFit_InvalidText ?ki_InvalidHints_InvalidText ?ki_NoFit_InvalidText ?ki_NotFound_InvalidText ?ki_InvalidEdit_InvalidText ?ki_InvalidBlock_InvalidText ?ki_InvalidText_InvalidText ?kn_InvalidText ?ki_InvalidTable_NoFit ?ki_UnknownItem_NoFit ?ki_InvalidSet_NoFit ?ki_InvalidFit_NoFit ?ki_InvalidHints_NoFit ?ki_NoFit_NoFit ?ki_NotFound_NoFit ?ki_InvalidEdit_NoFit ?ki_InvalidBlock_NoFit ?ki_InvalidText_NoFit ?kn_NoFit ?ki_InvalidTable_NotFound ?ki_UnknownItem_NotFound ?ki_InvalidSet_NotFound ?ki_InvalidFit_NotFound ?ki_InvalidHints_NotFound ?ki_NoFit_NotFound ?ki_NotFound_NotFound ?ki_InvalidEdit_NotFound ?ki_InvalidBlock_NotFound ?ki_InvalidText_NotFound ?kn_NotFound ?ki_InvalidTable_UnknownItem ?ki_UnknownItem_UnknownItem ?ki_InvalidSet_UnknownItem ?ki_InvalidFit_UnknownItem ?ki_InvalidHints_UnknownItem ?ki_NoFit_UnknownItem ?ki_NotFound_UnknownItem ?ki_InvalidEdit_UnknownItem ?ki_InvalidBlock_UnknownItem ?ki_InvalidText_UnknownItem ?kn_UnknownItem ?a0 ?l0 ?c0 ?k0 ?a1 ?l1 ?c1 ?k1 ?a2 ?l2 ?c2 ?k2 ?a3 ?l3 ?c3 ?k3 ?a4 ?l4 ?c4 ?k4 ?z_ValueError ?z_abs ?z_enumerate ?z_int ?z_isinstance ?z_len ?z_min ?z_range ?z_repr
    (case aE_FitError => k_is)
    (case exF => k_is)
    (case hdF => k_is)
    (case tyF => k_is)
    (case opq => k_is)
    (case topS => first | rfl | k_is)
    (case zS => k_is)
    (case xhn => k_is)
    (case xht => k_is)
    (case aE_InvalidTable => k_is)
    (case xE_InvalidTable => k_is)
    (case al_InvalidTable => first | k_is | kernel_rfl)
    (case sa_InvalidTable => k_is)
    (case ga_InvalidTable => k_is)
    (case gg_InvalidTable => k_is)
    (case ca_InvalidTable => k_is)
    (case iC_InvalidTable => k_is)
    (case tC_InvalidTable => k_is)
    (case kC_InvalidTable => k_is)
    (case xC_InvalidTable => k_is)
    (case vC_InvalidTable => k_is)
    (case sC_InvalidTable => first | rfl | k_is)
    (case ob_InvalidTable => k_is)
    (case ty_InvalidTable => k_is)
    (case hd_InvalidTable => k_is)
    (case su_InvalidTable => k_is)
    (case lE_InvalidTable => k_is)
    (case cE_InvalidTable => k_is)
    (case ce_InvalidTable => k_is)
    (case co_InvalidTable => k_is)
    (case v2_InvalidTable => first | rfl | k_is)
    (case fi_InvalidTable => first | rfl | k_is)
    (case no_InvalidTable => k_is)
    (case kv_InvalidTable => first | k_is | kernel_rfl)
    (case aE_UnknownItem => k_is)
    (case xE_UnknownItem => k_is)
    (case al_UnknownItem => first | k_is | kernel_rfl)
    (case sa_UnknownItem => k_is)
    (case ga_UnknownItem => k_is)
    (case gg_UnknownItem => k_is)
    (case ca_UnknownItem => k_is)
    (case iC_UnknownItem => k_is)
    (case tC_UnknownItem => k_is)
    (case kC_UnknownItem => k_is)
    (case xC_UnknownItem => k_is)
    (case vC_UnknownItem => k_is)
    (case sC_UnknownItem => first | rfl | k_is)
    (case ob_UnknownItem => k_is)
    (case ty_UnknownItem => k_is)
    (case hd_UnknownItem => k_is)
    (case su_UnknownItem => k_is)
    (case lE_UnknownItem => k_is)
    (case cE_UnknownItem => k_is)
    (case ce_UnknownItem => k_is)
    (case co_UnknownItem => k_is)
    (case v2_UnknownItem => first | rfl | k_is)
    (case fi_UnknownItem => first | rfl | k_is)
    (case no_UnknownItem => k_is)
    (case kv_UnknownItem => first | k_is | kernel_rfl)
    (case aE_InvalidSet => k_is)
    (case xE_InvalidSet => k_is)
    (case al_InvalidSet => first | k_is | kernel_rfl)
    (case sa_InvalidSet => k_is)
    (case ga_InvalidSet => k_is)
    (case gg_InvalidSet => k_is)
    (case ca_InvalidSet => k_is)
    (case iC_InvalidSet => k_is)
    (case tC_InvalidSet => k_is)
    (case kC_InvalidSet => k_is)
    (case xC_InvalidSet => k_is)
    (case vC_InvalidSet => k_is)
    (case sC_InvalidSet => first | rfl | k_is)
    (case ob_InvalidSet => k_is)
    (case ty_InvalidSet => k_is)
    (case hd_InvalidSet => k_is)
    (case su_InvalidSet => k_is)
    (case lE_InvalidSet => k_is)
    (case cE_InvalidSet => k_is)
    (case ce_InvalidSet => k_is)
    (case co_InvalidSet => k_is)
    (case v2_InvalidSet => first | rfl | k_is)
    (case fi_InvalidSet => first | rfl | k_is)
    (case kv_InvalidSet => first | k_is | kernel_rfl)
    (case aE_InvalidFit => k_is)
    (case xE_InvalidFit => k_is)
    (case al_InvalidFit => first | k_is | kernel_rfl)
    (case sa_InvalidFit => k_is)
    (case ga_InvalidFit => k_is)
    (case gg_InvalidFit => k_is)
    (case ca_InvalidFit => k_is)
    (case iC_InvalidFit => k_is)
    (case tC_InvalidFit => k_is)
    (case kC_InvalidFit => k_is)
    (case xC_InvalidFit => k_is)
    (case vC_InvalidFit => k_is)
    (case sC_InvalidFit => first | rfl | k_is)
    (case ob_InvalidFit => k_is)
    (case ty_InvalidFit => k_is)
    (case hd_InvalidFit => k_is)
    (case su_InvalidFit => k_is)
    (case lE_InvalidFit => k_is)
    (case cE_InvalidFit => k_is)
    (case ce_InvalidFit => k_is)
    (case co_InvalidFit => k_is)
    (case v2_InvalidFit => first | rfl | k_is)
    (case fi_InvalidFit => first | rfl | k_is)
    (case kv_InvalidFit => first | k_is | kernel_rfl)
    (case aE_InvalidHints => k_is)
    (case xE_InvalidHints => k_is)
    (case al_InvalidHints => first | k_is | kernel_rfl)
    (case sa_InvalidHints => k_is)
    (case ga_InvalidHints => k_is)
    (case gg_InvalidHints => k_is)
    (case ca_InvalidHints => k_is)
    (case iC_InvalidHints => k_is)
    (case tC_InvalidHints => k_is)
    (case kC_InvalidHints => k_is)
    (case xC_InvalidHints => k_is)
    (case vC_InvalidHints => k_is)
    (case sC_InvalidHints => first | rfl | k_is)
    (case ob_InvalidHints => k_is)
    (case ty_InvalidHints => k_is)
    (case hd_InvalidHints => k_is)
    (case su_InvalidHints => k_is)
    (case lE_InvalidHints => k_is)
    (case cE_InvalidHints => k_is)
    (case ce_InvalidHints => k_is)
    (case co_InvalidHints => k_is)
    (case v2_InvalidHints => first | rfl | k_is)
    (case fi_InvalidHints => first | rfl | k_is)
    (case no_InvalidHints => k_is)
    (case kv_InvalidHints => first | k_is | kernel_rfl)
    (case aE_NoFit => k_is)
    (case xE_NoFit => k_is)
    (case al_NoFit => first | k_is | kernel_rfl)
    (case sa_NoFit => k_is)
    (case ga_NoFit => k_is)
    (case gg_NoFit => k_is)
    (case ca_NoFit => k_is)
    (case iC_NoFit => k_is)
    (case tC_NoFit => k_is)
    (case kC_NoFit => k_is)
    (case xC_NoFit => k_is)
    (case vC_NoFit => k_is)
    (case sC_NoFit => first | rfl | k_is)
    (case ob_NoFit => k_is)
    (case ty_NoFit => k_is)
    (case hd_NoFit => k_is)
    (case su_NoFit => k_is)
    (case lE_NoFit => k_is)
    (case cE_NoFit => k_is)
    (case ce_NoFit => k_is)
    (case co_NoFit => k_is)
    (case v2_NoFit => first | rfl | k_is)
    (case fi_NoFit => first | rfl | k_is)
    (case kv_NoFit => first | k_is | kernel_rfl)
    (case aE_NotFound => k_is)
    (case xE_NotFound => k_is)
    (case al_NotFound => first | k_is | kernel_rfl)
    (case sa_NotFound => k_is)
    (case ga_NotFound => k_is)
    (case gg_NotFound => k_is)
    (case ca_NotFound => k_is)
    (case iC_NotFound => k_is)
    (case tC_NotFound => k_is)
    (case kC_NotFound => k_is)
    (case xC_NotFound => k_is)
    (case vC_NotFound => k_is)
    (case sC_NotFound => first | rfl | k_is)
    (case ob_NotFound => k_is)
    (case ty_NotFound => k_is)
    (case hd_NotFound => k_is)
    (case su_NotFound => k_is)
    (case lE_NotFound => k_is)
    (case cE_NotFound => k_is)
    (case ce_NotFound => k_is)
    (case co_NotFound => k_is)
    (case v2_NotFound => first | rfl | k_is)
    (case fi_NotFound => first | rfl | k_is)
    (case kv_NotFound => first | k_is | kernel_rfl)
    (case aE_InvalidEdit => k_is)
    (case xE_InvalidEdit => k_is)
    (case al_InvalidEdit => first | k_is | kernel_rfl)
    (case sa_InvalidEdit => k_is)
    (case ga_InvalidEdit => k_is)
    (case gg_InvalidEdit => k_is)
    (case ca_InvalidEdit => k_is)
    (case iC_InvalidEdit => k_is)
    (case tC_InvalidEdit => k_is)
    (case kC_InvalidEdit => k_is)
    (case xC_InvalidEdit => k_is)
    (case vC_InvalidEdit => k_is)
    (case sC_InvalidEdit => first | rfl | k_is)
    (case ob_InvalidEdit => k_is)
    (case ty_InvalidEdit => k_is)
    (case hd_InvalidEdit => k_is)
    (case su_InvalidEdit => k_is)
    (case lE_InvalidEdit => k_is)
    (case cE_InvalidEdit => k_is)
    (case ce_InvalidEdit => k_is)
    (case co_InvalidEdit => k_is)
    (case v2_InvalidEdit => first | rfl | k_is)
    (case fi_InvalidEdit => first | rfl | k_is)
    (case kv_InvalidEdit => first | k_is | kernel_rfl)
    (case aE_InvalidBlock => k_is)
    (case xE_InvalidBlock => k_is)
    (case al_InvalidBlock => first | k_is | kernel_rfl)
    (case sa_InvalidBlock => k_is)
    (case ga_InvalidBlock => k_is)
    (case gg_InvalidBlock => k_is)
    (case ca_InvalidBlock => k_is)
    (case iC_InvalidBlock => k_is)
    (case tC_InvalidBlock => k_is)
    (case kC_InvalidBlock => k_is)
    (case xC_InvalidBlock => k_is)
    (case vC_InvalidBlock => k_is)
    (case sC_InvalidBlock => first | rfl | k_is)
    (case ob_InvalidBlock => k_is)
    (case ty_InvalidBlock => k_is)
    (case hd_InvalidBlock => k_is)
    (case su_InvalidBlock => k_is)
    (case lE_InvalidBlock => k_is)
    (case cE_InvalidBlock => k_is)
    (case ce_InvalidBlock => k_is)
    (case co_InvalidBlock => k_is)
    (case v2_InvalidBlock => first | rfl | k_is)
    (case fi_InvalidBlock => first | rfl | k_is)
    (case kv_InvalidBlock => first | k_is | kernel_rfl)
    (case aE_InvalidText => k_is)
    (case xE_InvalidText => k_is)
    (case al_InvalidText => first | k_is | kernel_rfl)
    (case sa_InvalidText => k_is)
    (case ga_InvalidText => k_is)
    (case gg_InvalidText => k_is)
    (case ca_InvalidText => k_is)
    (case iC_InvalidText => k_is)
    (case tC_InvalidText => k_is)
    (case kC_InvalidText => k_is)
    (case xC_InvalidText => k_is)
    (case vC_InvalidText => k_is)
    (case sC_InvalidText => first | rfl | k_is)
    (case ob_InvalidText => k_is)
    (case ty_InvalidText => k_is)
    (case hd_InvalidText => k_is)
    (case su_InvalidText => k_is)
    (case lE_InvalidText => k_is)
    (case cE_InvalidText => k_is)
    (case ce_InvalidText => k_is)
    (case co_InvalidText => k_is)
    (case v2_InvalidText => first | rfl | k_is)
    (case fi_InvalidText => first | rfl | k_is)
    (case no_InvalidText => k_is)
    (case kv_InvalidText => first | k_is | kernel_rfl)
    (case ki_InvalidTable_FitError => first | k_is | kernel_rfl)
    (case ki_UnknownItem_FitError => first | k_is | kernel_rfl)
    (case ki_InvalidSet_FitError => first | k_is | kernel_rfl)
    (case ki_InvalidFit_FitError => first | k_is | kernel_rfl)
    (case ki_InvalidHints_FitError => first | k_is | kernel_rfl)
    (case ki_NoFit_FitError => first | k_is | kernel_rfl)
    (case ki_NotFound_FitError => first | k_is | kernel_rfl)
    (case ki_InvalidEdit_FitError => first | k_is | kernel_rfl)
    (case ki_InvalidBlock_FitError => first | k_is | kernel_rfl)
    (case ki_InvalidText_FitError => first | k_is | kernel_rfl)
    (case kn_FitError => first | k_is | kernel_rfl)
    (case ki_InvalidTable_InvalidBlock => first | k_is | kernel_rfl)
    (case ki_UnknownItem_InvalidBlock => first | k_is | kernel_rfl)
    (case ki_InvalidSet_InvalidBlock => first | k_is | kernel_rfl)
    (case ki_InvalidFit_InvalidBlock => first | k_is | kernel_rfl)
    (case ki_InvalidHints_InvalidBlock => first | k_is | kernel_rfl)
    (case ki_NoFit_InvalidBlock => first | k_is | kernel_rfl)
    (case ki_NotFound_InvalidBlock => first | k_is | kernel_rfl)
    (case ki_InvalidEdit_InvalidBlock => first | k_is | kernel_rfl)
    (case ki_InvalidBlock_InvalidBlock => first | k_is | kernel_rfl)
    (case ki_InvalidText_InvalidBlock => first | k_is | kernel_rfl)
    (case kn_InvalidBlock => first | k_is | kernel_rfl)
    (case ki_InvalidTable_InvalidEdit => first | k_is | kernel_rfl)
    (case ki_UnknownItem_InvalidEdit => first | k_is | kernel_rfl)
    (case ki_InvalidSet_InvalidEdit => first | k_is | kernel_rfl)
    (case ki_InvalidFit_InvalidEdit => first | k_is | kernel_rfl)
    (case ki_InvalidHints_InvalidEdit => first | k_is | kernel_rfl)
    (case ki_NoFit_InvalidEdit => first | k_is | kernel_rfl)
    (case ki_NotFound_InvalidEdit => first | k_is | kernel_rfl)
    (case ki_InvalidEdit_InvalidEdit => first | k_is | kernel_rfl)
    (case ki_InvalidBlock_InvalidEdit => first | k_is | kernel_rfl)
    (case ki_InvalidText_InvalidEdit => first | k_is | kernel_rfl)
    (case kn_InvalidEdit => first | k_is | kernel_rfl)
    (case ki_InvalidTable_InvalidFit => first | k_is | kernel_rfl)
    (case ki_UnknownItem_InvalidFit => first | k_is | kernel_rfl)
    (case ki_InvalidSet_InvalidFit => first | k_is | kernel_rfl)
    (case ki_InvalidFit_InvalidFit => first | k_is | kernel_rfl)
    (case ki_InvalidHints_InvalidFit => first | k_is | kernel_rfl)
    (case ki_NoFit_InvalidFit => first | k_is | kernel_rfl)
    (case ki_NotFound_InvalidFit => first | k_is | kernel_rfl)
    (case ki_InvalidEdit_InvalidFit => first | k_is | kernel_rfl)
    (case ki_InvalidBlock_InvalidFit => first | k_is | kernel_rfl)
    (case ki_InvalidText_InvalidFit => first | k_is | kernel_rfl)
    (case kn_InvalidFit => first | k_is | kernel_rfl)
    (case ki_InvalidTable_InvalidHints => first | k_is | kernel_rfl)
    (case ki_UnknownItem_InvalidHints => first | k_is | kernel_rfl)
    (case ki_InvalidSet_InvalidHints => first | k_is | kernel_rfl)
    (case ki_InvalidFit_InvalidHints => first | k_is | kernel_rfl)
    (case ki_InvalidHints_InvalidHints => first | k_is | kernel_rfl)
    (case ki_NoFit_InvalidHints => first | k_is | kernel_rfl)
    (case ki_NotFound_InvalidHints => first | k_is | kernel_rfl)
    (case ki_InvalidEdit_InvalidHints => first | k_is | kernel_rfl)
    (case ki_InvalidBlock_InvalidHints => first | k_is | kernel_rfl)
    (case ki_InvalidText_InvalidHints => first | k_is | kernel_rfl)
    (case kn_InvalidHints => first | k_is | kernel_rfl)
    (case ki_InvalidTable_InvalidSet => first | k_is | kernel_rfl)
    (case ki_UnknownItem_InvalidSet => first | k_is | kernel_rfl)
    (case ki_InvalidSet_InvalidSet => first | k_is | kernel_rfl)
    (case ki_InvalidFit_InvalidSet => first | k_is | kernel_rfl)
    (case ki_InvalidHints_InvalidSet => first | k_is | kernel_rfl)
    (case ki_NoFit_InvalidSet => first | k_is | kernel_rfl)
    (case ki_NotFound_InvalidSet => first | k_is | kernel_rfl)
    (case ki_InvalidEdit_InvalidSet => first | k_is | kernel_rfl)
    (case ki_InvalidBlock_InvalidSet => first | k_is | kernel_rfl)
    (case ki_InvalidText_InvalidSet => first | k_is | kernel_rfl)
    (case kn_InvalidSet => first | k_is | kernel_rfl)
    (case ki_InvalidTable_InvalidTable => first | k_is | kernel_rfl)
    (case ki_UnknownItem_InvalidTable => first | k_is | kernel_rfl)
    (case ki_InvalidSet_InvalidTable => first | k_is | kernel_rfl)
    (case ki_InvalidFit_InvalidTable => first | k_is | kernel_rfl)
    (case ki_InvalidHints_InvalidTable => first | k_is | kernel_rfl)
    (case ki_NoFit_InvalidTable => first | k_is | kernel_rfl)
    (case ki_NotFound_InvalidTable => first | k_is | kernel_rfl)
    (case ki_InvalidEdit_InvalidTable => first | k_is | kernel_rfl)
    (case ki_InvalidBlock_InvalidTable => first | k_is | kernel_rfl)
    (case ki_InvalidText_InvalidTable => first | k_is | kernel_rfl)
    (case kn_InvalidTable => first | k_is | kernel_rfl)
    (case ki_InvalidTable_InvalidText => first | k_is | kernel_rfl)
    (case ki_UnknownItem_InvalidText => first | k_is | kernel_rfl)
    (case ki_InvalidSet_InvalidText => first | k_is | kernel_rfl)
    (case ki_InvalidFit_InvalidText => first | k_is | kernel_rfl)
    (case ki_InvalidHints_InvalidText => first | k_is | kernel_rfl)
    (case ki_NoFit_InvalidText => first | k_is | kernel_rfl)
    (case ki_NotFound_InvalidText => first | k_is | kernel_rfl)
    (case ki_InvalidEdit_InvalidText => first | k_is | kernel_rfl)
    (case ki_InvalidBlock_InvalidText => first | k_is | kernel_rfl)
    (case ki_InvalidText_InvalidText => first | k_is | kernel_rfl)
    (case kn_InvalidText => first | k_is | kernel_rfl)
    (case ki_InvalidTable_NoFit => first | k_is | kernel_rfl)
    (case ki_UnknownItem_NoFit => first | k_is | kernel_rfl)
    (case ki_InvalidSet_NoFit => first | k_is | kernel_rfl)
    (case ki_InvalidFit_NoFit => first | k_is | kernel_rfl)
    (case ki_InvalidHints_NoFit => first | k_is | kernel_rfl)
    (case ki_NoFit_NoFit => first | k_is | kernel_rfl)
    (case ki_NotFound_NoFit => first | k_is | kernel_rfl)
    (case ki_InvalidEdit_NoFit => first | k_is | kernel_rfl)
    (case ki_InvalidBlock_NoFit => first | k_is | kernel_rfl)
    (case ki_InvalidText_NoFit => first | k_is | kernel_rfl)
    (case kn_NoFit => first | k_is | kernel_rfl)
    (case ki_InvalidTable_NotFound => first | k_is | kernel_rfl)
    (case ki_UnknownItem_NotFound => first | k_is | kernel_rfl)
    (case ki_InvalidSet_NotFound => first | k_is | kernel_rfl)
    (case ki_InvalidFit_NotFound => first | k_is | kernel_rfl)
    (case ki_InvalidHints_NotFound => first | k_is | kernel_rfl)
    (case ki_NoFit_NotFound => first | k_is | kernel_rfl)
    (case ki_NotFound_NotFound => first | k_is | kernel_rfl)
    (case ki_InvalidEdit_NotFound => first | k_is | kernel_rfl)
    (case ki_InvalidBlock_NotFound => first | k_is | kernel_rfl)
    (case ki_InvalidText_NotFound => first | k_is | kernel_rfl)
    (case kn_NotFound => first | k_is | kernel_rfl)
    (case ki_InvalidTable_UnknownItem => first | k_is | kernel_rfl)
    (case ki_UnknownItem_UnknownItem => first | k_is | kernel_rfl)
    (case ki_InvalidSet_UnknownItem => first | k_is | kernel_rfl)
    (case ki_InvalidFit_UnknownItem => first | k_is | kernel_rfl)
    (case ki_InvalidHints_UnknownItem => first | k_is | kernel_rfl)
    (case ki_NoFit_UnknownItem => first | k_is | kernel_rfl)
    (case ki_NotFound_UnknownItem => first | k_is | kernel_rfl)
    (case ki_InvalidEdit_UnknownItem => first | k_is | kernel_rfl)
    (case ki_InvalidBlock_UnknownItem => first | k_is | kernel_rfl)
    (case ki_InvalidText_UnknownItem => first | k_is | kernel_rfl)
    (case kn_UnknownItem => first | k_is | kernel_rfl)
    (case a0 => k_is)
    (case l0 => k_is)
    (case c0 => k_is)
    (case k0 => k_is)
    (case a1 => k_is)
    (case l1 => k_is)
    (case c1 => k_is)
    (case k1 => k_is)
    (case a2 => k_is)
    (case l2 => k_is)
    (case c2 => k_is)
    (case k2 => k_is)
    (case a3 => k_is)
    (case l3 => k_is)
    (case c3 => k_is)
    (case k3 => k_is)
    (case a4 => k_is)
    (case l4 => k_is)
    (case c4 => k_is)
    (case k4 => k_is)
    (case z_ValueError => k_is)
    (case z_abs => k_is)
    (case z_enumerate => k_is)
    (case z_int => k_is)
    (case z_isinstance => k_is)
    (case z_len => k_is)
    (case z_min => k_is)
    (case z_range => k_is)
    (case z_repr => k_is)
