import PyProof.Rows.All
import Wide.All
import OpenK.AllK
import Wide.FinOn
import HandS.ForMost
import HandS.Deep
import HandS.TupAny
import HandS.TupMul
import HandS.TupLe
import HandS.IsInst
import HandS.Zip
import HandS.RaiseMore
import KE.DataEq
import KE.DataCmp
import KE.SortData
import HandS.Style
import HandS.Wide
import HandS.Strs
import PyProof.ReprBulk
import HandS.Flow
import HandS.Property
import HandS.Codes
import HandS.More
import HandS.Conv
import HandS.DictComp
import KE.GoesEnum
import KE.GoesMore
import HandS.DictEq
import PySem.Challenge.RW_strangerows_k19_derivations_judged
set_option Elab.async false
set_option linter.all false
set_option maxRecDepth 100000
set_option maxHeartbeats 4000000
namespace Sx
open PySem L2

/-! ### trees of draws -/
inductive T (α : Type) where
  | ret (a : α) | fail | ch (n : Nat) (k : Nat → T α)
namespace T
variable {α β γ : Type}
def bind : T α → (α → T β) → T β
  | .ret a, f => f a
  | .fail, _ => .fail
  | .ch n k, f => .ch n fun i => (k i).bind f
def wp : T α → (α → Prop) → Prop
  | .ret a, Q => Q a
  | .fail, _ => False
  | .ch n k, Q => ∀ i, i < n → (k i).wp Q
theorem wp_bind (t : T α) (f : α → T β) (Q : β → Prop) : (t.bind f).wp Q ↔ t.wp (fun a => (f a).wp Q) := by
  induction t with
  | ret a => exact Iff.rfl
  | fail => exact Iff.rfl
  | ch n k ih => exact ⟨fun h i hi => (ih i).mp (h i hi), fun h i hi => (ih i).mpr (h i hi)⟩
theorem wp_mono {t : T α} {Q R : α → Prop} (h : t.wp Q) (m : ∀ a, Q a → R a) : t.wp R := by
  induction t with
  | ret a => exact m a h
  | fail => exact h
  | ch n k ih => exact fun i hi => ih i (h i hi)
def ofOpt : Option α → T α
  | some a => .ret a
  | none => .fail
theorem wp_ofOpt {o : Option α} {Q : α → Prop} (h : (ofOpt o).wp Q) : ∃ a, o = some a ∧ Q a := by
  cases o with
  | none => exact h.elim
  | some a => exact ⟨a, rfl, h⟩
theorem bind_ret (t : T α) : t.bind .ret = t := by
  induction t with
  | ret a => rfl
  | fail => rfl
  | ch n k ih => show T.ch n _ = _; congr; funext i; exact ih i
theorem bind_assoc (t : T α) (f : α → T β) (g : β → T γ) : (t.bind f).bind g = t.bind fun a => (f a).bind g := by
  induction t with
  | ret a => rfl
  | fail => rfl
  | ch n k ih => show T.ch n _ = T.ch n _; congr; funext i; exact ih i
@[simp] theorem ret_bind (a : α) (f : α → T β) : (T.ret a).bind f = f a := rfl
@[simp] theorem fail_bind (f : α → T β) : (T.fail).bind f = .fail := rfl
end T

/-! ### data -/
inductive D where
  | non | bl (b : Bool) | int (i : Int) | str (x : Str)
  | lst (xs : List D) | tup (xs : List D)
  | dK (kvs : List (Key × D)) | dT (kvs : List (List Key × D))
  | obj (c : Nat) (fs : List (Str × D))
  | scr (n : Nat) | drw
  | ty (n : String) | cl (c : Nat)
instance : Inhabited D := ⟨.non⟩

/-- what is fixed for a law: the written part, the two lists of the draws, the classes -/
structure Wd where
  K : PySem.W.Frag
  da : Addr
  db : Addr
  cls : Nat → Addr

/-- a written tuple -/
def Wr (W : Wd) (a : Addr) (xs : List V) : Prop := SqT W.K (fun _ => none) a xs
/-- the object at the top is in S (but for the draws; a tuple always is) -/
def Tin (S : Addr → Prop) : V → D → Prop
  | _, .drw => True
  | _, .scr _ => True
  | _, .tup _ => True
  | _, .cl _ => True
  | .ref a, _ => S a
  | _, _ => True
mutual
/-- v stands for the data d in the heap H; all objects within (not the one at the top) are in S -/
inductive Dv (W : Wd) (S : Addr → Prop) (H : Hp) : V → D → Prop
  | non : Dv W S H .non .non
  | bl (b : Bool) : Dv W S H (.bl b) (.bl b)
  | int (i : Int) : Dv W S H (.int i) (.int i)
  | str (x : Str) : Dv W S H (.str x) (.str x)
  | lst {a : Addr} {xs : List V} {ds : List D} : H a = some (.lst xs) → DvL W S H xs ds → Dv W S H (.ref a) (.lst ds)
  | tup {a : Addr} {xs : List V} {ds : List D} : (S a ∧ H a = some (.tup xs)) ∨ Wr W a xs → DvL W S H xs ds → Dv W S H (.ref a) (.tup ds)
  | dK {a : Addr} {kvs : List (Key × V)} {ds : List (Key × D)} : Rd H a (.dK kvs) → DvP W S H kvs ds → Dv W S H (.ref a) (.dK ds)
  | dT {a : Addr} {kvs : List (List Key × V)} {ds : List (List Key × D)} : H a = some (.dT kvs) → DvP W S H kvs ds → Dv W S H (.ref a) (.dT ds)
  | obj {a dx : Addr} {c : Nat} {fs : List (Str × V)} {ds : List (Str × D)} : H a = some (.ins (W.cls c) dx fs) → DvP W S H fs ds → Dv W S H (.ref a) (.obj c ds)
  | scr {a : Addr} {xs : List V} : (S a ∧ SqL W.K H a xs) ∨ (∀ G : Hp, SqL W.K G a xs) → Dv W S H (.ref a) (.scr xs.length)
  | drw : Dv W S H (.ref W.da) .drw
  | ty (n : String) : Dv W S H (.ty n) (.ty n)
  | cl (c : Nat) : Dv W S H (.ref (W.cls c)) (.cl c)
inductive DvL (W : Wd) (S : Addr → Prop) (H : Hp) : List V → List D → Prop
  | nil : DvL W S H [] []
  | cons {v : V} {vs : List V} {d : D} {ds : List D} : Tin S v d → Dv W S H v d → DvL W S H vs ds → DvL W S H (v :: vs) (d :: ds)
inductive DvP (W : Wd) (S : Addr → Prop) (H : Hp) : {κ : Type} → List (κ × V) → List (κ × D) → Prop
  | nil {κ : Type} : DvP W S H (κ := κ) [] []
  | cons {κ : Type} {k : κ} {v : V} {vs : List (κ × V)} {d : D} {ds : List (κ × D)} : Tin S v d → Dv W S H v d → DvP W S H vs ds → DvP W S H ((k, v) :: vs) ((k, d) :: ds)
end
/-- frozen -/
def Dz (W : Wd) (S : Addr → Prop) (H : Hp) (v : V) (d : D) : Prop := Tin S v d ∧ Dv W S H v d

theorem SqL.at {K : PySem.W.Frag} {H H' : Hp} {a : Addr} {xs : List V} (e : H' a = H a) (h : SqL K H a xs) : SqL K H' a xs := by
  rcases h with (h | ⟨o, h⟩) | h
  · exact .inl (.inl (by rw [e]; exact h))
  · exact .inl (.inr ⟨o, by rw [e]; exact h⟩)
  · exact .inr h
theorem rd_at {H H' : Hp} {a : Addr} {u : HO} (e : H' a = H a) (h : Rd H a u) : Rd H' a u := by
  unfold Rd
  rw [e]
  exact h
theorem Tin.mono {S S' : Addr → Prop} (hS : ∀ a, S a → S' a) : ∀ {v : V} {d : D}, Tin S v d → Tin S' v d := by
  intro v d h
  cases v <;> cases d <;> first | exact trivial | exact hS _ h
mutual
theorem Dv.mono {W : Wd} {S S' : Addr → Prop} {H H' : Hp} (hS : ∀ a, S a → S' a) (hH : ∀ a, S a → H' a = H a) : ∀ {v : V} {d : D}, Dv W S H v d → Tin (fun a => H' a = H a) v d → Dv W S' H' v d
  | _, _, .non, _ => .non
  | _, _, .bl b, _ => .bl b
  | _, _, .int i, _ => .int i
  | _, _, .str x, _ => .str x
  | _, _, .lst h r, t => .lst (Eq.trans t h) (DvL.mono hS hH r)
  | _, _, .tup h r, t => .tup (h.imp (fun ⟨s, q⟩ => ⟨hS _ s, (hH _ s).trans q⟩) id) (DvL.mono hS hH r)
  | _, _, .dK h r, t => .dK (rd_at t h) (DvP.mono hS hH r)
  | _, _, .dT h r, t => .dT (Eq.trans t h) (DvP.mono hS hH r)
  | _, _, .obj h r, t => .obj (Eq.trans t h) (DvP.mono hS hH r)
  | _, _, .scr h, t => .scr (h.imp (fun ⟨s, q⟩ => ⟨hS _ s, SqL.at (hH _ s) q⟩) id)
  | _, _, .drw, _ => .drw
  | _, _, .ty n, _ => .ty n
  | _, _, .cl c, _ => .cl c
theorem DvL.mono {W : Wd} {S S' : Addr → Prop} {H H' : Hp} (hS : ∀ a, S a → S' a) (hH : ∀ a, S a → H' a = H a) : ∀ {vs : List V} {ds : List D}, DvL W S H vs ds → DvL W S' H' vs ds
  | _, _, .nil => .nil
  | _, _, .cons t h r => .cons (t.mono hS) (Dv.mono hS hH h (t.mono hH)) (DvL.mono hS hH r)
theorem DvP.mono {W : Wd} {S S' : Addr → Prop} {H H' : Hp} (hS : ∀ a, S a → S' a) (hH : ∀ a, S a → H' a = H a) : ∀ {κ : Type} {vs : List (κ × V)} {ds : List (κ × D)}, DvP W S H vs ds → DvP W S' H' vs ds
  | _, _, _, .nil => .nil
  | _, _, _, .cons t h r => .cons (t.mono hS) (Dv.mono hS hH h (t.mono hH)) (DvP.mono hS hH r)
end
theorem Dz.mono {W : Wd} {S S' : Addr → Prop} {H H' : Hp} (hS : ∀ a, S a → S' a) (hH : ∀ a, S a → H' a = H a) {v : V} {d : D} (h : Dz W S H v d) : Dz W S' H' v d :=
  ⟨h.1.mono hS, h.2.mono hS hH (h.1.mono hH)⟩
end Sx
set_option Elab.async false
set_option linter.all false
set_option maxRecDepth 100000
set_option maxHeartbeats 4000000
set_option autoImplicit false
namespace Sx
open PySem L2

/-- a local name's object: frozen; its own; its own, but locked while a loop walks it -/
inductive Fg where
  | fz | ow | lk
  deriving DecidableEq
abbrev Slot := Option (Fg × D)
abbrev En := List Slot
/-- a result that is on its way: frozen data; a new object that nobody else holds; the object that the local name in slot i owns -/
inductive Op where
  | v (d : D) | fr (d : D) | b (i : Nat)
def Op.fz : Op → Op
  | .fr d => .v d
  | o => o
def frc (en : En) : Op → Option D
  | .v d => some d
  | .fr d => some d
  | .b i => match en[i]? with
    | some (some (_, d)) => some d
    | _ => none
def mkO (r : Bool × D) : Op := if r.1 then .fr r.2 else .v r.2

/-- the draws' two lists -/
def DrawOk (W : Wd) (H : Hp) : Prop := W.da ≠ W.db ∧ ∃ (ns : List Int) (i j k : Int), H W.da = some (.lst [.ref W.db, .int i, .int j, .int k]) ∧ H W.db = some (.lst (ns.map V.int)) ∧ ns ≠ [] ∧ ns.length ≤ 100 ∧ ∀ n ∈ ns, 0 ≤ n

structure Rel (W : Wd) (S P : Addr → Prop) (en : En) (σ : St) (H : Hp) : Prop where
  sp : ∀ a, S a → P a
  pd : ∀ a, P a → ∃ o, H a = some o
  slot : ∀ (i : Nat) (f : Fg) (d : D), en[i]? = some (some (f, d)) → ∃ v, σ[i]? = some (some v) ∧ Dv W S H v d ∧ (f = .fz → Tin S v d) ∧ (f ≠ .fz → ∃ p o, v = .ref p ∧ ¬ S p ∧ (f = .ow → ¬ P p) ∧ (f = .lk → P p) ∧ p ≠ W.da ∧ p ≠ W.db ∧ H p = some o)
  inj : ∀ (i j : Nat) (f g : Fg) (d e : D) (v : V), en[i]? = some (some (f, d)) → en[j]? = some (some (g, e)) → f ≠ .fz → g ≠ .fz → σ[i]? = some (some v) → σ[j]? = some (some v) → i = j
  len : en.length = σ.length
  dr : DrawOk W H
  drP : ¬ P W.da ∧ ¬ P W.db

structure Ext (S P : Addr → Prop) (H : Hp) (S' P' : Addr → Prop) (H' : Hp) : Prop where
  s : ∀ a, S a → S' a
  p : ∀ a, P a → P' a
  h : ∀ a, P a → H' a = H a
  n : ∀ a, S' a → S a ∨ ¬ P a
theorem Ext.refl {S P : Addr → Prop} {H : Hp} : Ext S P H S P H := ⟨fun _ h => h, fun _ h => h, fun _ _ => rfl, fun _ h => .inl h⟩
theorem Ext.trans {S P S1 P1 S2 P2 : Addr → Prop} {H H1 H2 : Hp} (a : Ext S P H S1 P1 H1) (b : Ext S1 P1 H1 S2 P2 H2) : Ext S P H S2 P2 H2 :=
  ⟨fun x h => b.s x (a.s x h), fun x h => b.p x (a.p x h), fun x h => (b.h x (a.p x h)).trans (a.h x h), fun x h => (b.n x h).elim (a.n x) fun q => .inr fun z => q (a.p x z)⟩

/-- p is a free object: protected by nobody, owned by no slot -/
def Free (W : Wd) (P : Addr → Prop) (en : En) (σ : St) (p : Addr) : Prop := ¬ P p ∧ p ≠ W.da ∧ p ≠ W.db ∧ ∀ (i : Nat) (f : Fg) (d : D), en[i]? = some (some (f, d)) → f ≠ .fz → σ[i]? ≠ some (some (V.ref p))
def OpOk (W : Wd) (S P : Addr → Prop) (en : En) (σ : St) (H : Hp) (v : V) : Op → Prop
  | .v d => Dz W S H v d
  | .fr d => Dv W S H v d ∧ ∃ p o, v = .ref p ∧ Free W P en σ p ∧ H p = some o
  | .b i => σ[i]? = some (some v)
/-- frozen data, or a name's -/
def Pend (W : Wd) (S : Addr → Prop) (σ : St) (H : Hp) (v : V) : Op → Prop
  | .v d => Dz W S H v d
  | .fr _ => False
  | .b i => σ[i]? = some (some v)

section
variable {W : Wd} {S P S' P' : Addr → Prop} {en : En} {σ : St} {H H' : Hp} {v : V} {d : D} {o : Op}
theorem Rel.top (R : Rel W S P en σ H) (e : Ext S P H S' P' H') (h : Dz W S H v d) : Dz W S' H' v d := h.mono e.s fun a s => e.h a (R.sp a s)
theorem Pend.ext (R : Rel W S P en σ H) (e : Ext S P H S' P' H') (h : Pend W S σ H v o) : Pend W S' σ H' v o := by
  cases o with
  | v d => exact R.top e h
  | fr d => exact h
  | b i => exact h
/-- what a name or data stands for now -/
theorem Pend.now (R : Rel W S P en σ H) (h : Pend W S σ H v o) (q : frc en o = some d) : Dv W S H v d := by
  cases o with
  | v d' => cases q; exact h.2
  | fr d => exact h.elim
  | b i =>
    cases e : en[i]? with
    | none => simp only [frc, e] at q; cases q
    | some s =>
      cases s with
      | none => simp only [frc, e] at q; cases q
      | some fd =>
        obtain ⟨f, d'⟩ := fd
        simp only [frc, e] at q
        cases q
        obtain ⟨v', e', dv, _⟩ := R.slot i f d e
        have h' : σ[i]? = some (some v) := h
        rw [h'] at e'
        cases e'
        exact dv
def add (S : Addr → Prop) (p : Addr) : Addr → Prop := fun a => S a ∨ a = p
/-- a free object is frozen -/
theorem Rel.freeze {p : Addr} {u : HO} (R : Rel W S P en σ H) (hp : Free W P en σ p) (ho : H p = some u) : Ext S P H (add S p) (add P p) H ∧ Rel W (add S p) (add P p) en σ H := by
  refine ⟨⟨fun a h => .inl h, fun a h => .inl h, fun _ _ => rfl, fun a h => h.imp id fun e => by rw [e]; exact hp.1⟩, ?_⟩
  refine ⟨fun a h => h.imp (R.sp a) id, fun a h => h.elim (R.pd a) fun e => ⟨u, by rw [e]; exact ho⟩, fun i f d e => ?_, R.inj, R.len, R.dr, ?_⟩
  · obtain ⟨v, hv, dv, t, ow⟩ := R.slot i f d e
    refine ⟨v, hv, dv.mono (fun a h => .inl h) (fun _ _ => rfl) ?_, fun z => (t z).mono fun a h => .inl h, fun z => ?_⟩
    · cases v <;> cases d <;> first | exact trivial | exact rfl
    · obtain ⟨q, o, ev, hs, hq, hl, h1, h2, h3⟩ := ow z
      have ne : q ≠ p := fun eq => by
        subst eq
        exact hp.2.2.2 i f d e z (by rw [hv, ev])
      exact ⟨q, o, ev, fun w => w.elim hs ne, fun y w => w.elim (hq y) ne, fun y => .inl (hl y), h1, h2, h3⟩
  · exact ⟨fun w => w.elim R.drP.1 fun e => hp.2.1 e.symm, fun w => w.elim R.drP.2 fun e => hp.2.2.1 e.symm⟩
/-- a result is put to the frozen ones -/
theorem OpOk.settle (R : Rel W S P en σ H) (h : OpOk W S P en σ H v o) : ∃ S' P', Ext S P H S' P' H ∧ Rel W S' P' en σ H ∧ Pend W S' σ H v o.fz := by
  cases o with
  | v d => exact ⟨S, P, .refl, R, h⟩
  | b i => exact ⟨S, P, .refl, R, h⟩
  | fr d =>
    obtain ⟨dv, p, u, rfl, hf, hu⟩ := h
    obtain ⟨e, R'⟩ := R.freeze hf hu
    refine ⟨_, _, e, R', ?_, dv.mono e.s (fun _ _ => rfl) ?_⟩
    · cases d <;> first | exact trivial | exact Or.inr rfl
    · cases d <;> first | exact trivial | exact rfl
end

/-- what a rule's end wants, by data: nothing that stood is changed -/
def PRes (W : Wd) (S : Addr → Prop) (H : Hp) (r : Bool × D) (Q : VK) : Prop := ∀ (v : V) (H' : Hp) (S' : Addr → Prop), (∀ a o, H a = some o → H' a = some o) → (∀ a, S a → S' a) → (∀ a, S' a → S a ∨ H a = none) → (∀ a, S' a → ∃ o, H' a = some o) →
  Dv W S' H' v r.2 → (r.1 = false → Tin S' v r.2) → (r.1 = true → ∃ p o, v = .ref p ∧ H p = none ∧ ¬ S' p ∧ H' p = some o) → Q v H'
def DomS (S : Addr → Prop) (H : Hp) : Prop := ∀ a, S a → ∃ o, H a = some o
theorem Rel.dom {W : Wd} {S P : Addr → Prop} {en : En} {σ : St} {H : Hp} (R : Rel W S P en σ H) : DomS S H := fun a h => R.pd a (R.sp a h)
section
variable {W : Wd} {S P S' P' : Addr → Prop} {en : En} {σ : St} {H H' : Hp} {v : V} {r : Bool × D}
/-- behind a rule that changes nothing -/
theorem Rel.same (R : Rel W S P en σ H) (hH : ∀ a o, H a = some o → H' a = some o) (hS : ∀ a, S a → S' a) (hn : ∀ a, S' a → S a ∨ H a = none) (hd : ∀ a, S' a → ∃ o, H' a = some o) :
    Ext S P H S' (fun a => P a ∨ S' a) H' ∧ Rel W S' (fun a => P a ∨ S' a) en σ H' := by
  have hP : ∀ a, P a → H' a = H a := fun a h => by obtain ⟨o, e⟩ := R.pd a h; rw [e]; exact hH a o e
  refine ⟨⟨hS, fun a h => .inl h, hP, fun a h => (hn a h).imp id fun e z => by obtain ⟨o, q⟩ := R.pd a z; rw [e] at q; cases q⟩, ?_⟩
  refine ⟨fun a h => .inr h, fun a h => h.elim (fun z => by obtain ⟨o, e⟩ := R.pd a z; exact ⟨o, hH a o e⟩) (hd a), fun i f d e => ?_, R.inj, R.len, ?_, ?_⟩
  · obtain ⟨v, hv, dv, t, ow⟩ := R.slot i f d e
    refine ⟨v, hv, dv.mono hS (fun a h => hP a (R.sp a h)) ?_, fun z => (t z).mono hS, fun z => ?_⟩
    · by_cases hf : f = .fz
      · exact (t hf).mono fun a h => hP a (R.sp a h)
      · obtain ⟨q, o, ev, _, _, _, _, _, h3⟩ := ow hf
        subst ev
        have : H' q = H q := by rw [h3]; exact hH q o h3
        cases d <;> first | exact trivial | exact this
    · obtain ⟨q, o, ev, hs, hq, hl, h1, h2, h3⟩ := ow z
      have ns : ¬ S' q := fun w => (hn q w).elim hs fun e => by rw [h3] at e; cases e
      exact ⟨q, o, ev, ns, fun y w => w.elim (hq y) ns, fun y => .inl (hl y), h1, h2, hH q o h3⟩
  · obtain ⟨ne, ns, i, j, k, h1, h2, h3⟩ := R.dr
    exact ⟨ne, ns, i, j, k, hH _ _ h1, hH _ _ h2, h3⟩
  · obtain ⟨ne, ns, i, j, k, h1, h2, h3⟩ := R.dr
    refine ⟨fun w => w.elim R.drP.1 fun w => (hn _ w).elim (fun s => R.drP.1 (R.sp _ s)) fun e => ?_, fun w => w.elim R.drP.2 fun w => (hn _ w).elim (fun s => R.drP.2 (R.sp _ s)) fun e => ?_⟩
    · rw [h1] at e; cases e
    · rw [h2] at e; cases e
/-- a rule's end, for a result that is on its way -/
theorem Rel.res {Q : VK} (R : Rel W S P en σ H) (h : ∀ v H' S' P', Ext S P H S' P' H' → Rel W S' P' en σ H' → OpOk W S' P' en σ H' v (mkO r) → Q v H') : PRes W S H r Q := by
  intro v H' S' hH hS hn hd dv t ow
  obtain ⟨e, R'⟩ := R.same hH hS hn hd
  refine h v H' _ _ e R' ?_
  obtain ⟨f, d⟩ := r
  cases f with
  | false => exact ⟨t rfl, dv⟩
  | true =>
    obtain ⟨p, o, ev, hp, hs, hu⟩ := ow rfl
    subst ev
    refine ⟨dv, p, o, rfl, ⟨fun w => w.elim (fun z => by obtain ⟨o', q⟩ := R.pd p z; rw [hp] at q; cases q) hs, ?_, ?_, fun i f' d' e' nf q => ?_⟩, hu⟩
    · obtain ⟨ne, ns, i, j, k, h1, h2, h3⟩ := R.dr
      rintro rfl; rw [hp] at h1; cases h1
    · obtain ⟨ne, ns, i, j, k, h1, h2, h3⟩ := R.dr
      rintro rfl; rw [hp] at h2; cases h2
    · obtain ⟨v', hv', _, _, ow'⟩ := R.slot i f' d' e'
      obtain ⟨q', o', ev, _, _, _, _, _, h3⟩ := ow' nf
      rw [hv'] at q
      cases q
      cases ev
      rw [hp] at h3; cases h3
end

/-! ### runs -/
abbrev Run := En → T (Op × En)
def ret1 (o : Option (Bool × D)) (en : En) : T (Op × En) := (T.ofOpt o).bind fun r => .ret (mkO r, en)
/-- an expression's reading by a run -/
def TV (W : Wd) (run : Run) : TE := fun σ H Q => ∃ S P en, Rel W S P en σ H ∧ (run en).wp fun r => ∀ v H' S' P', Ext S P H S' P' H' → Rel W S' P' r.2 σ H' → OpOk W S' P' r.2 σ H' v r.1 → Q v H'
theorem pe_weak {X : Cx} {e : Expr} {t t' : TE} (h : PE X e t) (w : ∀ σ H Q, t' σ H Q → t σ H Q) : PE X e t' := ⟨fun pins s σ H Q I q => h.run pins s σ H Q I (w σ H Q q)⟩
theorem pt_weak {X : Cx} {e : Expr} {t t' : TT} (h : PT X e t) (w : ∀ σ H Q, t' σ H Q → t σ H Q) : PT X e t' := ⟨fun pins s σ H Q I q => h.run pins s σ H Q I (w σ H Q q)⟩
section
variable {W : Wd} {σ : St} {H : Hp} {Q : VK} {run run' : Run}
/-- one expression, settled; then what follows -/
theorem TV.use {α : Type} {S P : Addr → Prop} {en : En} {f : Op × En → T α} {Q' : V → Hp → Prop} {R : α → Prop} (hR : Rel W S P en σ H) (h : ((run en).bind f).wp R)
    (k : ∀ (r : Op × En) v H' S' P', Ext S P H S' P' H' → Rel W S' P' r.2 σ H' → Pend W S' σ H' v r.1.fz → (f r).wp R → Q' v H') : TV W run σ H Q' := by
  refine ⟨S, P, en, hR, T.wp_mono ((T.wp_bind _ _ _).mp h) fun r q v H' S' P' e R' ok => ?_⟩
  obtain ⟨S2, P2, e2, R2, pe⟩ := ok.settle R'
  exact k r v H' S2 P2 (e.trans e2) R2 pe q
end
/-- a rule by one value -/
def Pure1 (W : Wd) (r : V → Hp → VK → Prop) (f : D → Option (Bool × D)) : Prop := ∀ S H x d c Q, DomS S H → Dv W S H x d → f d = some c → PRes W S H c Q → r x H Q
def Pure2 (W : Wd) (r : R2) (f : D → D → Option (Bool × D)) : Prop := ∀ S H x y d e c Q, DomS S H → Dv W S H x d → Dv W S H y e → f d e = some c → PRes W S H c Q → r x y H Q
/-- the run of one operand and a function -/
def run1 (ra : Run) (f : D → Option (Bool × D)) : Run := fun en => (ra en).bind fun a => ret1 ((frc a.2 a.1.fz).bind f) a.2
def run2 (ra rb : Run) (f : D → D → Option (Bool × D)) : Run := fun en => (ra en).bind fun a => (rb a.2).bind fun b => ret1 ((frc b.2 a.1.fz).bind fun x => (frc b.2 b.1.fz).bind fun y => f x y) b.2
section
variable {W : Wd} {X : Cx} {ra rb : Run} {a b : Expr} {pos : Pos}
theorem wp_ret1 {o : Option (Bool × D)} {en : En} {R : Op × En → Prop} (h : (ret1 o en).wp R) : ∃ c, o = some c ∧ R (mkO c, en) := by
  obtain ⟨c, e, q⟩ := T.wp_ofOpt ((T.wp_bind _ _ _).mp h)
  exact ⟨c, e, q⟩
theorem tv1 {r : V → Hp → VK → Prop} {f : D → Option (Bool × D)} (hr : Pure1 W r f) {σ : St} {H : Hp} {Q : VK} (h : TV W (run1 ra f) σ H Q) : TV W ra σ H fun x H1 => r x H1 Q := by
  obtain ⟨S, P, en, R, w⟩ := h
  refine TV.use R w fun c v H1 S1 P1 e1 R1 p1 q => ?_
  obtain ⟨z, ez, qz⟩ := wp_ret1 q
  obtain ⟨x, ex, fx⟩ := Option.bind_eq_some_iff.mp ez
  exact hr S1 H1 v x z Q R1.dom (p1.now R1 ex) fx (R1.res fun v' H' S' P' e' R' ok => qz v' H' S' P' (e1.trans e') R' ok)
theorem tv2 {r : R2} {f : D → D → Option (Bool × D)} (hr : Pure2 W r f) {σ : St} {H : Hp} {Q : VK} (h : TV W (run2 ra rb f) σ H Q) : TV W ra σ H fun x H1 => TV W rb σ H1 fun y H2 => r x y H2 Q := by
  obtain ⟨S, P, en, R, w⟩ := h
  refine TV.use R w fun c v H1 S1 P1 e1 R1 p1 q => ?_
  refine TV.use R1 q fun c2 u H2 S2 P2 e2 R2 p2 q2 => ?_
  obtain ⟨z, ez, qz⟩ := wp_ret1 q2
  obtain ⟨x, ex, ez⟩ := Option.bind_eq_some_iff.mp ez
  obtain ⟨y, ey, fx⟩ := Option.bind_eq_some_iff.mp ez
  exact hr S2 H2 v u x y z Q R2.dom ((p1.ext R1 e2).now R2 ex) (p2.now R2 ey) fx (R2.res fun v' H' S' P' e' R' ok => qz v' H' S' P' (e1.trans (e2.trans e')) R' ok)
theorem x_bin {op : Operator} {r : R2} {f : D → D → Option (Bool × D)} (ho : OpR X (binaryOp op) r) (hr : Pure2 W r f) (ha : PE X a (TV W ra)) (hb : PE X b (TV W rb)) : PE X (.BinOp a op b pos) (TV W (run2 ra rb f)) :=
  pe_weak (pe_op ho ha hb) fun _ _ _ h => tv2 hr h
theorem x_cmp {op : CmpOp} {r : R2} {f : D → D → Option (Bool × D)} (ho : OpR X (compareOp op) r) (hr : Pure2 W r f) (ha : PE X a (TV W ra)) (hb : PE X b (TV W rb)) (hm : behindInMarks op b = false) : PE X (.Compare a [op] [b] pos) (TV W (run2 ra rb f)) :=
  pe_weak (pe_cmpR ho ha hb hm) fun _ _ _ h => tv2 hr h
theorem x_un {op : UnaryOp} {r : V → Hp → VK → Prop} {f : D → Option (Bool × D)} (ho : UnR X (unaryOp op) r) (hr : Pure1 W r f) (ha : PE X a (TV W ra)) : PE X (.UnaryOp op a pos) (TV W (run1 ra f)) :=
  pe_weak (pe_un ho ha) fun _ _ _ h => tv1 hr h
end
end Sx
set_option Elab.async false
set_option linter.all false
set_option maxRecDepth 100000
set_option maxHeartbeats 4000000
set_option autoImplicit false
namespace Sx
open PySem L2

section
variable {W : Wd} {S P S' P' : Addr → Prop} {en : En} {σ : St} {H H' : Hp} {v : V} {d : D}
theorem lt_of_get {α : Type} {l : List α} {i : Nat} {x : α} (h : l[i]? = some x) : i < l.length := (List.getElem?_eq_some_iff.mp h).1
theorem set_get {α : Type} {l : List α} {i j : Nat} {x y : α} (h : (l.set i x)[j]? = some y) : (i = j ∧ x = y) ∨ (i ≠ j ∧ l[j]? = some y) := by
  by_cases e : i = j
  · subst e
    by_cases hl : i < l.length
    · rw [List.getElem?_set_self hl] at h; exact .inl ⟨rfl, Option.some.inj h⟩
    · rw [List.getElem?_eq_none (by simpa using hl)] at h; cases h
  · rw [List.getElem?_set_ne e] at h; exact .inr ⟨e, h⟩
/-- a name is forgotten -/
theorem Rel.drop (R : Rel W S P en σ H) (i : Nat) : Rel W S P (en.set i none) σ H := by
  refine ⟨R.sp, R.pd, fun j f e h => ?_, fun j k f g e e' v h1 h2 h3 h4 h5 h6 => ?_, by rw [List.length_set]; exact R.len, R.dr, R.drP⟩
  · rcases set_get h with ⟨_, q⟩ | ⟨_, q⟩
    · cases q
    · exact R.slot j f e q
  · rcases set_get h1 with ⟨_, q⟩ | ⟨_, q⟩
    · cases q
    · rcases set_get h2 with ⟨_, q2⟩ | ⟨_, q2⟩
      · cases q2
      · exact R.inj j k f g e e' v q q2 h3 h4 h5 h6
/-- behind it its object is free -/
theorem Rel.free (R : Rel W S P en σ H) {i : Nat} (h : en[i]? = some (some (.ow, d))) : ∃ p o, σ[i]? = some (some (.ref p)) ∧ Dv W S H (.ref p) d ∧ Free W P (en.set i none) σ p ∧ H p = some o := by
  obtain ⟨v, hv, dv, _, ow⟩ := R.slot i .ow d h
  obtain ⟨p, o, rfl, hs, hp, _, h1, h2, h3⟩ := ow (by decide)
  refine ⟨p, o, hv, dv, ⟨hp rfl, h1, h2, fun j f e q nf qv => ?_⟩, h3⟩
  rcases set_get q with ⟨_, q⟩ | ⟨ne, q⟩
  · cases q
  · exact ne (R.inj i j .ow f d e _ h q (by decide) nf hv qv)
/-- frozen data stands in a slot -/
theorem Rel.put (R : Rel W S P en σ H) {i : Nat} (hi : i < en.length) (h : Dz W S H v d) : Rel W S P (en.set i (some (.fz, d))) (σ.set i (some v)) H := by
  refine ⟨R.sp, R.pd, fun j f e q => ?_, fun j k f g e e' u h1 h2 h3 h4 h5 h6 => ?_, by rw [List.length_set, List.length_set]; exact R.len, R.dr, R.drP⟩
  · rcases set_get q with ⟨rfl, q2⟩ | ⟨ne, q2⟩
    · cases q2
      exact ⟨v, List.getElem?_set_self (by rw [← R.len]; exact hi), h.2, fun _ => h.1, fun z => absurd rfl z⟩
    · rw [List.getElem?_set_ne ne]; exact R.slot j f e q2
  · rcases set_get h1 with ⟨_, q⟩ | ⟨n1, q⟩
    · cases q; exact absurd rfl h3
    · rcases set_get h2 with ⟨_, q2⟩ | ⟨n2, q2⟩
      · cases q2; exact absurd rfl h4
      · rw [List.getElem?_set_ne n1] at h5
        rw [List.getElem?_set_ne n2] at h6
        exact R.inj j k f g e e' u q q2 h3 h4 h5 h6
/-- a free object stands in a slot: its name owns it -/
theorem Rel.take (R : Rel W S P en σ H) {i : Nat} {p : Addr} {o : HO} (hi : i < en.length) (h : Dv W S H (.ref p) d) (hf : Free W P en σ p) (ho : H p = some o) : Rel W S P (en.set i (some (.ow, d))) (σ.set i (some (.ref p))) H := by
  have at' : ∀ {j : Nat} {x : Option (Option V)}, i ≠ j → (σ.set i (some (.ref p)))[j]? = x → σ[j]? = x := fun ne q => by rw [List.getElem?_set_ne ne] at q; exact q
  have own : (σ.set i (some (.ref p)))[i]? = some (some (.ref p)) := List.getElem?_set_self (by rw [← R.len]; exact hi)
  refine ⟨R.sp, R.pd, fun j f e q => ?_, fun j k f g e e' u h1 h2 h3 h4 h5 h6 => ?_, by rw [List.length_set, List.length_set]; exact R.len, R.dr, R.drP⟩
  · rcases set_get q with ⟨rfl, q2⟩ | ⟨ne, q2⟩
    · cases q2
      exact ⟨.ref p, own, h, (fun z => by cases z), fun _ => ⟨p, o, rfl, fun s => hf.1 (R.sp p s), fun _ => hf.1, (fun z => by cases z), hf.2.1, hf.2.2.1, ho⟩⟩
    · rw [List.getElem?_set_ne ne]; exact R.slot j f e q2
  · rcases set_get h1 with ⟨e1, q⟩ | ⟨n1, q⟩
    · rcases set_get h2 with ⟨e2, q2⟩ | ⟨n2, q2⟩
      · exact e1.symm.trans e2
      · subst e1
        rw [own] at h5
        cases h5
        exact absurd (at' n2 h6) (hf.2.2.2 k g e' q2 h4)
    · rcases set_get h2 with ⟨e2, q2⟩ | ⟨n2, q2⟩
      · subst e2
        rw [own] at h6
        cases h6
        exact absurd (at' n1 h5) (hf.2.2.2 j f e q h3)
      · exact R.inj j k f g e e' u q q2 h3 h4 (at' n1 h5) (at' n2 h6)
theorem set_set_same (R : Rel W S P en σ H) (i : Nat) (x : Option V) (h : σ[i]? = some x) : σ.set i x = σ := by
  apply List.ext_getElem?
  intro j
  by_cases e : i = j
  · subst e; rw [List.getElem?_set_self (lt_of_get h), h]
  · rw [List.getElem?_set_ne e]
end

/-! ### names, constants -/
def rVar (i : Nat) : Run := fun en => match en[i]? with
  | some (some (.fz, d)) => .ret (.v d, en)
  | some (some (.ow, d)) => .ret (.v d, (en.set i none).set i (some (.fz, d)))
  | _ => .fail
def rMov (i : Nat) : Run := fun en => match en[i]? with
  | some (some (.fz, d)) => .ret (.v d, en)
  | some (some (.ow, d)) => .ret (.fr d, en.set i none)
  | _ => .fail
def rBor (i : Nat) : Run := fun en => match en[i]? with
  | some (some _) => .ret (.b i, en)
  | _ => .fail
def rC (d : D) : Run := fun en => .ret (.v d, en)
section
variable {W : Wd} {σ : St} {H : Hp} {Q : VK} {X : Cx}
theorem slot_cases (en : En) (i : Nat) : en[i]? = none ∨ en[i]? = some none ∨ ∃ f d, en[i]? = some (some (f, d)) := by
  cases h : en[i]? with
  | none => exact .inl rfl
  | some s =>
    cases s with
    | none => exact .inr (.inl rfl)
    | some p => exact .inr (.inr ⟨p.1, p.2, rfl⟩)
theorem tv_var {i : Nat} (h : TV W (rVar i) σ H Q) : tVar i σ H Q := by
  obtain ⟨S, P, en, R, w⟩ := h
  unfold rVar at w
  rcases slot_cases en i with e | e | ⟨f, d, e⟩
  · rw [e] at w; exact w.elim
  · rw [e] at w; exact w.elim
  · rw [e] at w
    cases f with
    | fz =>
      obtain ⟨v, hv, dv, t, _⟩ := R.slot i .fz d e
      exact ⟨v, hv, w v H S P .refl R ⟨t rfl, dv⟩⟩
    | lk => exact w.elim
    | ow =>
      obtain ⟨p, o, hv, dv, hf, ho⟩ := R.free e
      obtain ⟨ex, R2⟩ := (R.drop i).freeze hf ho
      have dz : Dz W (add S p) H (.ref p) d := by
        refine ⟨?_, dv.mono ex.s (fun _ _ => rfl) ?_⟩
        · cases d <;> first | exact trivial | exact Or.inr rfl
        · cases d <;> first | exact trivial | exact rfl
      have R3 := R2.put (i := i) (by rw [List.length_set]; exact lt_of_get e) dz
      rw [set_set_same R i _ hv] at R3
      exact ⟨.ref p, hv, w _ H _ _ ex R3 dz⟩
theorem tv_mov {i : Nat} (h : TV W (rMov i) σ H Q) : tVar i σ H Q := by
  obtain ⟨S, P, en, R, w⟩ := h
  unfold rMov at w
  rcases slot_cases en i with e | e | ⟨f, d, e⟩
  · rw [e] at w; exact w.elim
  · rw [e] at w; exact w.elim
  · rw [e] at w
    cases f with
    | fz =>
      obtain ⟨v, hv, dv, t, _⟩ := R.slot i .fz d e
      exact ⟨v, hv, w v H S P .refl R ⟨t rfl, dv⟩⟩
    | lk => exact w.elim
    | ow =>
      obtain ⟨p, o, hv, dv, hf, ho⟩ := R.free e
      exact ⟨.ref p, hv, w _ H S P .refl (R.drop i) ⟨dv, p, o, rfl, hf, ho⟩⟩
theorem tv_bor {i : Nat} (h : TV W (rBor i) σ H Q) : tVar i σ H Q := by
  obtain ⟨S, P, en, R, w⟩ := h
  unfold rBor at w
  rcases slot_cases en i with e | e | ⟨f, d, e⟩
  · rw [e] at w; exact w.elim
  · rw [e] at w; exact w.elim
  · rw [e] at w
    obtain ⟨v, hv, _⟩ := R.slot i f d e
    exact ⟨v, hv, w v H S P .refl R hv⟩
theorem tv_c {v : V} {d : D} (hd : ∀ S H, Dz W S H v d) (h : TV W (rC d) σ H Q) : tC v σ H Q := by
  obtain ⟨S, P, en, R, w⟩ := h
  exact w v H S P .refl R (hd S H)
end

/-! ### arguments -/
abbrev Runs := En → T (List Op × En)
def PendL (W : Wd) (S : Addr → Prop) (σ : St) (H : Hp) : List V → List Op → Prop
  | [], [] => True
  | v :: vs, o :: os => Pend W S σ H v o ∧ PendL W S σ H vs os
  | _, _ => False
def TVs (W : Wd) (runs : Runs) : TA := fun σ H Q => ∃ S P en, Rel W S P en σ H ∧ (runs en).wp fun r => ∀ vs H' S' P', Ext S P H S' P' H' → Rel W S' P' r.2 σ H' → PendL W S' σ H' vs r.1 → Q vs H'
def rNil : Runs := fun en => .ret ([], en)
def rCons (ra : Run) (rs : Runs) : Runs := fun en => (ra en).bind fun a => (rs a.2).bind fun b => .ret (a.1.fz :: b.1, b.2)
def frcs (en : En) : List Op → Option (List D)
  | [] => some []
  | o :: os => (frc en o).bind fun d => (frcs en os).bind fun ds => some (d :: ds)
/-- frozen alone -/
def onlyV : List Op → Option (List D)
  | [] => some []
  | .v d :: os => (onlyV os).bind fun ds => some (d :: ds)
  | _ => none
def DvA (W : Wd) (S : Addr → Prop) (H : Hp) : List V → List D → Prop
  | [], [] => True
  | v :: vs, d :: ds => Dv W S H v d ∧ DvA W S H vs ds
  | _, _ => False
section
variable {W : Wd} {S P S' P' : Addr → Prop} {en : En} {σ : St} {H H' : Hp} {X : Cx}
theorem PendL.now (R : Rel W S P en σ H) : ∀ {vs : List V} {os : List Op} {ds : List D}, PendL W S σ H vs os → frcs en os = some ds → DvA W S H vs ds
  | [], [], ds, _, q => by cases q; trivial
  | v :: vs, o :: os, ds, h, q => by
    obtain ⟨d, e1, q⟩ := Option.bind_eq_some_iff.mp q
    obtain ⟨ds', e2, q⟩ := Option.bind_eq_some_iff.mp q
    cases q
    exact ⟨h.1.now R e1, PendL.now R h.2 e2⟩
  | [], _ :: _, _, h, _ => h.elim
  | _ :: _, [], _, h, _ => h.elim
theorem PendL.only : ∀ {vs : List V} {os : List Op} {ds : List D}, PendL W S σ H vs os → onlyV os = some ds → DvL W S H vs ds
  | [], [], ds, _, q => by cases q; exact .nil
  | v :: vs, .v d :: os, ds, h, q => by
    obtain ⟨ds', e2, q⟩ := Option.bind_eq_some_iff.mp q
    cases q
    exact .cons h.1.1 h.1.2 (PendL.only h.2 e2)
  | _ :: _, .fr _ :: _, _, _, q => by cases q
  | _ :: _, .b _ :: _, _, _, q => by cases q
  | [], _ :: _, _, h, _ => h.elim
  | _ :: _, [], _, h, _ => h.elim
theorem TVs.use {α : Type} {runs : Runs} {f : List Op × En → T α} {Q' : List V → Hp → Prop} {R : α → Prop} (hR : Rel W S P en σ H) (h : ((runs en).bind f).wp R)
    (k : ∀ (r : List Op × En) vs H' S' P', Ext S P H S' P' H' → Rel W S' P' r.2 σ H' → PendL W S' σ H' vs r.1 → (f r).wp R → Q' vs H') : TVs W runs σ H Q' :=
  ⟨S, P, en, hR, T.wp_mono ((T.wp_bind _ _ _).mp h) fun r q vs H' S' P' e R' ok => k r vs H' S' P' e R' ok q⟩
theorem tvs_nil {Q : List V → Hp → Prop} (h : TVs W rNil σ H Q) : tNil σ H Q := by
  obtain ⟨S, P, en, R, w⟩ := h
  exact w [] H S P .refl R trivial
theorem PendL.ext (R : Rel W S P en σ H) (e : Ext S P H S' P' H') : ∀ {vs : List V} {os : List Op}, PendL W S σ H vs os → PendL W S' σ H' vs os
  | [], [], _ => trivial
  | v :: vs, o :: os, h => ⟨h.1.ext R e, PendL.ext R e h.2⟩
  | [], _ :: _, h => h.elim
  | _ :: _, [], h => h.elim
theorem tvs_cons {ra : Run} {rs : Runs} {Q : List V → Hp → Prop} (h : TVs W (rCons ra rs) σ H Q) : tCons (TV W ra) (TVs W rs) σ H Q := by
  obtain ⟨S, P, en, R, w⟩ := h
  have w := (T.wp_bind _ _ _).mp w
  refine ⟨S, P, en, R, T.wp_mono w fun a q v H1 S1 P1 e1 R1 ok => ?_⟩
  obtain ⟨S2, P2, e2, R2, pe⟩ := ok.settle R1
  have q := (T.wp_bind _ _ _).mp q
  refine ⟨S2, P2, a.2, R2, T.wp_mono q fun b q vs H3 S3 P3 e3 R3 okl => ?_⟩
  exact q (v :: vs) H3 S3 P3 (e1.trans (e2.trans e3)) R3 ⟨pe.ext R2 e3, okl⟩
theorem pa_weak {es : List Expr} {t t' : TA} (h : PA X es t) (w : ∀ σ H Q, t' σ H Q → t σ H Q) : PA X es t' := ⟨fun pos pins s σ H Q I q => h.run pos pins s σ H Q I (w σ H Q q)⟩
theorem x_nil : PA X [] (TVs W rNil) := pa_weak pa_nil fun _ _ _ h => tvs_nil h
theorem x_cons {e : Expr} {es : List Expr} {ra : Run} {rs : Runs} (ha : PE X e (TV W ra)) (hr : PA X es (TVs W rs)) (hs : starEach (e :: es) X.env = (false, eval e X.env) :: starEach es X.env) : PA X (e :: es) (TVs W (rCons ra rs)) :=
  pa_weak (pa_cons ha hr hs) fun _ _ _ h => tvs_cons h
/-- a rule by values -/
def PureN (W : Wd) (r : List V → Hp → VK → Prop) (f : List D → Option (Bool × D)) : Prop := ∀ S H vs ds c Q, DomS S H → DvA W S H vs ds → f ds = some c → PRes W S H c Q → r vs H Q
def runN (rs : Runs) (f : List D → Option (Bool × D)) : Run := fun en => (rs en).bind fun a => ret1 ((frcs a.2 a.1).bind f) a.2
theorem tvN {r : List V → Hp → VK → Prop} {f : List D → Option (Bool × D)} {rs : Runs} {Q : VK} (hr : PureN W r f) (h : TV W (runN rs f) σ H Q) : TVs W rs σ H fun vs H1 => r vs H1 Q := by
  obtain ⟨S, P, en, R, w⟩ := h
  refine TVs.use R w fun c vs H1 S1 P1 e1 R1 p1 q => ?_
  obtain ⟨z, ez, qz⟩ := wp_ret1 q
  obtain ⟨x, ex, fx⟩ := Option.bind_eq_some_iff.mp ez
  exact hr S1 H1 vs x z Q R1.dom (p1.now R1 ex) fx (R1.res fun v' H' S' P' e' R' ok => qz v' H' S' P' (e1.trans e') R' ok)
/-- displays: a list, a tuple of frozen data -/
def rDisp (c : List D → Option (Bool × D)) (rs : Runs) : Run := fun en => (rs en).bind fun a => ret1 ((onlyV a.1).bind c) a.2
def small (ds : List D) (c : Bool × D) : Option (Bool × D) := if ds.length ≤ 4096 then some c else none
theorem DvL.len {vs : List V} {ds : List D} (h : DvL W S H vs ds) : vs.length = ds.length := by
  induction ds generalizing vs with
  | nil => cases h; rfl
  | cons d ds ih => cases h with | cons _ _ r => simp [ih r]
theorem line4096 {n : Nat} (h : n ≤ 4096) : n ≤ sizeLine := Nat.le_trans h (by rw [sizeLine_eq]; decide)
theorem DvL.upd {S : Addr → Prop} {H : Hp} {p : Addr} {u : HO} {vs : List V} {ds : List D} (hd : DomS S H) (hp : H p = none) (h : DvL W S H vs ds) : DvL W S (upd H p u) vs ds :=
  h.mono (fun _ q => q) fun a s => upd_ne (by rintro rfl; obtain ⟨o, q⟩ := hd a s; rw [hp] at q; cases q)
theorem upd_keeps {H : Hp} {p : Addr} {u : HO} (hp : H p = none) : ∀ a o, H a = some o → upd H p u a = some o := fun a o e => by
  rw [upd_ne (ne_of_none e hp)]; exact e
/-- a new list, a new tuple -/
theorem PRes.lst {xs : List V} {ds : List D} {Q : VK} (hd : DomS S H) (h : DvL W S H xs ds) (r : PRes W S H (true, .lst ds) Q) : ∀ p, H p = none → Q (.ref p) (L2.upd H p (.lst xs)) := fun p hp =>
  r (.ref p) _ S (upd_keeps hp) (fun _ h => h) (fun _ h => .inl h) (fun a h => by obtain ⟨o, q⟩ := hd a h; exact ⟨o, upd_keeps hp a o q⟩) (.lst upd_same (h.upd hd hp)) (fun z => by cases z)
    fun _ => ⟨p, _, rfl, hp, (fun s => by obtain ⟨o, q⟩ := hd p s; rw [hp] at q; cases q), upd_same⟩
theorem PRes.tup {xs : List V} {ds : List D} {Q : VK} (hd : DomS S H) (h : DvL W S H xs ds) (r : PRes W S H (false, .tup ds) Q) : ∀ p, H p = none → Q (.ref p) (L2.upd H p (.tup xs)) := fun p hp =>
  r (.ref p) _ (add S p) (upd_keeps hp) (fun _ h => .inl h) (fun _ h => h.imp id fun e => by rw [e]; exact hp)
    (fun a h => h.elim (fun h => by obtain ⟨o, q⟩ := hd a h; exact ⟨o, upd_keeps hp a o q⟩) fun e => by subst e; exact ⟨_, upd_same⟩) (.tup (.inl ⟨.inr rfl, upd_same⟩) ((h.upd hd hp).mono (fun _ h => .inl h) fun _ _ => rfl)) (fun _ => trivial) fun z => by cases z
theorem x_lst {es : List Expr} {rs : Runs} {pos : Pos} (h : PA X es (TVs W rs)) : PE X (.List es pos) (TV W (rDisp (fun ds => small ds (true, .lst ds)) rs)) := by
  refine pe_weak (pe_lst h) fun σ H Q h => ?_
  obtain ⟨S, P, en, R, w⟩ := h
  refine TVs.use R w fun c vs H1 S1 P1 e1 R1 p1 q => ?_
  obtain ⟨z, ez, qz⟩ := wp_ret1 q
  obtain ⟨x, ex, fx⟩ := Option.bind_eq_some_iff.mp ez
  have dl := p1.only ex
  unfold small at fx
  split at fx
  · rename_i hl
    cases fx
    exact ⟨line4096 (by rw [dl.len]; exact hl), PRes.lst R1.dom dl (R1.res fun v' H' S' P' e' R' ok => qz v' H' S' P' (e1.trans e') R' ok)⟩
  · cases fx
theorem x_tup {es : List Expr} {rs : Runs} {pos : Pos} {k : Nat} (h : PA X es (TVs W rs)) : PE X (.Tuple es k pos) (TV W (rDisp (fun ds => small ds (false, .tup ds)) rs)) := by
  refine pe_weak (pe_tup h) fun σ H Q h => ?_
  obtain ⟨S, P, en, R, w⟩ := h
  refine TVs.use R w fun c vs H1 S1 P1 e1 R1 p1 q => ?_
  obtain ⟨z, ez, qz⟩ := wp_ret1 q
  obtain ⟨x, ex, fx⟩ := Option.bind_eq_some_iff.mp ez
  have dl := p1.only ex
  unfold small at fx
  split at fx
  · rename_i hl
    cases fx
    exact ⟨line4096 (by rw [dl.len]; exact hl), PRes.tup R1.dom dl (R1.res fun v' H' S' P' e' R' ok => qz v' H' S' P' (e1.trans e') R' ok)⟩
  · cases fx
end
end Sx
set_option Elab.async false
set_option linter.all false
set_option maxRecDepth 100000
set_option maxHeartbeats 4000000
set_option autoImplicit false
namespace Sx
open PySem L2

/-! ### tests -/
abbrev RunT := En → T (Bool × En)
def TVT (W : Wd) (run : RunT) : TT := fun σ H Q => ∃ S P en, Rel W S P en σ H ∧ (run en).wp fun r => ∀ H' S' P', Ext S P H S' P' H' → Rel W S' P' r.2 σ H' → Q r.1 H'
def boolOf : Option D → Option Bool
  | some (.bl b) => some b
  | _ => none
def toT (run : Run) : RunT := fun en => (run en).bind fun a => match boolOf (frc a.2 a.1.fz) with
  | some b => .ret (b, a.2)
  | none => .fail
def rAnd (ra rb : Run) : Run := fun en => (toT ra en).bind fun a => if a.1 then rb a.2 else .ret (.v (.bl false), a.2)
def rOr (ra rb : Run) : Run := fun en => (toT ra en).bind fun a => if a.1 then .ret (.v (.bl true), a.2) else rb a.2
def rNot (ra : Run) : Run := fun en => (toT ra en).bind fun a => .ret (.v (.bl (!a.1)), a.2)
def rIf (rc ra rb : Run) : Run := fun en => (toT rc en).bind fun a => if a.1 then ra a.2 else rb a.2
section
variable {W : Wd} {S P S' P' : Addr → Prop} {en : En} {σ : St} {H H' : Hp} {X : Cx} {ra rb rc : Run} {a b c : Expr} {rest : List Expr} {pos : Pos} {Q : VK}
theorem boolOf_some {o : Option D} {b : Bool} (h : boolOf o = some b) : o = some (.bl b) := by
  cases o with
  | none => cases h
  | some d => cases d <;> first | (cases h; rfl) | cases h
theorem dv_bl {v : V} {b : Bool} (h : Dv W S H v (.bl b)) : v = .bl b := by cases h; rfl
/-- a value as a test, then what follows -/
theorem toT_use {α : Type} {f : Bool × En → T α} {R : α → Prop} {Q' : V → Hp → Prop} (hR : Rel W S P en σ H) (h : ((toT ra en).bind f).wp R)
    (k : ∀ (c : Bool) en1 H' S' P', Ext S P H S' P' H' → Rel W S' P' en1 σ H' → (f (c, en1)).wp R → Q' (.bl c) H') : TV W ra σ H Q' := by
  have h := (T.wp_bind _ _ _).mp ((T.wp_bind _ _ _).mp h)
  refine ⟨S, P, en, hR, T.wp_mono h fun r q v H' S' P' e R' ok => ?_⟩
  obtain ⟨S2, P2, e2, R2, pe⟩ := ok.settle R'
  cases hb : boolOf (frc r.2 r.1.fz) with
  | none => rw [hb] at q; exact q.elim
  | some b =>
    rw [hb] at q
    have := pe.now R2 (boolOf_some hb)
    rw [dv_bl this]
    exact k b r.2 H' S2 P2 (e.trans e2) R2 q
theorem tvt_tB {Q : Bool → Hp → Prop} (h : TVT W (toT ra) σ H Q) : tB (TV W ra) σ H Q := by
  obtain ⟨S, P, en, R, w⟩ := h
  rw [← T.bind_ret (toT ra en)] at w
  exact toT_use R w fun c en1 H' S' P' e R' q => ⟨c, rfl, q H' S' P' e R'⟩
theorem tv_and (h : TV W (rAnd ra rb) σ H Q) : tAndV (TV W ra) (TV W rb) σ H Q := by
  obtain ⟨S, P, en, R, w⟩ := h
  refine toT_use R w fun c en1 H' S' P' e R' q => ⟨c, rfl, ?_⟩
  cases c with
  | false => exact q _ H' S' P' e R' ⟨trivial, .bl _⟩
  | true => exact ⟨S', P', en1, R', T.wp_mono q fun r q v H2 S2 P2 e2 R2 ok => q v H2 S2 P2 (e.trans e2) R2 ok⟩
theorem tv_or (h : TV W (rOr ra rb) σ H Q) : tOrV (TV W ra) (TV W rb) σ H Q := by
  obtain ⟨S, P, en, R, w⟩ := h
  refine toT_use R w fun c en1 H' S' P' e R' q => ⟨c, rfl, ?_⟩
  cases c with
  | true => exact q _ H' S' P' e R' ⟨trivial, .bl _⟩
  | false => exact ⟨S', P', en1, R', T.wp_mono q fun r q v H2 S2 P2 e2 R2 ok => q v H2 S2 P2 (e.trans e2) R2 ok⟩
theorem tv_not (h : TV W (rNot ra) σ H Q) : tNotV (TV W ra) σ H Q := by
  obtain ⟨S, P, en, R, w⟩ := h
  exact toT_use R w fun c en1 H' S' P' e R' q => ⟨c, rfl, q _ H' S' P' e R' ⟨trivial, .bl _⟩⟩
theorem toT_ret (b : Bool) (en : En) (f : Bool × En → T (Bool × En)) : ((T.ret (Op.v (.bl b), en) : T (Op × En)).bind fun a => match boolOf (frc a.2 a.1.fz) with | some b => T.ret (b, a.2) | none => .fail) = .ret (b, en) := rfl
/-- tests that are and, or, not -/
theorem tvt_and {Q : Bool → Hp → Prop} {ta tb : TT} (ha : ∀ Q, TVT W (toT ra) σ H Q → ta σ H Q) (hb : ∀ H Q, TVT W (toT rb) σ H Q → tb σ H Q) (h : TVT W (toT (rAnd ra rb)) σ H Q) : tAnd ta tb σ H Q := by
  obtain ⟨S, P, en, R, w⟩ := h
  have w := (T.wp_bind _ _ _).mp ((T.wp_bind _ _ _).mp w)
  refine ha _ ⟨S, P, en, R, T.wp_mono w fun r q H' S' P' e R' => ?_⟩
  obtain ⟨c, en1⟩ := r
  cases c with
  | false => exact q H' S' P' e R'
  | true =>
    refine hb _ _ ⟨S', P', en1, R', ?_⟩
    refine (T.wp_bind _ _ _).mpr (T.wp_mono q fun r q => ?_)
    exact T.wp_mono q fun r q H2 S2 P2 e2 R2 => q H2 S2 P2 (e.trans e2) R2
theorem tvt_or {Q : Bool → Hp → Prop} {ta tb : TT} (ha : ∀ Q, TVT W (toT ra) σ H Q → ta σ H Q) (hb : ∀ H Q, TVT W (toT rb) σ H Q → tb σ H Q) (h : TVT W (toT (rOr ra rb)) σ H Q) : tOr ta tb σ H Q := by
  obtain ⟨S, P, en, R, w⟩ := h
  have w := (T.wp_bind _ _ _).mp ((T.wp_bind _ _ _).mp w)
  refine ha _ ⟨S, P, en, R, T.wp_mono w fun r q H' S' P' e R' => ?_⟩
  obtain ⟨c, en1⟩ := r
  cases c with
  | true => exact q H' S' P' e R'
  | false =>
    refine hb _ _ ⟨S', P', en1, R', ?_⟩
    refine (T.wp_bind _ _ _).mpr (T.wp_mono q fun r q => ?_)
    exact T.wp_mono q fun r q H2 S2 P2 e2 R2 => q H2 S2 P2 (e.trans e2) R2
theorem tvt_not {Q : Bool → Hp → Prop} {ta : TT} (ha : ∀ Q, TVT W (toT ra) σ H Q → ta σ H Q) (h : TVT W (toT (rNot ra)) σ H Q) : tNot ta σ H Q := by
  obtain ⟨S, P, en, R, w⟩ := h
  have w := (T.wp_bind _ _ _).mp ((T.wp_bind _ _ _).mp w)
  exact ha _ ⟨S, P, en, R, T.wp_mono w fun r q H' S' P' e R' => q H' S' P' e R'⟩
theorem tv_if (h : TV W (rIf rc ra rb) σ H Q) : tIf (TVT W (toT rc)) (TV W ra) (TV W rb) σ H Q := by
  obtain ⟨S, P, en, R, w⟩ := h
  have w := (T.wp_bind _ _ _).mp w
  refine ⟨S, P, en, R, T.wp_mono w fun r q H' S' P' e R' => ?_⟩
  obtain ⟨c, en1⟩ := r
  cases c with
  | true => exact ⟨S', P', en1, R', T.wp_mono q fun r q v H2 S2 P2 e2 R2 ok => q v H2 S2 P2 (e.trans e2) R2 ok⟩
  | false => exact ⟨S', P', en1, R', T.wp_mono q fun r q v H2 S2 P2 e2 R2 ok => q v H2 S2 P2 (e.trans e2) R2 ok⟩
theorem x_if (hc : PT X c (TVT W (toT rc))) (ha : PE X a (TV W ra)) (hb : PE X b (TV W rb)) : PE X (.IfExp c a b pos) (TV W (rIf rc ra rb)) := pe_weak (pe_ifExp hc ha hb) fun _ _ _ h => tv_if h
theorem x_not (ha : PE X a (TV W ra)) : PE X (.UnaryOp .Not a pos) (TV W (rNot ra)) := pe_weak (pe_not ha) fun _ _ _ h => tv_not h
theorem x_and (ha : PE X a (TV W ra)) (hb : PE X (.BoolOp .And (b :: rest) pos) (TV W rb)) : PE X (.BoolOp .And (a :: b :: rest) pos) (TV W (rAnd ra rb)) := pe_weak (pe_and ha hb) fun _ _ _ h => tv_and h
theorem x_or (ha : PE X a (TV W ra)) (hb : PE X (.BoolOp .Or (b :: rest) pos) (TV W rb)) : PE X (.BoolOp .Or (a :: b :: rest) pos) (TV W (rOr ra rb)) := pe_weak (pe_or ha hb) fun _ _ _ h => tv_or h
theorem y_val {e : Expr} (h : PE X e (TV W ra)) (he : ∀ whole, isTrue e X.env whole = (do let v ← whole; standAt e.pos; holding [v] (truthy v))) : PT X e (TVT W (toT ra)) := pt_weak (pt_val h he) fun _ _ _ h => tvt_tB h
theorem y_not (ha : PT X a (TVT W (toT ra))) : PT X (.UnaryOp .Not a pos) (TVT W (toT (rNot ra))) := pt_weak (pt_not ha) fun _ _ _ h => tvt_not (fun _ q => q) h
theorem pw_weak {e : Expr} {t t' : TT} (h : PW X e t) (w : ∀ σ H Q, t' σ H Q → t σ H Q) : PW X e t' := ⟨fun whole pins s σ H Q I q => h.run whole pins s σ H Q I (w σ H Q q)⟩
theorem y_and (ha : PT X a (TVT W (toT ra))) (hb : PW X (.BoolOp .And (b :: rest) pos) (TVT W (toT rb))) : PW X (.BoolOp .And (a :: b :: rest) pos) (TVT W (toT (rAnd ra rb))) := pw_weak (pw_and ha hb) fun _ _ _ h => tvt_and (fun _ q => q) (fun _ _ q => q) h
theorem y_or (ha : PT X a (TVT W (toT ra))) (hb : PW X (.BoolOp .Or (b :: rest) pos) (TVT W (toT rb))) : PW X (.BoolOp .Or (a :: b :: rest) pos) (TVT W (toT (rOr ra rb))) := pw_weak (pw_or ha hb) fun _ _ _ h => tvt_or (fun _ q => q) (fun _ _ q => q) h
end

/-! ### statements -/
inductive Fl where
  | nx | rt (c : Bool × D) | bk | ct
abbrev RunS := En → T (Fl × En)
def ROk (W : Wd) (S P : Addr → Prop) (H : Hp) (v : V) (c : Bool × D) : Prop := Dv W S H v c.2 ∧ (c.1 = false → Tin S v c.2) ∧ (c.1 = true → ∃ p o, v = .ref p ∧ ¬ P p ∧ p ≠ W.da ∧ p ≠ W.db ∧ H p = some o)
structure RetOk (W : Wd) (S P : Addr → Prop) (H : Hp) : Prop where
  sp : ∀ a, S a → P a
  ds : DomS S H
  dr : DrawOk W H
  dp : ¬ P W.da ∧ ¬ P W.db
def Post (W : Wd) (D : Ends) (S P : Addr → Prop) (H : Hp) (r : Fl × En) : Prop := match r.1 with
  | .nx => ∀ σ' H' S' P', Ext S P H S' P' H' → Rel W S' P' r.2 σ' H' → D.nx σ' H'
  | .bk => ∀ σ' H' S' P', Ext S P H S' P' H' → Rel W S' P' r.2 σ' H' → D.bk σ' H'
  | .ct => ∀ σ' H' S' P', Ext S P H S' P' H' → Rel W S' P' r.2 σ' H' → D.ct σ' H'
  | .rt c => ∀ v H' S' P', Ext S P H S' P' H' → RetOk W S' P' H' → ROk W S' P' H' v c → D.rt v H'
def TVS (W : Wd) (run : RunS) : TS := fun D σ H => ∃ S P en, Rel W S P en σ H ∧ (run en).wp (Post W D S P H)
def sNx : RunS := fun en => .ret (.nx, en)
def sBk : RunS := fun en => .ret (.bk, en)
def sCt : RunS := fun en => .ret (.ct, en)
def sSeq (ra rb : RunS) : RunS := fun en => (ra en).bind fun a => match a.1 with
  | .nx => rb a.2
  | f => .ret (f, a.2)
def putO (i : Nat) (a : Op × En) : Option En := if i < a.2.length then (match a.1 with
  | .v d => some (a.2.set i (some (.fz, d)))
  | .fr d => some (a.2.set i (some (.ow, d)))
  | .b _ => none) else none
def sSet (i : Nat) (ra : Run) : RunS := fun en => (ra en).bind fun a => (T.ofOpt (putO i a)).bind fun e => .ret (.nx, e)
def sDrop (ra : Run) : RunS := fun en => (ra en).bind fun a => .ret (.nx, a.2)
def retO : Op → Option (Bool × D)
  | .v d => some (false, d)
  | .fr d => some (true, d)
  | .b _ => none
def sRet (ra : Run) : RunS := fun en => (ra en).bind fun a => (T.ofOpt (retO a.1)).bind fun c => .ret (.rt c, a.2)
def sRetN : RunS := fun en => .ret (.rt (false, .non), en)
def sIf (rc : RunT) (ra rb : RunS) : RunS := fun en => (rc en).bind fun a => if a.1 then ra a.2 else rb a.2
def sWhile (rc : RunT) (rb : RunS) : Nat → RunS
  | 0 => fun _ => .fail
  | n + 1 => fun en => (rc en).bind fun a => if a.1 then (rb a.2).bind fun r => (match r.1 with
      | .nx => sWhile rc rb n r.2
      | .ct => sWhile rc rb n r.2
      | .bk => .ret (.nx, r.2)
      | .rt c => .ret (.rt c, r.2)) else .ret (.nx, a.2)
section
variable {W : Wd} {S P S' P' : Addr → Prop} {en : En} {σ : St} {H H' : Hp} {X : Cx} {D : Ends} {st : Stmt} {sts : List Stmt} {pos : Pos} {ra : Run} {rs rt : RunS} {e : Expr}
theorem Post.ext {r : Fl × En} (h : Post W D S P H r) (x : Ext S P H S' P' H') : Post W D S' P' H' r := by
  obtain ⟨f, en'⟩ := r
  cases f with
  | nx => exact fun σ' H2 S2 P2 e2 R2 => h σ' H2 S2 P2 (x.trans e2) R2
  | bk => exact fun σ' H2 S2 P2 e2 R2 => h σ' H2 S2 P2 (x.trans e2) R2
  | ct => exact fun σ' H2 S2 P2 e2 R2 => h σ' H2 S2 P2 (x.trans e2) R2
  | rt c => exact fun v H2 S2 P2 e2 o R2 => h v H2 S2 P2 (x.trans e2) o R2
theorem ps_weak {t t' : TS} (h : PS X st t) (w : ∀ D σ H, t' D σ H → t D σ H) : PS X st t' := ⟨fun pins s σ H D I q => h.run pins s σ H D I (w D σ H q)⟩
theorem pss_weak {t t' : TS} (h : PSs X sts t) (w : ∀ D σ H, t' D σ H → t D σ H) : PSs X sts t' := ⟨fun pins s σ H D I q => h.run pins s σ H D I (w D σ H q)⟩
theorem z_nil : PSs X [] (TVS W sNx) := pss_weak pss_nil fun D σ H h => by
  obtain ⟨S, P, en, R, w⟩ := h
  exact w σ H S P .refl R
theorem z_cons (h1 : PS X st (TVS W rs)) (h2 : PSs X sts (TVS W rt)) : PSs X (st :: sts) (TVS W (sSeq rs rt)) := pss_weak (pss_cons h1 h2) fun D σ H h => by
  obtain ⟨S, P, en, R, w⟩ := h
  have w := (T.wp_bind _ _ _).mp w
  refine ⟨S, P, en, R, T.wp_mono w fun r q => ?_⟩
  obtain ⟨f, en1⟩ := r
  cases f with
  | nx => exact fun σ' H' S' P' e R' => ⟨S', P', en1, R', T.wp_mono q fun r q => q.ext e⟩
  | bk => exact q
  | ct => exact q
  | rt c => exact q
theorem z_pass : PS X (.Pass pos) (TVS W sNx) := ps_weak ps_pass fun D σ H h => by
  obtain ⟨S, P, en, R, w⟩ := h
  exact w σ H S P .refl R
theorem z_bk : PS X (.Break pos) (TVS W sBk) := ps_weak ps_break fun D σ H h => by
  obtain ⟨S, P, en, R, w⟩ := h
  exact w σ H S P .refl R
theorem z_ct : PS X (.Continue pos) (TVS W sCt) := ps_weak ps_continue fun D σ H h => by
  obtain ⟨S, P, en, R, w⟩ := h
  exact w σ H S P .refl R
theorem OpOk.put {i : Nat} {v : V} {a : Op × En} {e : En} (R : Rel W S P a.2 σ H) (ok : OpOk W S P a.2 σ H v a.1) (h : putO i a = some e) : Rel W S P e (σ.set i (some v)) H := by
  obtain ⟨o, en⟩ := a
  unfold putO at h
  split at h
  · rename_i hl
    cases o with
    | v d => cases h; exact R.put hl ok
    | fr d =>
      cases h
      obtain ⟨dv, p, u, rfl, hf, hu⟩ := ok
      exact R.take hl dv hf hu
    | b i => cases h
  · cases h
theorem tvs_set {i : Nat} (h : TVS W (sSet i ra) D σ H) : tAsg (TV W ra) (gName i) D σ H := by
  obtain ⟨S, P, en, R, w⟩ := h
  have w := (T.wp_bind _ _ _).mp w
  refine ⟨S, P, en, R, T.wp_mono w fun r q v H' S' P' e R' ok => ?_⟩
  obtain ⟨e', he, q⟩ := T.wp_ofOpt ((T.wp_bind _ _ _).mp q)
  exact q _ H' S' P' e (ok.put R' he)
theorem tvs_drop (h : TVS W (sDrop ra) D σ H) : tDrop (TV W ra) D σ H := by
  obtain ⟨S, P, en, R, w⟩ := h
  have w := (T.wp_bind _ _ _).mp w
  exact ⟨S, P, en, R, T.wp_mono w fun r q v H' S' P' e R' ok => q _ H' S' P' e R'⟩
theorem tvs_ret (h : TVS W (sRet ra) D σ H) : tRet (TV W ra) D σ H := by
  obtain ⟨S, P, en, R, w⟩ := h
  have w := (T.wp_bind _ _ _).mp w
  refine ⟨S, P, en, R, T.wp_mono w fun r q v H' S' P' e R' ok => ?_⟩
  obtain ⟨c, he, q⟩ := T.wp_ofOpt ((T.wp_bind _ _ _).mp q)
  refine q v H' S' P' e ⟨R'.sp, R'.dom, R'.dr, R'.drP⟩ ?_
  obtain ⟨o, en'⟩ := r
  cases o with
  | v d => cases he; exact ⟨ok.2, fun _ => ok.1, fun z => by cases z⟩
  | fr d =>
    cases he
    obtain ⟨dv, p, u, rfl, hf, hu⟩ := ok
    exact ⟨dv, (fun z => by cases z), fun _ => ⟨p, u, rfl, hf.1, hf.2.1, hf.2.2.1, hu⟩⟩
  | b i => cases he
theorem z_ret (h : PE X e (TV W ra)) : PS X (.Return (some e) pos) (TVS W (sRet ra)) := ps_weak (ps_ret h) fun _ _ _ h => tvs_ret h
theorem z_retN : PS X (.Return none pos) (TVS W sRetN) := ps_weak ps_retN fun D σ H h => by
  obtain ⟨S, P, en, R, w⟩ := h
  exact w .non H S P .refl ⟨R.sp, R.dom, R.dr, R.drP⟩ ⟨.non, fun _ => trivial, fun z => by cases z⟩
theorem z_if {c : Expr} {a b : List Stmt} {rc : RunT} (hc : PT X c (TVT W rc)) (ha : PSs X a (TVS W rs)) (hb : PSs X b (TVS W rt)) : PS X (.If c a b pos) (TVS W (sIf rc rs rt)) := ps_weak (ps_if hc ha hb) fun D σ H h => by
  obtain ⟨S, P, en, R, w⟩ := h
  have w := (T.wp_bind _ _ _).mp w
  refine ⟨S, P, en, R, T.wp_mono w fun r q H' S' P' e R' => ?_⟩
  obtain ⟨c, en1⟩ := r
  cases c with
  | true => exact ⟨S', P', en1, R', T.wp_mono q fun r q => q.ext e⟩
  | false => exact ⟨S', P', en1, R', T.wp_mono q fun r q => q.ext e⟩
theorem z_while {c : Expr} {a : List Stmt} {rc : RunT} {n : Nat} (hp : PassesOwn (model X.prog X.w) X.A X.env X.xe) (hc : PT X c (TVT W rc)) (ha : PSs X a (TVS W rs)) : PS X (.While c a [] pos) (TVS W (sWhile rc rs n)) := ps_weak (ps_while hp hc ha) fun D σ H h => by
  refine ⟨fun m σ H => ∃ S P en, Rel W S P en σ H ∧ (sWhile rc rs m en).wp (Post W D S P H), ⟨n, h⟩, ?_⟩
  rintro m σ H ⟨S, P, en, R, w⟩
  cases m with
  | zero => exact w.elim
  | succ m =>
    have w := (T.wp_bind _ _ _).mp w
    refine ⟨S, P, en, R, T.wp_mono w fun r q H' S' P' e R' => ?_⟩
    obtain ⟨c, en1⟩ := r
    cases c with
    | false => exact q σ H' S' P' e R'
    | true =>
      have q := (T.wp_bind _ _ _).mp q
      refine ⟨fun σ' H' => ∃ S P en, Rel W S P en σ' H' ∧ (sWhile rc rs m en).wp (Post W D S P H'), fun σ' H' h => ⟨m, Nat.lt_succ_self m, h⟩, S', P', en1, R', T.wp_mono q fun r q => ?_⟩
      obtain ⟨f, en2⟩ := r
      cases f with
      | nx => exact fun σ2 H2 S2 P2 e2 R2 => ⟨S2, P2, en2, R2, T.wp_mono q fun r q => q.ext (e.trans e2)⟩
      | ct => exact fun σ2 H2 S2 P2 e2 R2 => ⟨S2, P2, en2, R2, T.wp_mono q fun r q => q.ext (e.trans e2)⟩
      | bk => exact fun σ2 H2 S2 P2 e2 R2 => q σ2 H2 S2 P2 (e.trans e2) R2
      | rt c => exact fun v H2 S2 P2 e2 o R2 => q v H2 S2 P2 (e.trans e2) o R2
end
end Sx
set_option Elab.async false
set_option linter.all false
set_option maxRecDepth 100000
set_option maxHeartbeats 4000000
set_option autoImplicit false
namespace Sx
open PySem L2

/-! ### targets: a name, or a tuple of names -/
abbrev Tg := D → En → Option En
def GOk (W : Wd) (g : TG) (t : Tg) (is : List Nat) : Prop := ∀ (S P : Addr → Prop) (en en' : En) (v : V) (d : D) (σ : St) (H : Hp) (Q : St → Hp → Prop), Rel W S P en σ H → Dz W S H v d → t d en = some en' →
  (∀ σ', (∀ j, j ∉ is → σ'[j]? = σ[j]?) → σ'.length = σ.length → Rel W S P en' σ' H → Q σ' H) → g v σ H Q
def tgN (i : Nat) : Tg := fun d en => if i < en.length then some (en.set i (some (.fz, d))) else none
abbrev Tgs := List D → En → Option En
def GsOk (W : Wd) (g : TGs) (t : Tgs) (is : List Nat) : Prop := ∀ (S P : Addr → Prop) (en en' : En) (vs : List V) (ds : List D) (σ : St) (H : Hp) (Q : St → Hp → Prop), Rel W S P en σ H → DvL W S H vs ds → t ds en = some en' →
  (∀ σ', (∀ j, j ∉ is → σ'[j]? = σ[j]?) → σ'.length = σ.length → Rel W S P en' σ' H → Q σ' H) → g vs σ H Q
def tgNil : Tgs := fun ds en => match ds with
  | [] => some en
  | _ => none
def tgCons (t : Tg) (u : Tgs) : Tgs := fun ds en => match ds with
  | d :: r => (t d en).bind (u r)
  | [] => none
def tgTup (n : Nat) (u : Tgs) : Tg := fun d en => match d with
  | .tup ds => if ds.length = n then u ds en else none
  | _ => none
section
variable {W : Wd} {S P S' P' : Addr → Prop} {en : En} {σ : St} {H H' : Hp}
theorem g_name {i : Nat} : GOk W (gName i) (tgN i) [i] := by
  intro S P en en' v d σ H Q R dz ht k
  unfold tgN at ht
  split at ht
  · rename_i hl
    cases ht
    exact k _ (fun j hj => List.getElem?_set_ne (by rintro rfl; exact hj (by simp))) (by rw [List.length_set]) (R.put hl dz)
  · cases ht
theorem g_nil : GsOk W gNil tgNil [] := by
  intro S P en en' vs ds σ H Q R dl ht k
  cases ds with
  | nil => cases dl; cases ht; exact ⟨rfl, k σ (fun _ _ => rfl) rfl R⟩
  | cons d ds => cases ht
theorem g_cons {g : TG} {u : TGs} {t : Tg} {r : Tgs} {is js : List Nat} (h : GOk W g t is) (h2 : GsOk W u r js) : GsOk W (gCons g u) (tgCons t r) (is ++ js) := by
  intro S P en en' vs ds σ H Q R dl ht k
  cases ds with
  | nil => cases ht
  | cons d ds =>
    cases dl with
    | cons t1 d1 rl =>
      obtain ⟨e1, h1, ht⟩ := Option.bind_eq_some_iff.mp ht
      refine ⟨_, _, rfl, h S P en e1 _ d σ H _ R ⟨t1, d1⟩ h1 fun σ1 a1 l1 R1 => ?_⟩
      exact h2 S P e1 en' _ ds σ1 H Q R1 rl ht fun σ2 a2 l2 R2 => k σ2 (fun j hj => (a2 j fun z => hj (List.mem_append_right _ z)).trans (a1 j fun z => hj (List.mem_append_left _ z))) (l2.trans l1) R2
theorem g_tup {u : TGs} {r : Tgs} {n : Nat} {is : List Nat} (h : GsOk W u r is) : GOk W (gTup W.K n u) (tgTup n r) is := by
  intro S P en en' v d σ H Q R dz ht k
  cases d with
  | tup ds =>
    unfold tgTup at ht
    simp only at ht
    split at ht
    · rename_i hn
      obtain ⟨_, dv⟩ := dz
      cases dv with
      | tup hs dl =>
        refine ⟨_, _, rfl, ?_, dl.len.trans hn, h S P en en' _ ds σ H Q R dl ht k⟩
        rcases hs with ⟨_, hs⟩ | hs
        · exact SqT.of hs
        · rcases hs with (hs | ⟨_, hs⟩) | hs
          · cases hs
          · cases hs
          · exact .inr hs
    · cases ht
  | _ => cases ht
/-- what may be walked: in every heap that keeps P the i-th turn brings the i-th item -/
structure Walks (W : Wd) (S P : Addr → Prop) (H1 : Hp) (J : It) (ds : List D) : Prop where
  stop : ∀ i H, (∀ a, P a → H a = H1 a) → ds.length ≤ i → J.stop i H
  go : ∀ i H, (∀ a, P a → H a = H1 a) → i < ds.length → J.go i H
  yld : ∀ i H x H', (∀ a, P a → H a = H1 a) → i < ds.length → J.yld i H x H' → ∃ d, ds[i]? = some d ∧ ((H' = H ∧ Dz W S H x d) ∨ ∃ q xs es, x = .ref q ∧ H q = none ∧ H' = upd H q (.tup xs) ∧ d = .tup es ∧ DvL W S H xs es)
theorem Walks.turn {S2 P2 : Addr → Prop} {J : It} {H1 : Hp} {ds : List D} (w : Walks W S P H1 J ds) (R : Rel W S2 P2 en σ H) (hS : ∀ a, S a → S2 a) (hP : ∀ a, P a → P2 a ∧ H a = H1 a) {i : Nat} {x : V} (hi : i < ds.length) (y : J.yld i H x H') :
    ∃ d S3 P3, ds[i]? = some d ∧ Ext S2 P2 H S3 P3 H' ∧ Rel W S3 P3 en σ H' ∧ Dz W S3 H' x d := by
  obtain ⟨d, hd, h⟩ := w.yld i H x H' (fun a h => (hP a h).2) hi y
  rcases h with ⟨rfl, dz⟩ | ⟨q, xs, es, rfl, hq, rfl, rfl, dl⟩
  · exact ⟨d, S2, P2, hd, .refl, R, dz.mono hS fun _ _ => rfl⟩
  · have hd2 := R.dom
    have dl2 : DvL W S2 H xs es := dl.mono hS fun _ _ => rfl
    obtain ⟨e, R'⟩ := R.same (H' := upd H q (.tup xs)) (upd_keeps hq) (S' := add S2 q) (fun a h => .inl h) (fun a h => h.imp id fun e => by rw [e]; exact hq) (fun a h => h.elim (fun h => by obtain ⟨o, z⟩ := hd2 a h; exact ⟨o, upd_keeps hq a o z⟩) fun e => by subst e; exact ⟨_, upd_same⟩)
    exact ⟨_, _, _, hd, e, R', trivial, .tup (.inl ⟨.inr rfl, upd_same⟩) ((dl2.upd hd2 hq).mono (fun _ h => .inl h) fun _ _ => rfl)⟩
end

/-! ### for -/
abbrev RunI := En → T (List D × En)
/-- the walk's end: the name that was locked is its own again -/
def unl (l : Option Nat) (en : En) : En := match l with
  | none => en
  | some i => match en[i]? with
    | some (some (.lk, d)) => en.set i (some (.ow, d))
    | _ => en
def TVI (W : Wd) (run : RunI) (l : Option Nat) : TI := fun σ H R => ∃ S P en, Rel W S P en σ H ∧ (run en).wp fun r => ∀ J H' S' P' Pw, Ext S P H S' P' H' → Rel W S' Pw r.2 σ H' → (∀ a, P' a → Pw a) →
  (∀ S2 P2 en2 σ2 H2, (l = none ∨ σ2 = σ) → Ext S' Pw H' S2 P2 H2 → Rel W S2 P2 en2 σ2 H2 → ∃ P3, (∀ a, P3 a → P2 a) ∧ Ext S' P' H' S2 P3 H2 ∧ Rel W S2 P3 (unl l en2) σ2 H2) → (l = none → Pw = P') → Walks W S' Pw H' J r.1 → R J H'
def sForL (l : Option Nat) (t : Tg) (rb : RunS) : List D → RunS
  | [] => fun en => .ret (.nx, unl l en)
  | d :: ds => fun en => (T.ofOpt (t d en)).bind fun en => (rb en).bind fun r => (match r.1 with
      | .nx => sForL l t rb ds r.2
      | .ct => sForL l t rb ds r.2
      | .bk => .ret (.nx, unl l r.2)
      | .rt c => .ret (.rt c, r.2))
def sFor (ri : RunI) (l : Option Nat) (t : Tg) (rb : RunS) : RunS := fun en => (ri en).bind fun a => sForL l t rb a.1 a.2
section
variable {W : Wd} {X : Cx} {pos : Pos} {rs : RunS} {ri : RunI} {l : Option Nat} {g : TG} {t : Tg} {is : List Nat}
theorem ROk.less {S P P3 : Addr → Prop} {H : Hp} {v : V} {c : Bool × D} (h : ROk W S P H v c) (hp : ∀ a, P3 a → P a) : ROk W S P3 H v c :=
  ⟨h.1, h.2.1, fun z => by obtain ⟨p, o, e, n, r⟩ := h.2.2 z; exact ⟨p, o, e, fun w => n (hp p w), r⟩⟩
theorem z_for {tg iter : Expr} {a : List Stmt} (hp : PassesOwn (model X.prog X.w) X.A X.env X.xe) (hc : X.calm = true) (hi : PI X tg iter (TVI W ri none)) (hg : PG X tg g) (gk : GOk W g t is) (hb : PSs X a (TVS W rs)) (hs : ∀ x, foldedSetIterable iter X.env x = pure x) :
    PS X (.For tg iter a [] pos) (TVS W (sFor ri none t rs)) := ps_weak (ps_for hp hc hi hg hb (hs := hs)) fun D σ H h => by
  obtain ⟨S, P, en, R, w⟩ := h
  have w := (T.wp_bind _ _ _).mp w
  refine ⟨S, P, en, R, T.wp_mono w fun r q J H1 S1 P1 Pw e1 R1 hPw hun hrt wk => ?_⟩
  obtain rfl := hrt rfl
  have q := q
  refine ⟨fun i m σ2 H2 => i ≤ r.1.length ∧ m = r.1.length - i ∧ ∃ S2 P2 en2, Ext S1 Pw H1 S2 P2 H2 ∧ Rel W S2 P2 en2 σ2 H2 ∧ (sForL none t rs (r.1.drop i) en2).wp (Post W D S P H), ⟨_, Nat.zero_le _, rfl, S1, Pw, r.2, .refl, R1, q⟩, ?_⟩
  rintro i m σ2 H2 ⟨hi, rfl, S2, P2, en2, e2, R2, w2⟩
  by_cases hlt : i < r.1.length
  · refine .inr ⟨wk.go i H2 (fun a h => e2.h a h) hlt, fun σ3 H3 => ∃ S3 P3 en3, Ext S1 Pw H1 S3 P3 H3 ∧ Rel W S3 P3 en3 σ3 H3 ∧ (sForL none t rs (r.1.drop (i + 1)) en3).wp (Post W D S P H), fun σ3 H3 z => ⟨r.1.length - (i + 1), by omega, hlt, rfl, z⟩, fun x H3 y => ?_⟩
    obtain ⟨d, S3, P3, hd, e3, R3, dz⟩ := wk.turn R2 e2.s (fun a h => ⟨e2.p a h, e2.h a h⟩) hlt y
    have hdrop : r.1.drop i = d :: r.1.drop (i + 1) := by
      rw [List.drop_eq_getElem_cons hlt]
      congr 1
      have := List.getElem?_eq_getElem hlt
      rw [hd] at this
      exact (Option.some.inj this).symm
    rw [hdrop] at w2
    obtain ⟨en3, ht, w3⟩ := T.wp_ofOpt ((T.wp_bind _ _ _).mp w2)
    refine gk S3 P3 en2 en3 x d σ2 H3 _ R3 dz ht fun σ3 _ _ R4 => ?_
    have w3 := (T.wp_bind _ _ _).mp w3
    have e13 := e2.trans e3
    refine ⟨S3, P3, en3, R4, T.wp_mono w3 fun r4 q4 => ?_⟩
    obtain ⟨f, en4⟩ := r4
    cases f with
    | nx => exact fun σ5 H5 S5 P5 e5 R5 => ⟨S5, P5, en4, e13.trans e5, R5, q4⟩
    | ct => exact fun σ5 H5 S5 P5 e5 R5 => ⟨S5, P5, en4, e13.trans e5, R5, q4⟩
    | bk =>
      intro σ5 H5 S5 P5 e5 R5
      obtain ⟨P6, _, e6, R6⟩ := hun S5 P5 en4 σ5 H5 (.inl rfl) (e13.trans e5) R5
      exact q4 σ5 H5 S5 P6 (e1.trans e6) R6
    | rt c =>
      intro v H5 S5 P5 e5 o5 ok
      exact q4 v H5 S5 P5 (e1.trans (e13.trans e5)) o5 ok
  · have ei : i = r.1.length := by omega
    subst ei
    rw [List.drop_length] at w2
    obtain ⟨P3, _, e3, R3⟩ := hun S2 P2 en2 σ2 H2 (.inl rfl) e2 R2
    exact .inl ⟨wk.stop _ H2 (fun a h => e2.h a h) (Nat.le_refl _), w2 σ2 H2 S2 P3 (e1.trans e3) R3⟩

end
/-! ### what is locked stays so: no run locks a name -/
namespace T
variable {α β : Type}
def all : T α → (α → Prop) → Prop
  | .ret a, Q => Q a
  | .fail, _ => True
  | .ch n k, Q => ∀ i, i < n → (k i).all Q
theorem all_bind {t : T α} {f : α → T β} {Q : β → Prop} (h : t.all fun a => (f a).all Q) : (t.bind f).all Q := by
  induction t with
  | ret a => exact h
  | fail => trivial
  | ch n k ih => exact fun i hi => ih i (h i hi)
theorem all_mono {t : T α} {Q R : α → Prop} (h : t.all Q) (m : ∀ a, Q a → R a) : t.all R := by
  induction t with
  | ret a => exact m a h
  | fail => trivial
  | ch n k ih => exact fun i hi => ih i (h i hi)
theorem all_triv {t : T α} {Q : α → Prop} (m : ∀ a, Q a) : t.all Q := by
  induction t with
  | ret a => exact m a
  | fail => trivial
  | ch n k ih => exact fun i hi => ih i
theorem wp_all {t : T α} {Q R : α → Prop} (h : t.wp Q) (g : t.all R) : t.wp fun a => Q a ∧ R a := by
  induction t with
  | ret a => exact ⟨h, g⟩
  | fail => exact h
  | ch n k ih => exact fun i hi => ih i (h i hi) (g i hi)
theorem all_ofOpt {o : Option α} {Q : α → Prop} (h : ∀ a, o = some a → Q a) : (ofOpt o).all Q := by
  cases o with
  | none => trivial
  | some a => exact h a rfl
end T
def LkSub (en' en : En) : Prop := ∀ (i : Nat) (d : D), en'[i]? = some (some (.lk, d)) → ∃ d', en[i]? = some (some (.lk, d'))
theorem LkSub.refl (en : En) : LkSub en en := fun _ d h => ⟨d, h⟩
theorem LkSub.trans {a b c : En} (h : LkSub a b) (g : LkSub b c) : LkSub a c := fun i d e => by obtain ⟨d', e'⟩ := h i d e; exact g i d' e'
theorem LkSub.set {en : En} {i : Nat} {s : Slot} (h : ∀ d, s ≠ some (.lk, d)) : LkSub (en.set i s) en := fun j d e => by
  rcases set_get e with ⟨_, q⟩ | ⟨_, q⟩
  · exact absurd q (h d)
  · exact ⟨d, q⟩
def ShR (r : Run) : Prop := ∀ en, (r en).all fun a => LkSub a.2 en
def ShT (r : RunT) : Prop := ∀ en, (r en).all fun a => LkSub a.2 en

/-! ### list comprehensions -/
def wip (en : En) : List Nat → En
  | [] => en
  | v :: vs => (wip en vs).set v none
def back (en en0 : En) : List Nat → En
  | [] => en
  | v :: vs => (back en en0 vs).set v (match en0[v]? with
    | some (some (.fz, d)) => some (.fz, d)
    | _ => none)
def valO : Op → Option D
  | .v d => some d
  | .fr d => some d
  | .b _ => none
def rLcL (t : Tg) (rt : RunT) (re : Run) (vs : List Nat) : List D → En → List D → T (List D × En)
  | [], en, acc => .ret (acc, en)
  | d :: ds, en, acc => (T.ofOpt (t d en)).bind fun en1 => (rt en1).bind fun b => if b.1 then (re b.2).bind fun o => (T.ofOpt (valO o.1)).bind fun y => rLcL t rt re vs ds (wip o.2 vs) (acc ++ [y]) else rLcL t rt re vs ds (wip b.2 vs) acc
def rLc (ri : RunI) (l : Option Nat) (t : Tg) (rt : RunT) (re : Run) (vs : List Nat) : Run := fun en => (ri en).bind fun a => if a.1.length ≤ 4096 then (rLcL t rt re vs a.1 (wip a.2 vs) []).bind fun r => .ret (.fr (.lst r.1), unl l (back r.2 a.2 vs)) else .fail
section
variable {W : Wd} {S P S' P' : Addr → Prop} {en en0 : En} {σ σ2 : St} {H H' : Hp}
theorem wipe_at {σ : St} {j : Nat} : ∀ {vs : List Nat}, j ∉ vs → (wipe σ vs)[j]? = σ[j]?
  | [], _ => rfl
  | v :: vs, h => by
    show ((wipe σ vs).set v none)[j]? = _
    rw [List.getElem?_set_ne (by rintro rfl; exact h List.mem_cons_self)]
    exact wipe_at fun z => h (List.mem_cons_of_mem _ z)
theorem wip_len {en : En} : ∀ (vs : List Nat), (wip en vs).length = en.length
  | [] => rfl
  | v :: vs => by show ((wip en vs).set v none).length = _; rw [List.length_set, wip_len vs]
theorem wip_get {en : En} {i : Nat} {f : Fg} {d : D} : ∀ {vs : List Nat}, (wip en vs)[i]? = some (some (f, d)) → i ∉ vs ∧ en[i]? = some (some (f, d))
  | [], h => ⟨by simp, h⟩
  | v :: vs, h => by
    have h : ((wip en vs).set v none)[i]? = some (some (f, d)) := h
    rcases set_get h with ⟨_, q⟩ | ⟨ne, q⟩
    · cases q
    · obtain ⟨a, b⟩ := wip_get q
      exact ⟨by simp only [List.mem_cons, not_or]; exact ⟨fun e => ne e.symm, a⟩, b⟩
theorem back_len {en en0 : En} : ∀ (vs : List Nat), (back en en0 vs).length = en.length
  | [] => rfl
  | v :: vs => by show ((back en en0 vs).set v _).length = _; rw [List.length_set, back_len vs]
theorem back_get {en en0 : En} {i : Nat} {f : Fg} {d : D} : ∀ {vs : List Nat}, (back en en0 vs)[i]? = some (some (f, d)) → (i ∈ vs ∧ f = .fz ∧ en0[i]? = some (some (f, d))) ∨ (i ∉ vs ∧ en[i]? = some (some (f, d)))
  | [], h => .inr ⟨by simp, h⟩
  | v :: vs, h => by
    have h : ((back en en0 vs).set v (match en0[v]? with
      | some (some (.fz, d)) => some (.fz, d)
      | _ => none))[i]? = some (some (f, d)) := h
    rcases set_get h with ⟨rfl, q⟩ | ⟨ne, q⟩
    · split at q
      · rename_i d' e
        cases q
        exact .inl ⟨List.mem_cons_self, rfl, e⟩
      · cases q
    · rcases back_get q with ⟨a, b⟩ | ⟨a, b⟩
      · exact .inl ⟨List.mem_cons_of_mem _ a, b⟩
      · exact .inr ⟨by simp only [List.mem_cons, not_or]; exact ⟨fun e => ne e.symm, a⟩, b⟩
theorem wipe_eq {σ σ2 : St} {vs is : List Nat} (his : ∀ i ∈ is, i ∈ vs) (h : ∀ j, j ∉ is → σ2[j]? = (wipe σ vs)[j]?) (hl : σ2.length = (wipe σ vs).length) : wipe σ2 vs = wipe σ vs := by
  have wn : ∀ (τ : St) (j : Nat) (us : List Nat), j ∈ us → j < τ.length → (wipe τ us)[j]? = some none := by
    intro τ j us
    induction us with
    | nil => intro h; simp at h
    | cons u us ih =>
      intro h hlt
      show ((wipe τ us).set u none)[j]? = some none
      by_cases e : u = j
      · subst e; rw [List.getElem?_set_self (by rw [wipe_length]; exact hlt)]
      · rw [List.getElem?_set_ne e]
        exact ih ((List.mem_cons.mp h).resolve_left fun z => e z.symm) hlt
  apply List.ext_getElem?
  intro j
  by_cases hj : j ∈ vs
  · by_cases hlt : j < σ.length
    · rw [wn σ2 j vs hj (by rw [hl, wipe_length]; exact hlt), wn σ j vs hj hlt]
    · rw [List.getElem?_eq_none (by rw [wipe_length, hl, wipe_length]; omega), List.getElem?_eq_none (by rw [wipe_length]; omega)]
  · rw [wipe_at hj]
    exact h j fun z => hj (his j z)
/-- the comprehension's names are forgotten -/
theorem Rel.wipe (R : Rel W S P en σ2 H) {vs is : List Nat} (his : ∀ i ∈ is, i ∈ vs) (h : ∀ j, j ∉ is → σ2[j]? = (L2.wipe σ vs)[j]?) (hl : σ2.length = σ.length) : Rel W S P (wip en vs) (L2.wipe σ vs) H := by
  refine ⟨R.sp, R.pd, fun i f d e => ?_, fun i j f g d e v h1 h2 h3 h4 h5 h6 => ?_, by rw [wip_len, wipe_length, ← hl]; exact R.len, R.dr, R.drP⟩
  · obtain ⟨hi, e⟩ := wip_get e
    rw [← h i fun z => hi (his i z)]
    exact R.slot i f d e
  · obtain ⟨hi, e1⟩ := wip_get h1
    obtain ⟨hj, e2⟩ := wip_get h2
    rw [← h i fun z => hi (his i z)] at h5
    rw [← h j fun z => hj (his j z)] at h6
    exact R.inj i j f g d e v e1 e2 h3 h4 h5 h6
theorem Rel.wipe0 (R : Rel W S P en σ H) (vs : List Nat) : Rel W S P (wip en vs) (L2.wipe σ vs) H := by
  refine ⟨R.sp, R.pd, fun i f d e => ?_, fun i j f g d e v h1 h2 h3 h4 h5 h6 => ?_, by rw [wip_len, wipe_length]; exact R.len, R.dr, R.drP⟩
  · obtain ⟨hi, e⟩ := wip_get e
    rw [wipe_at hi]
    exact R.slot i f d e
  · obtain ⟨hi, e1⟩ := wip_get h1
    obtain ⟨hj, e2⟩ := wip_get h2
    rw [wipe_at hi] at h5
    rw [wipe_at hj] at h6
    exact R.inj i j f g d e v e1 e2 h3 h4 h5 h6
/-- an object that no name holds is guarded -/
theorem Rel.guard {p : Addr} {u : HO} (R : Rel W S P en σ H) (hp : Free W P en σ p) (ho : H p = some u) : Rel W S (add P p) en σ H := by
  refine ⟨fun a h => .inl (R.sp a h), fun a h => h.elim (R.pd a) fun e => ⟨u, by rw [e]; exact ho⟩, fun i f d e => ?_, R.inj, R.len, R.dr, ⟨fun w => w.elim R.drP.1 fun e => hp.2.1 e.symm, fun w => w.elim R.drP.2 fun e => hp.2.2.1 e.symm⟩⟩
  obtain ⟨v, hv, dv, t, ow⟩ := R.slot i f d e
  refine ⟨v, hv, dv, t, fun z => ?_⟩
  obtain ⟨q, o, ev, hs, hq, hl, h1, h2, h3⟩ := ow z
  have ne : q ≠ p := fun eq => by
    subst eq
    exact hp.2.2.2 i f d e z (by rw [hv, ev])
  exact ⟨q, o, ev, hs, fun y w => w.elim (hq y) ne, fun y => .inl (hl y), h1, h2, h3⟩
/-- a guarded object is changed, and let go -/
theorem Rel.turn {p : Addr} {u : HO} (R : Rel W S P en σ H) (hp : P p) (hs : ¬ S p) (hlk : ∀ (i : Nat) (d : D), en[i]? = some (some (.lk, d)) → σ[i]? ≠ some (some (.ref p))) :
    Rel W S (fun a => P a ∧ a ≠ p) en σ (upd H p u) ∧ Free W (fun a => P a ∧ a ≠ p) en σ p := by
  have neS : ∀ a, S a → a ≠ p := fun a h e => hs (e ▸ h)
  have pda : p ≠ W.da ∧ p ≠ W.db := ⟨fun e => R.drP.1 (e ▸ hp), fun e => R.drP.2 (e ▸ hp)⟩
  have nep : ∀ (i : Nat) (f : Fg) (d : D), en[i]? = some (some (f, d)) → f ≠ .fz → σ[i]? ≠ some (some (.ref p)) := by
    intro i f d e nf hv
    cases f with
    | fz => exact nf rfl
    | lk => exact hlk i d e hv
    | ow =>
      obtain ⟨v, hv', _, _, ow⟩ := R.slot i .ow d e
      obtain ⟨q, o, ev, _, hq, _⟩ := ow nf
      rw [hv] at hv'
      cases hv'
      cases ev
      exact hq rfl hp
  refine ⟨⟨fun a h => ⟨R.sp a h, neS a h⟩, fun a h => by rw [upd_ne h.2]; exact R.pd a h.1, fun i f d e => ?_, R.inj, R.len, ?_, ⟨fun w => R.drP.1 w.1, fun w => R.drP.2 w.1⟩⟩, ⟨fun w => w.2 rfl, pda.1, pda.2, nep⟩⟩
  · obtain ⟨v, hv, dv, t, ow⟩ := R.slot i f d e
    refine ⟨v, hv, dv.mono (fun _ h => h) (fun a h => upd_ne (neS a h)) ?_, t, fun z => ?_⟩
    · by_cases hf : f = .fz
      · exact (t hf).mono fun a h => upd_ne (neS a h)
      · obtain ⟨q, o, ev, _⟩ := ow hf
        subst ev
        have ne : q ≠ p := fun eq => nep i f d e hf (by rw [hv, eq])
        have : upd H p u q = H q := upd_ne ne
        cases d <;> first | exact trivial | exact this
    · obtain ⟨q, o, ev, hs', hq, hl, h1, h2, h3⟩ := ow z
      have ne : q ≠ p := fun eq => nep i f d e z (by rw [hv, ev, eq])
      exact ⟨q, o, ev, hs', fun y w => hq y w.1, fun y => ⟨hl y, ne⟩, h1, h2, by rw [upd_ne ne]; exact h3⟩
  · obtain ⟨ne, ns, i, j, k, h1, h2, h3⟩ := R.dr
    exact ⟨ne, ns, i, j, k, by rw [upd_ne pda.1.symm]; exact h1, by rw [upd_ne pda.2.symm]; exact h2, h3⟩
end
end Sx
set_option Elab.async false
set_option linter.all false
set_option maxRecDepth 100000
set_option maxHeartbeats 4000000
set_option autoImplicit false
namespace Sx
open PySem L2
section
variable {W : Wd} {X : Cx} {pos : Pos} {ri : RunI} {l : Option Nat} {g : TG} {t : Tg} {is : List Nat} {rt : RunT} {re : Run}
theorem DvL.snoc {S : Addr → Prop} {H : Hp} {vs : List V} {ds : List D} {v : V} {d : D} (h : DvL W S H vs ds) (z : Dz W S H v d) : DvL W S H (vs ++ [v]) (ds ++ [d]) := by
  induction ds generalizing vs with
  | nil => cases h; exact .cons z.1 z.2 .nil
  | cons e es ih => cases h with | cons t1 d1 r => exact .cons t1 d1 (ih r)
theorem OpOk.valz {S P : Addr → Prop} {en : En} {σ : St} {H : Hp} {v : V} {o : Op} {y : D} (R : Rel W S P en σ H) (h : OpOk W S P en σ H v o) (e : valO o = some y) : ∃ S' P', Ext S P H S' P' H ∧ Rel W S' P' en σ H ∧ Dz W S' H v y := by
  cases o with
  | v d => cases e; exact ⟨S, P, .refl, R, h⟩
  | b i => cases e
  | fr d' =>
    cases e
    exact OpOk.settle (o := .fr _) R h
theorem drop_at {α : Type} {l : List α} {i : Nat} {d : α} (h : l[i]? = some d) : l.drop i = d :: l.drop (i + 1) := by
  have hlt := lt_of_get h
  rw [List.drop_eq_getElem_cons hlt]
  congr 1
  have := List.getElem?_eq_getElem hlt
  rw [h] at this
  exact (Option.some.inj this).symm
theorem unl_nf {l : Option Nat} {en : En} {i : Nat} {f : Fg} {d : D} (h : (unl l en)[i]? = some (some (f, d))) (nf : f ≠ .fz) : ∃ g e, en[i]? = some (some (g, e)) ∧ g ≠ .fz := by
  cases l with
  | none => exact ⟨f, d, h, nf⟩
  | some j =>
    unfold unl at h
    simp only at h
    split at h
    · rename_i d' e
      rcases set_get h with ⟨rfl, q⟩ | ⟨_, q⟩
      · exact ⟨.lk, d', e, by decide⟩
      · exact ⟨f, d, q, nf⟩
    · exact ⟨f, d, h, nf⟩
/-- behind the walk the outer names stand again -/
theorem Rel.back {S1 P1 S P : Addr → Prop} {en1 en : En} {σ : St} {H1 H : Hp} {vs : List Nat} (R1 : Rel W S1 P1 en1 σ H1) (e : Ext S1 P1 H1 S P H) (R : Rel W S P en (L2.wipe σ vs) H) : Rel W S P (Sx.back en en1 vs) σ H := by
  refine ⟨R.sp, R.pd, fun i f d q => ?_, fun i j f g d e' v h1 h2 h3 h4 h5 h6 => ?_, by rw [back_len, R.len, wipe_length], R.dr, R.drP⟩
  · rcases back_get q with ⟨hi, rfl, q⟩ | ⟨hi, q⟩
    · obtain ⟨v, hv, dv, tn, _⟩ := R1.slot i .fz d q
      have dz : Dz W S H v d := R1.top e ⟨tn rfl, dv⟩
      exact ⟨v, hv, dz.2, fun _ => dz.1, fun z => absurd rfl z⟩
    · rw [← wipe_at hi]; exact R.slot i f d q
  · rcases back_get h1 with ⟨_, rfl, _⟩ | ⟨hi, q1⟩
    · exact absurd rfl h3
    · rcases back_get h2 with ⟨_, rfl, _⟩ | ⟨hj, q2⟩
      · exact absurd rfl h4
      · rw [← wipe_at hi] at h5
        rw [← wipe_at hj] at h6
        exact R.inj i j f g d e' v q1 q2 h3 h4 h5 h6
/-- a target locks nothing -/
def ShG (t : Tg) (is : List Nat) : Prop := ∀ d en en', t d en = some en' → LkSub en' en ∧ ∀ j ∈ is, ∀ d', en'[j]? ≠ some (some (.lk, d'))
theorem tv_lc {vs : List Nat} (gk : GOk W g t is) (sg : ShG t is) (his : ∀ i ∈ is, i ∈ vs) (ht : ShT rt) (he : ShR re) (hsz : (4096 : Nat) < sizeLine) {σ : St} {H : Hp} {Q : VK} (h : TV W (rLc ri l t rt re vs) σ H Q) :
    tLc (TVI W ri l) g (TVT W rt) (TV W re) vs σ H Q := by
  obtain ⟨S, P, en, R, w⟩ := h
  have w := (T.wp_bind _ _ _).mp w
  refine ⟨S, P, en, R, T.wp_mono w fun r q J H1 S1 P1 Pw e1 R1 hPw hun _ wk => ?_⟩
  intro Da hD
  have q : (if r.1.length ≤ 4096 then (rLcL t rt re vs r.1 (wip r.2 vs) []).bind fun r' => T.ret (Op.fr (.lst r'.1), unl l (back r'.2 r.2 vs)) else T.fail).wp _ := q
  split at q
  case isFalse => exact q.elim
  rename_i hlen
  have q := (T.wp_bind _ _ _).mp q
  have pwd : ∀ a, Pw a → a ≠ Da := fun a h z => by obtain ⟨o, e⟩ := R1.pd a h; rw [z, hD] at e; cases e
  have dd1 : Da ≠ W.da ∧ Da ≠ W.db := by
    obtain ⟨ne, ns, i, j, k, h1, h2, h3⟩ := R1.dr
    exact ⟨fun z => (by rw [← z, hD] at h1; cases h1), fun z => (by rw [← z, hD] at h2; cases h2)⟩
  -- the start
  have e0 : Ext S1 Pw H1 S1 Pw (upd H1 Da (.lst [])) := ⟨fun _ h => h, fun _ h => h, fun a h => upd_ne (pwd a h), fun _ h => .inl h⟩
  have R0 : Rel W S1 Pw (wip r.2 vs) (wipe σ vs) (upd H1 Da (.lst [])) ∧ Free W Pw (wip r.2 vs) (wipe σ vs) Da := by
    obtain ⟨_, R0⟩ := (R1.wipe0 vs).same (upd_keeps (u := .lst []) hD) (fun _ h => h) (fun _ h => .inl h) (fun a h => by obtain ⟨o, e⟩ := R1.dom a h; exact ⟨o, upd_keeps hD a o e⟩)
    have R0' : Rel W S1 Pw (wip r.2 vs) (wipe σ vs) (upd H1 Da (.lst [])) := by
      have eq : (fun a => Pw a ∨ S1 a) = Pw := by funext a; exact propext ⟨fun h => h.elim id (R1.sp a), .inl⟩
      rw [eq] at R0; exact R0
    refine ⟨R0', fun h => pwd Da h rfl, dd1.1, dd1.2, fun i f d e nf hv => ?_⟩
    obtain ⟨v, hv', _, _, ow⟩ := (R1.wipe0 vs).slot i f d e
    obtain ⟨q, o, ev, _, _, _, _, _, h3⟩ := ow nf
    rw [hv'] at hv
    cases hv
    cases ev
    rw [hD] at h3; cases h3
  refine ⟨fun i m H2 => i ≤ r.1.length ∧ m = r.1.length - i ∧ ∃ S2 P2 en2 acc accD, Ext S1 Pw H1 S2 P2 H2 ∧ Rel W S2 P2 en2 (wipe σ vs) H2 ∧ ¬ S2 Da ∧ Free W P2 en2 (wipe σ vs) Da ∧ H2 Da = some (.lst acc) ∧ DvL W S2 H2 acc accD ∧ acc.length ≤ i ∧
    (rLcL t rt re vs (r.1.drop i) en2 accD).wp fun r' => ∀ v H' S' P', Ext S P H S' P' H' → Rel W S' P' (unl l (Sx.back r'.2 r.2 vs)) σ H' → OpOk W S' P' (unl l (Sx.back r'.2 r.2 vs)) σ H' v (.fr (.lst r'.1)) → Q v H',
    ⟨_, Nat.zero_le _, rfl, S1, Pw, wip r.2 vs, [], [], e0, R0.1, fun h => pwd Da (R1.sp Da h) rfl, R0.2, upd_same, .nil, Nat.zero_le _, q⟩, ?_⟩
  rintro i m H2 ⟨hi, rfl, S2, P2, en2, acc, accD, e2, R2, nS, fD, hD2, dl, hacc, w2⟩
  by_cases hlt : i < r.1.length
  case neg =>
    have ei : i = r.1.length := by omega
    subst ei
    rw [List.drop_length] at w2
    refine .inl ⟨wk.stop _ H2 (fun a h => e2.h a h) (Nat.le_refl _), ?_⟩
    obtain ⟨P3, hP3, e3, R3⟩ := hun S2 P2 (Sx.back en2 r.2 vs) σ H2 (.inr rfl) e2 (R1.back e2 R2)
    refine w2 (.ref Da) H2 S2 P3 (e1.trans e3) R3 ⟨.lst hD2 dl, Da, _, rfl, ⟨fun h => fD.1 (hP3 Da h), dd1.1, dd1.2, fun j f d e nf hv => ?_⟩, hD2⟩
    obtain ⟨g', d', e', nf'⟩ := unl_nf e nf
    rcases back_get e' with ⟨_, rfl, _⟩ | ⟨hj, q1⟩
    · exact absurd rfl nf'
    · rw [← wipe_at hj] at hv
      exact fD.2.2.2 j g' d' q1 nf' hv
  refine .inr ⟨wk.go i H2 (fun a h => e2.h a h) hlt, fun H3 => ∃ S2 P2 en2 acc accD, Ext S1 Pw H1 S2 P2 H3 ∧ Rel W S2 P2 en2 (wipe σ vs) H3 ∧ ¬ S2 Da ∧ Free W P2 en2 (wipe σ vs) Da ∧ H3 Da = some (.lst acc) ∧ DvL W S2 H3 acc accD ∧ acc.length ≤ i + 1 ∧
    (rLcL t rt re vs (r.1.drop (i + 1)) en2 accD).wp fun r' => ∀ v H' S' P', Ext S P H S' P' H' → Rel W S' P' (unl l (Sx.back r'.2 r.2 vs)) σ H' → OpOk W S' P' (unl l (Sx.back r'.2 r.2 vs)) σ H' v (.fr (.lst r'.1)) → Q v H',
    fun H3 z => ⟨r.1.length - (i + 1), by omega, hlt, rfl, z⟩, fun x H3 y => ?_⟩
  -- Da guarded through the turn
  have Rg := R2.guard fD hD2
  have eg : Ext S2 P2 H2 S2 (add P2 Da) H2 := ⟨fun _ h => h, fun a h => .inl h, fun _ _ => rfl, fun _ h => .inl h⟩
  obtain ⟨d, S3, P3, hd, e3, R3, dz⟩ := wk.turn Rg (fun a h => e2.s a h) (fun a h => ⟨.inl (e2.p a h), e2.h a h⟩) hlt y
  have nS3 : ¬ S3 Da := fun h => (e3.n Da h).elim nS fun z => z (.inr rfl)
  have hD3 : H3 Da = some (.lst acc) := (e3.h Da (.inr rfl)).trans hD2
  rw [drop_at hd] at w2
  obtain ⟨en3, htg, w3⟩ := T.wp_ofOpt ((T.wp_bind _ _ _).mp w2)
  refine gk S3 P3 en2 en3 x d (wipe σ vs) H3 _ R3 dz htg fun σ3 ha hl R4 => ⟨wipe_eq his ha hl, ?_⟩
  -- no locked name holds Da
  obtain ⟨sg1, sg2⟩ := sg d en2 en3 htg
  have lk3 : ∀ (j : Nat) (d' : D), en3[j]? = some (some (.lk, d')) → σ3[j]? ≠ some (some (.ref Da)) := by
    intro j d' e hv
    by_cases hj : j ∈ is
    · exact sg2 j hj d' e
    · rw [ha j hj] at hv
      obtain ⟨d2, e2'⟩ := sg1 j d' e
      exact fD.2.2.2 j .lk d2 e2' (by decide) hv
  have w3 := (T.wp_bind _ _ _).mp w3
  have w3 := T.wp_all w3 (ht en3)
  have e13 : Ext S1 Pw H1 S3 P3 H3 := (e2.trans eg).trans e3
  refine ⟨S3, P3, en3, R4, T.wp_mono w3 fun b ⟨q4, sb⟩ H4 S4 P4 e4 R5 => ?_⟩
  have nS4 : ¬ S4 Da := fun h => (e4.n Da h).elim nS3 fun z => z (e3.p Da (.inr rfl))
  have pD4 : P4 Da := e4.p Da (e3.p Da (.inr rfl))
  have hD4 : H4 Da = some (.lst acc) := (e4.h Da (e3.p Da (.inr rfl))).trans hD3
  have lk4 : ∀ (j : Nat) (d' : D), b.2[j]? = some (some (.lk, d')) → σ3[j]? ≠ some (some (.ref Da)) := fun j d' e => by
    obtain ⟨d2, e'⟩ := sb j d' e
    exact lk3 j d2 e'
  have dl4 : DvL W S4 H4 acc accD := (dl.mono (fun a h => e3.s a h) fun a h => e3.h a (.inl (R2.sp a h))).mono (fun a h => e4.s a h) fun a h => e4.h a (R3.sp a h)
  have drop0 : ∀ (S5 P5 : Addr → Prop) (H5 : Hp), Ext S1 Pw H1 S5 P5 H5 → ¬ S5 Da → ∀ u, Ext S1 Pw H1 S5 (fun a => P5 a ∧ a ≠ Da) (upd H5 Da u) := fun S5 P5 H5 e nS5 u =>
    ⟨e.s, fun a h => ⟨e.p a h, pwd a h⟩, fun a h => (upd_ne (pwd a h)).trans (e.h a h), e.n⟩
  have same : ∀ (H5 : Hp) (u : HO), H5 Da = some u → upd H5 Da u = H5 := fun H5 u e => by
    funext a
    by_cases h : a = Da
    · subst h; rw [upd_same, e]
    · exact upd_ne h
  obtain ⟨bb, enb⟩ := b
  cases bb with
  | false =>
    obtain ⟨R6, f6⟩ := R5.turn (u := .lst acc) pD4 nS4 lk4
    rw [same H4 _ hD4] at R6
    have d0 := drop0 S4 P4 H4 (e13.trans e4) nS4 (.lst acc)
    rw [same H4 _ hD4] at d0
    refine ⟨S4, _, wip enb vs, acc, accD, d0, R6.wipe his ha (by rw [hl, wipe_length]), nS4, ⟨f6.1, dd1.1, dd1.2, fun j f d' e nf hv => ?_⟩, hD4, dl4, Nat.le_succ_of_le hacc, q4⟩
    obtain ⟨hj, e'⟩ := wip_get e
    rw [wipe_at hj] at hv
    rw [← wipe_at hj, ← ha j fun z => hj (his j z)] at hv
    exact f6.2.2.2 j f d' e' nf hv
  | true =>
    have q4 := (T.wp_bind _ _ _).mp q4
    have q4 := T.wp_all q4 (he enb)
    refine ⟨S4, P4, enb, R5, T.wp_mono q4 fun o ⟨q5, so⟩ yv H5 S5 P5 e5 R6 ok => ?_⟩
    obtain ⟨yd, hy, q5⟩ := T.wp_ofOpt ((T.wp_bind _ _ _).mp q5)
    have nS5 : ¬ S5 Da := fun h => (e5.n Da h).elim nS4 fun z => z pD4
    obtain ⟨S6, P6, e6, R7, dz6⟩ := ok.valz R6 hy
    have nS6 : ¬ S6 Da := fun h => (e6.n Da h).elim nS5 fun z => z (e5.p Da pD4)
    have pD6 : P6 Da := e6.p Da (e5.p Da pD4)
    have hD6 : H5 Da = some (.lst acc) := (e5.h Da pD4).trans hD4
    have lk6 : ∀ (j : Nat) (d' : D), o.2[j]? = some (some (.lk, d')) → σ3[j]? ≠ some (some (.ref Da)) := fun j d' e => by
      obtain ⟨d2, e'⟩ := so j d' e
      exact lk4 j d2 e'
    have dl6 : DvL W S6 H5 acc accD := (dl4.mono (fun a h => e5.s a h) fun a h => e5.h a (R5.sp a h)).mono (fun a h => e6.s a h) fun a _ => rfl
    obtain ⟨R8, f8⟩ := R7.turn (u := .lst (acc ++ [yv])) pD6 nS6 lk6
    have hup : ∀ a, S6 a → upd H5 Da (.lst (acc ++ [yv])) a = H5 a := fun a h => upd_ne fun z => nS6 (z ▸ h)
    refine ⟨acc, hD6, Nat.lt_of_le_of_lt (Nat.le_trans hacc (Nat.le_trans hi hlen)) hsz, S6, _, wip o.2 vs, acc ++ [yv], accD ++ [yd], drop0 S6 P6 H5 ((e13.trans e4).trans (e5.trans e6)) nS6 _, R8.wipe his ha (by rw [hl, wipe_length]), nS6, ⟨f8.1, dd1.1, dd1.2, fun j f d' e nf hv => ?_⟩, upd_same,
      (dl6.snoc dz6).mono (fun _ h => h) hup, by rw [List.length_append]; simpa using hacc, q5⟩
    obtain ⟨hj, e'⟩ := wip_get e
    rw [← ha j fun z => hj (his j z)] at hv
    exact f8.2.2.2 j f d' e' nf hv
end
end Sx
set_option Elab.async false
set_option linter.all false
set_option maxRecDepth 100000
set_option maxHeartbeats 4000000
set_option autoImplicit false
namespace Sx
open PySem L2

/-! ### what is walked: lists, tuples, texts -/
section
variable {X : Cx} {tg : Expr}
def iAny (K : PySem.W.Frag) (tl : TE) : TI := fun σ H R => tl σ H fun x H1 => (∃ a, x = .ref a ∧ (∃ xs, SqL K H1 a xs) ∧ R (Itl K a) H1) ∨ (∃ a, x = .ref a ∧ (∃ xs, SqT K H1 a xs) ∧ R (Itt K a) H1) ∨ ∃ z, x = .str z ∧ R (Its z) H1
theorem pi_any {l : Expr} {tl : TE} (hl : PE X l tl) : PI X tg l (iAny X.K tl) := by
  refine ⟨fun pins s σ H R I h => thn (hl.run pins s σ H _ I h) fun v s1 ⟨x, H1, I1, r1, q1⟩ => ?_⟩
  rcases q1 with ⟨a, rfl, ⟨xs, hq⟩, q⟩ | ⟨a, rfl, ⟨xs, hq⟩, q⟩ | ⟨z, rfl, q⟩
  · cases r1
    obtain ⟨its, _, p, _⟩ := I1.list hq
    exact wpAny_pyIter_list p.isList (pi_one (tk := s1.toks) I1 _ (turn_list a _) ⟨_, Heap.get?_push_size _ rfl, rfl, rfl⟩ q)
  · cases r1
    obtain ⟨its, _, p, _⟩ := I1.tuple hq
    exact wpAny_pyIter_tuple (show s1.heap.IsTuple a its.toArray from p) (pi_one (tk := s1.toks) I1 _ (turn_tuple a _) ⟨_, Heap.get?_push_size _ rfl, rfl, rfl⟩ q)
  · obtain ⟨t, rfl⟩ := r1
    by_cases ha : z.cps.all (· < 128) = true
    · exact wpAny_pyIter_ascii ha (pi_one (tk := s1.toks) I1 _ (turn_str _ z t _ (.inl rfl)) ⟨_, Heap.get?_push_size _ rfl, rfl, rfl⟩ q)
    · exact wpAny_pyIter_wide (by simpa using ha) (pi_one (tk := s1.toks) I1 _ (turn_str _ z t _ (.inr rfl)) ⟨_, Heap.get?_push_size _ rfl, rfl, rfl⟩ q)
end
def signs (x : Str) : List D := x.cps.toList.map fun c => .str ⟨#[c]⟩
def itemsOf : Option D → Option (List D)
  | some (.lst ds) => some ds
  | some (.tup ds) => some ds
  | some (.str x) => some (signs x)
  | _ => none
def iSeq (ra : Run) : RunI := fun en => (ra en).bind fun a => (T.ofOpt (itemsOf (valO a.1))).bind fun ds => .ret (ds, a.2)
/-- a name's own list, locked while it is walked -/
def iLock (i : Nat) : RunI := fun en => match en[i]? with
  | some (some (.ow, .lst ds)) => .ret (ds, en.set i (some (.lk, .lst ds)))
  | some (some (.fz, .lst ds)) => .ret (ds, en)
  | _ => .fail
section
variable {W : Wd} {S P S' P' : Addr → Prop} {en : En} {σ : St} {H H' H1 : Hp} {X : Cx} {tg e : Expr} {ra : Run}
theorem DvL.at {vs : List V} {ds : List D} {i : Nat} (h : DvL W S H vs ds) : (∀ x, vs[i]? = some x → ∃ d, ds[i]? = some d ∧ Dz W S H x d) ∧ (∀ d, ds[i]? = some d → ∃ x, vs[i]? = some x ∧ Dz W S H x d) := by
  induction ds generalizing vs i with
  | nil => cases h; exact ⟨fun x e => by simp at e, fun x e => by simp at e⟩
  | cons d ds ih =>
    cases h with
    | cons t dv r =>
      cases i with
      | zero => exact ⟨fun x e => by simp at e; subst e; exact ⟨d, by simp, t, dv⟩, fun x e => by simp at e; subst e; exact ⟨_, by simp, t, dv⟩⟩
      | succ i =>
        obtain ⟨a, b⟩ := ih (i := i) r
        exact ⟨fun x e => a x (by simpa using e), fun x e => b x (by simpa using e)⟩
theorem walks_lst {a : Addr} {xs : List V} {ds : List D} (R : Rel W S P en σ H) (ha : P a) (h : H a = some (.lst xs)) (dl : DvL W S H xs ds) : Walks W S P H (Itl W.K a) ds := by
  have at' : ∀ H2, (∀ b, P b → H2 b = H b) → SqL W.K H2 a xs := fun H2 q => SqL.of ((q a ha).trans h)
  refine ⟨fun i H2 q hi => ⟨xs, at' H2 q, by rw [dl.len]; exact hi⟩, fun i H2 q hi => ?_, fun i H2 x H3 q hi y => ?_⟩
  · have hi' : i < xs.length := by rw [dl.len]; exact hi
    exact ⟨xs, xs[i], at' H2 q, List.getElem?_eq_getElem hi'⟩
  · obtain ⟨rfl, y⟩ := y
    obtain ⟨d, hd, dz⟩ := (dl.at (i := i)).1 x (y xs (at' _ q))
    exact ⟨d, hd, .inl ⟨rfl, dz.mono (fun _ h => h) fun b s => q b (R.sp b s)⟩⟩
theorem walks_tup {a : Addr} {xs : List V} {ds : List D} (R : Rel W S P en σ H) (h : (S a ∧ H a = some (.tup xs)) ∨ Wr W a xs) (dl : DvL W S H xs ds) : Walks W S P H (Itt W.K a) ds := by
  have at' : ∀ H2, (∀ b, P b → H2 b = H b) → SqT W.K H2 a xs := fun H2 q => by
    rcases h with ⟨s, h⟩ | (h | ⟨_, h⟩) | h
    · exact SqT.of ((q a (R.sp a s)).trans h)
    · cases h
    · cases h
    · exact .inr h
  refine ⟨fun i H2 q hi => ⟨xs, at' H2 q, by rw [dl.len]; exact hi⟩, fun i H2 q hi => ?_, fun i H2 x H3 q hi y => ?_⟩
  · have hi' : i < xs.length := by rw [dl.len]; exact hi
    exact ⟨xs, xs[i], at' H2 q, List.getElem?_eq_getElem hi'⟩
  · obtain ⟨rfl, y⟩ := y
    obtain ⟨d, hd, dz⟩ := (dl.at (i := i)).1 x (y xs (at' _ q))
    exact ⟨d, hd, .inl ⟨rfl, dz.mono (fun _ h => h) fun b s => q b (R.sp b s)⟩⟩
theorem walks_str {x : Str} : Walks W S P H (Its x) (signs x) := by
  have hl : (signs x).length = x.cps.size := by simp [signs]
  refine ⟨fun i H2 _ hi => by rw [hl] at hi; exact hi, fun i H2 _ hi => by rw [hl] at hi; exact hi, fun i H2 v H3 _ hi y => ?_⟩
  obtain ⟨rfl, c, hc, rfl⟩ := y
  refine ⟨.str ⟨#[c]⟩, ?_, .inl ⟨rfl, trivial, .str _⟩⟩
  unfold signs
  rw [List.getElem?_map, Array.getElem?_toList, hc]
  rfl
theorem x_seq (h : PE X e (TV W ra)) (hK : X.K = W.K) : PI X tg e (TVI W (iSeq ra) none) := by
  refine ⟨fun pins s σ H R I q => (pi_any (tg := tg) h).run pins s σ H R I ?_⟩
  rw [hK]
  obtain ⟨S, P, en, Rl, w⟩ := q
  have w := (T.wp_bind _ _ _).mp w
  refine ⟨S, P, en, Rl, T.wp_mono w fun a q v H1 S1 P1 e1 R1 ok => ?_⟩
  obtain ⟨ds, hds, q⟩ := T.wp_ofOpt ((T.wp_bind _ _ _).mp q)
  cases hv : valO a.1 with
  | none => rw [hv] at hds; cases hds
  | some y =>
    obtain ⟨S2, P2, e2, R2, dz⟩ := ok.valz R1 hv
    rw [hv] at hds
    have fin : ∀ J, Walks W S2 P2 H1 J ds → R J H1 := fun J wk => q J H1 S2 P2 P2 (e1.trans e2) R2 (fun _ h => h) (fun S3 P3 en3 σ3 H3 _ e3 R3 => ⟨P3, fun _ h => h, e3, R3⟩) (fun _ => rfl) wk
    obtain ⟨tn, dv⟩ := dz
    cases dv with
    | lst ha dl => cases hds; exact .inl ⟨_, rfl, ⟨_, SqL.of ha⟩, fin _ (walks_lst R2 (R2.sp _ tn) ha dl)⟩
    | @tup _ xs _ ha dl =>
      cases hds
      refine .inr (.inl ⟨_, rfl, ⟨xs, ?_⟩, fin _ (walks_tup R2 ha dl)⟩)
      rcases ha with ⟨_, h⟩ | (h | ⟨_, h⟩) | h
      · exact SqT.of h
      · cases h
      · cases h
      · exact .inr h
    | str z =>
      obtain rfl : signs z = ds := Option.some.inj hds
      exact .inr (.inr ⟨z, rfl, fin (Its z) walks_str⟩)
    | _ => cases hds
theorem Rel.lock (R : Rel W S P en σ H) {i : Nat} {d : D} {p : Addr} {o : HO} (h : en[i]? = some (some (.ow, d))) (hv : σ[i]? = some (some (V.ref p))) (ho : H p = some o) : Rel W S (add P p) (en.set i (some (.lk, d))) σ H ∧ ¬ P p ∧ ¬ S p := by
  obtain ⟨v, hv', dv, _, ow⟩ := R.slot i .ow d h
  rw [hv] at hv'
  cases hv'
  obtain ⟨q, o', eq, hs, hp, _, h1, h2, h3⟩ := ow (by decide)
  cases eq
  refine ⟨⟨fun a s => .inl (R.sp a s), fun a s => s.elim (R.pd a) fun e => by subst e; exact ⟨o, ho⟩, fun j f e q => ?_, fun j k f g e e' v g1 g2 g3 g4 g5 g6 => ?_, by rw [List.length_set]; exact R.len, R.dr, ⟨fun w => w.elim R.drP.1 fun e => h1 e.symm, fun w => w.elim R.drP.2 fun e => h2 e.symm⟩⟩, hp rfl, hs⟩
  · rcases set_get q with ⟨rfl, q2⟩ | ⟨ne, q2⟩
    · cases q2
      exact ⟨_, hv, dv, (fun z => by cases z), fun _ => ⟨p, o, rfl, hs, (fun z => by cases z), fun _ => .inr rfl, h1, h2, ho⟩⟩
    · obtain ⟨v, hv2, dv2, t2, ow2⟩ := R.slot j f e q2
      refine ⟨v, hv2, dv2, t2, fun z => ?_⟩
      obtain ⟨q, o2, ev, hs2, hq2, hl2, g1, g2, g3⟩ := ow2 z
      subst ev
      have nq : q ≠ p := fun eq => ne (R.inj i j .ow f d e _ h q2 (by decide) z hv (by rw [hv2, eq]))
      exact ⟨q, o2, rfl, hs2, fun y w => w.elim (hq2 y) nq, fun y => .inl (hl2 y), g1, g2, g3⟩
  · rcases set_get g1 with ⟨rfl, k1⟩ | ⟨n1, k1⟩
    · rcases set_get g2 with ⟨e2, _⟩ | ⟨n2, k2⟩
      · exact e2
      · exact R.inj i k .ow g d e' v h k2 (by decide) g4 g5 g6
    · rcases set_get g2 with ⟨rfl, k2⟩ | ⟨n2, k2⟩
      · exact R.inj j i f .ow e d v k1 h g3 (by decide) g5 g6
      · exact R.inj j k f g e e' v k1 k2 g3 g4 g5 g6
theorem Rel.unlock {p : Addr} (R : Rel W S P en σ H) {i : Nat} (hp : ¬ S p) (hi : ∀ d, en[i]? = some (some (.lk, d)) → σ[i]? = some (some (V.ref p))) (hx : ∀ (j : Nat) (d : D), j ≠ i → en[j]? = some (some (.lk, d)) → σ[j]? ≠ some (some (V.ref p))) :
    Rel W S (fun a => P a ∧ a ≠ p) (unl (some i) en) σ H := by
  have neS : ∀ a, S a → a ≠ p := fun a h e => hp (e ▸ h)
  have base : ∀ (j : Nat) (f : Fg) (d : D), en[j]? = some (some (f, d)) → (f = .lk → j ≠ i) → ∃ v, σ[j]? = some (some v) ∧ Dv W S H v d ∧ (f = .fz → Tin S v d) ∧ (f ≠ .fz → ∃ q o, v = V.ref q ∧ ¬ S q ∧ (f = .ow → ¬ (P q ∧ q ≠ p)) ∧ (f = .lk → P q ∧ q ≠ p) ∧ q ≠ W.da ∧ q ≠ W.db ∧ H q = some o) := by
    intro j f d e hj
    obtain ⟨v, hv, dv, t, ow⟩ := R.slot j f d e
    refine ⟨v, hv, dv, t, fun z => ?_⟩
    obtain ⟨q, o, ev, hs, hq, hl, h1, h2, h3⟩ := ow z
    refine ⟨q, o, ev, hs, fun y w => hq y w.1, fun y => ⟨hl y, fun eq => ?_⟩, h1, h2, h3⟩
    subst y
    exact hx j d (hj rfl) e (by rw [hv, ev, eq])
  have go : unl (some i) en = en ∧ (∀ d, en[i]? ≠ some (some (.lk, d))) ∨ ∃ d, en[i]? = some (some (.lk, d)) ∧ unl (some i) en = en.set i (some (.ow, d)) := by
    rcases slot_cases en i with e | e | ⟨f, d, e⟩
    · exact .inl ⟨by simp only [unl, e], fun d q => by rw [e] at q; cases q⟩
    · exact .inl ⟨by simp only [unl, e], fun d q => by rw [e] at q; cases q⟩
    · cases f with
      | lk => exact .inr ⟨d, e, by simp only [unl, e]⟩
      | fz => exact .inl ⟨by simp only [unl, e], fun d q => by rw [e] at q; cases q⟩
      | ow => exact .inl ⟨by simp only [unl, e], fun d q => by rw [e] at q; cases q⟩
  rcases go with ⟨eq, nl⟩ | ⟨d, e, eq⟩
  · rw [eq]
    exact ⟨fun a h => ⟨R.sp a h, neS a h⟩, fun a h => R.pd a h.1, fun j f d e => base j f d e fun z w => by subst z; subst w; exact nl d e, R.inj, R.len, R.dr, ⟨fun w => R.drP.1 w.1, fun w => R.drP.2 w.1⟩⟩
  · rw [eq]
    refine ⟨fun a h => ⟨R.sp a h, neS a h⟩, fun a h => R.pd a h.1, fun j f d2 e2 => ?_, fun j k f g d2 e' v g1 g2 g3 g4 g5 g6 => ?_, by rw [List.length_set]; exact R.len, R.dr, ⟨fun w => R.drP.1 w.1, fun w => R.drP.2 w.1⟩⟩
    · rcases set_get e2 with ⟨rfl, q2⟩ | ⟨ne, q2⟩
      · cases q2
        obtain ⟨v, hv, dv, _, ow⟩ := R.slot i .lk d e
        obtain ⟨q, o, ev, hs, _, hl, h1, h2, h3⟩ := ow (by decide)
        have : q = p := by
          have := hi d e
          rw [hv, ev] at this
          cases this; rfl
        subst this
        exact ⟨v, hv, dv, (fun z => by cases z), fun _ => ⟨q, o, ev, hs, fun _ w => w.2 rfl, (fun z => by cases z), h1, h2, h3⟩⟩
      · exact base j f d2 q2 fun _ => fun w => ne w.symm
    · rcases set_get g1 with ⟨rfl, k1⟩ | ⟨n1, k1⟩
      · rcases set_get g2 with ⟨e2, _⟩ | ⟨n2, k2⟩
        · exact e2
        · exact R.inj i k .lk g d e' v e k2 (by decide) g4 g5 g6
      · rcases set_get g2 with ⟨rfl, k2⟩ | ⟨n2, k2⟩
        · exact R.inj j i f .lk d2 d v k1 e g3 (by decide) g5 g6
        · exact R.inj j k f g d2 e' v k1 k2 g3 g4 g5 g6
theorem x_lock {i : Nat} {x : Str} {pos : Pos} (h : PE X (.Name x pos) (tVar i)) (hK : X.K = W.K) : PI X tg (.Name x pos) (TVI W (iLock i) (some i)) := by
  refine ⟨fun pins s σ H R I q => (pi_any (tg := tg) h).run pins s σ H R I ?_⟩
  rw [hK]
  obtain ⟨S, P, en, Rl, w⟩ := q
  unfold iLock at w
  rcases slot_cases en i with e | e | ⟨f, d, e⟩
  · rw [e] at w; exact w.elim
  · rw [e] at w; exact w.elim
  · rw [e] at w
    cases d with
    | lst ds =>
      obtain ⟨v, hv, dv, tn, ow⟩ := Rl.slot i f _ e
      cases dv with
      | @lst a xs _ ha dl =>
        refine ⟨_, hv, .inl ⟨a, rfl, ⟨xs, SqL.of ha⟩, ?_⟩⟩
        cases f with
        | fz =>
          refine w (Itl W.K a) H S P P .refl Rl (fun _ h => h) (fun S3 P3 en3 σ3 H3 hs e3 R3 => ?_) (fun _ => rfl) (walks_lst Rl (Rl.sp a (tn rfl)) ha dl)
          have hs : σ3 = σ := hs.resolve_left (by intro z; cases z)
          subst hs
          by_cases hl : ∃ d, en3[i]? = some (some (.lk, d))
          · obtain ⟨d, hl⟩ := hl
            obtain ⟨v, hv', _, _, ow3⟩ := R3.slot i .lk d hl
            obtain ⟨q, o, ev, nS, _⟩ := ow3 (by decide)
            rw [hv] at hv'
            cases hv'
            cases ev
            exact absurd (e3.s a (tn rfl)) nS
          · refine ⟨P3, fun _ h => h, e3, ?_⟩
            have : unl (some i) en3 = en3 := by
              unfold unl
              simp only
              split
              · rename_i d z; exact absurd ⟨d, z⟩ hl
              · rfl
            rw [this]; exact R3
        | lk => exact w.elim
        | ow =>
          obtain ⟨R2, nP, nS⟩ := Rl.lock e hv ha
          refine w (Itl W.K a) H S P (add P a) .refl R2 (fun _ h => .inl h) (fun S3 P3 en3 σ3 H3 hs e3 R3 => ?_) (fun z => by cases z) (walks_lst R2 (.inr rfl) ha dl)
          · have hs : σ3 = σ := hs.resolve_left (by intro z; cases z)
            subst hs
            have nS3 : ¬ S3 a := fun h => (e3.n a h).elim nS fun z => z (.inr rfl)
            by_cases hl : ∃ d, en3[i]? = some (some (.lk, d))
            · obtain ⟨d, hl⟩ := hl
              refine ⟨fun b => P3 b ∧ b ≠ a, fun _ h => h.1, ⟨e3.s, fun b h => ⟨e3.p b (.inl h), fun z => nP (z ▸ h)⟩, fun b h => e3.h b (.inl h), fun b h => (e3.n b h).imp id fun z w => z (.inl w)⟩, R3.unlock nS3 (fun _ _ => hv) fun j d' ne e' q => ?_⟩
              exact ne (R3.inj j i .lk .lk d' d _ e' hl (by decide) (by decide) q hv)
            · have : unl (some i) en3 = en3 := by
                unfold unl
                simp only
                split
                · rename_i d z; exact absurd ⟨d, z⟩ hl
                · rfl
              rw [this]
              exact ⟨P3, fun _ h => h, ⟨e3.s, fun b h => e3.p b (.inl h), fun b h => e3.h b (.inl h), fun b h => (e3.n b h).imp id fun z w => z (.inl w)⟩, R3⟩
    | _ => cases f <;> exact w.elim
end
end Sx
set_option Elab.async false
set_option linter.all false
set_option maxRecDepth 100000
set_option maxHeartbeats 4000000
set_option autoImplicit false
namespace Sx
open PySem L2

/-! ### defs -/
abbrev Fn := List D → T (Bool × D)
/-- all that stands but the draws -/
def Pall (W : Wd) (H : Hp) : Addr → Prop := fun a => (∃ o, H a = some o) ∧ a ≠ W.da ∧ a ≠ W.db
/-- the promise of a def that does what f does -/
def spR (K : PySem.W.Frag) (cls : Nat → Addr) (n : Nat) (f : Fn) : Sp := fun vs H Q _ => vs.length = n ∧ ∃ W S ds, W.K = K ∧ W.cls = cls ∧ DrawOk W H ∧ DomS S H ∧ ¬ S W.da ∧ ¬ S W.db ∧ DvL W S H vs ds ∧
  (f ds).wp fun c => ∀ v H' S' P', Ext S (Pall W H) H S' P' H' → RetOk W S' P' H' → ROk W S' P' H' v c → Q v H'
def en0 (n : Nat) (ds : List D) : En := ds.map (fun d => some (.fz, d)) ++ List.replicate (n - ds.length) none
def flOf : Fl → Option (Bool × D)
  | .nx => some (false, .non)
  | .rt c => some c
  | _ => none
def runFn (n : Nat) (run : RunS) : Fn := fun ds => (run (en0 n ds)).bind fun r => T.ofOpt (flOf r.1)
def rCall (f : Fn) (rs : Runs) : Run := fun en => (rs en).bind fun a => (T.ofOpt (onlyV a.1)).bind fun ds => (f ds).bind fun c => .ret (mkO c, a.2)
section
variable {W : Wd} {S P S' P' : Addr → Prop} {en : En} {σ : St} {H H' : Hp} {X : Cx} {v : V} {c : Bool × D}
theorem DrawOk.at (d : DrawOk W H) : (∃ o, H W.da = some o) ∧ ∃ o, H W.db = some o := by
  obtain ⟨_, ns, i, j, k, h1, h2, _⟩ := d
  exact ⟨⟨_, h1⟩, ⟨_, h2⟩⟩
/-- behind a call -/
theorem Rel.call (R : Rel W S P en σ H) (e : Ext S (Pall W H) H S' P' H') (ro : RetOk W S' P' H') (ok : ROk W S' P' H' v c) :
    Ext S P H S' (fun a => P a ∨ S' a) H' ∧ Rel W S' (fun a => P a ∨ S' a) en σ H' ∧ OpOk W S' (fun a => P a ∨ S' a) en σ H' v (mkO c) := by
  have inA : ∀ a, P a → Pall W H a := fun a h => ⟨R.pd a h, fun z => R.drP.1 (z ▸ h), fun z => R.drP.2 (z ▸ h)⟩
  have hA : ∀ a, Pall W H a → H' a = H a := e.h
  have nS : ∀ a, Pall W H a → ¬ S a → ¬ S' a := fun a h n w => (e.n a w).elim n fun z => z h
  have nd : ¬ S' W.da ∧ ¬ S' W.db := ⟨fun w => ro.dp.1 (ro.sp _ w), fun w => ro.dp.2 (ro.sp _ w)⟩
  refine ⟨⟨e.s, fun a h => .inl h, fun a h => hA a (inA a h), fun a h => (e.n a h).imp id fun z w => z (inA a w)⟩, ⟨fun a h => .inr h, fun a h => h.elim (fun h => by obtain ⟨o, q⟩ := R.pd a h; exact ⟨o, (hA a (inA a h)).trans q⟩) (ro.ds a), fun i f d q => ?_, R.inj, R.len, ro.dr, ⟨fun w => w.elim R.drP.1 nd.1, fun w => w.elim R.drP.2 nd.2⟩⟩, ?_⟩
  · obtain ⟨v, hv, dv, t, ow⟩ := R.slot i f d q
    refine ⟨v, hv, dv.mono e.s (fun a h => hA a (inA a (R.sp a h))) ?_, fun z => (t z).mono e.s, fun z => ?_⟩
    · by_cases hf : f = .fz
      · exact (t hf).mono fun a h => hA a (inA a (R.sp a h))
      · obtain ⟨p, o, ev, _, _, _, h1, h2, h3⟩ := ow hf
        subst ev
        have : H' p = H p := hA p ⟨⟨o, h3⟩, h1, h2⟩
        cases d <;> first | exact trivial | exact this
    · obtain ⟨p, o, ev, hs, hq, hl, h1, h2, h3⟩ := ow z
      have pa : Pall W H p := ⟨⟨o, h3⟩, h1, h2⟩
      have ns := nS p pa hs
      exact ⟨p, o, ev, ns, fun y w => w.elim (hq y) ns, fun y => .inl (hl y), h1, h2, (hA p pa).trans h3⟩
  · obtain ⟨f, d⟩ := c
    obtain ⟨dv, tn, ow⟩ := ok
    cases f with
    | false => exact ⟨tn rfl, dv⟩
    | true =>
      obtain ⟨p, o, rfl, nP, h1, h2, h3⟩ := ow rfl
      have nA : ¬ Pall W H p := fun w => nP (e.p p w)
      refine ⟨dv, p, o, rfl, ⟨fun w => w.elim (fun w => nA (inA p w)) fun w => nP (ro.sp p w), h1, h2, fun i f d q nf hv => ?_⟩, h3⟩
      obtain ⟨v, hv', _, _, ow⟩ := R.slot i f d q
      obtain ⟨p', o', ev, _, _, _, g1, g2, g3⟩ := ow nf
      rw [hv'] at hv
      cases hv
      cases ev
      exact nA ⟨⟨o', g3⟩, g1, g2⟩
theorem tv_call {n : Nat} {f : Fn} {rs : Runs} {cls : Nat → Addr} (hcl : W.cls = cls) {Q : VK} (hn : ∀ en, (rs en).all fun r => ∀ ds, onlyV r.1 = some ds → ds.length = n) (h : TV W (rCall f rs) σ H Q) : tCall (spR W.K cls n f) [] E0 (TVs W rs) σ H Q := by
  obtain ⟨S, P, en, R, w⟩ := h
  have w := T.wp_all ((T.wp_bind _ _ _).mp w) (hn en)
  refine ⟨S, P, en, R, T.wp_mono w fun r ⟨q, len⟩ vs H1 S1 P1 e1 R1 pe => ?_⟩
  obtain ⟨ds, hds, q⟩ := T.wp_ofOpt ((T.wp_bind _ _ _).mp q)
  have dl := pe.only hds
  have q := (T.wp_bind _ _ _).mp q
  rw [List.append_nil]
  refine ⟨dl.len.trans (len ds hds), W, S1, ds, rfl, hcl, R1.dr, R1.dom, fun w => R1.drP.1 (R1.sp _ w), fun w => R1.drP.2 (R1.sp _ w), dl, T.wp_mono q fun c q v H' S' P' e ro ok => ?_⟩
  obtain ⟨e2, R2, ok2⟩ := R1.call e ro ok
  exact q v H' S' _ (e1.trans e2) R2 ok2
end

section
variable {P : Program} {w : World} {K : PySem.W.Frag} {mg : Str → Option Value} {base : Heap} {cls : Nat → Addr}
theorem en0_get {n : Nat} {ds : List D} {i : Nat} {f : Fg} {d : D} (h : (en0 n ds)[i]? = some (some (f, d))) : f = .fz ∧ ds[i]? = some d := by
  unfold en0 at h
  by_cases hl : i < ds.length
  · rw [List.getElem?_append_left (by simpa using hl), List.getElem?_map] at h
    cases e : ds[i]? with
    | none => rw [e] at h; cases h
    | some x => rw [e] at h; cases h; exact ⟨rfl, rfl⟩
  · rw [List.getElem?_append_right (by simpa using hl)] at h
    have := List.eq_of_mem_replicate (List.mem_of_getElem? h)
    cases this
end
end Sx
set_option Elab.async false
set_option linter.all false
set_option maxRecDepth 100000
set_option maxHeartbeats 4000000
set_option autoImplicit false
namespace Sx
open PySem L2

/-! ### plain data -/
mutual
def py : D → Option PyData
  | .non => some .none
  | .bl b => some (.bool b)
  | .int i => some (.int i)
  | .str x => some (.str x)
  | .lst xs => (pyL xs).bind fun ps => some (.list ps)
  | .tup xs => (pyL xs).bind fun ps => some (.tuple ps)
  | _ => none
def pyL : List D → Option (List PyData)
  | [] => some []
  | x :: xs => (py x).bind fun p => (pyL xs).bind fun ps => some (p :: ps)
end
section
variable {W : Wd} {S : Addr → Prop} {H : Hp}
theorem Wr.to {a : Addr} {xs : List V} (h : Wr W a xs) : SqT W.K H a xs := by
  rcases h with (h | ⟨_, h⟩) | h
  · cases h
  · cases h
  · exact .inr h
theorem tup_sq {a : Addr} {xs : List V} (h : (S a ∧ H a = some (.tup xs)) ∨ Wr W a xs) : SqT W.K H a xs := h.elim (fun h => SqT.of h.2) Wr.to
mutual
theorem Dv.dp : ∀ {v : V} {d : D} {p : PyData}, Dv W S H v d → py d = some p → Dp W.K H v p
  | _, _, _, .non, e => by cases e; exact .non
  | _, _, _, .bl b, e => by cases e; exact .bl b
  | _, _, _, .int i, e => by cases e; exact .int i
  | _, _, _, .str x, e => by cases e; exact .str x
  | _, _, _, .lst h r, e => by
    obtain ⟨ps, e1, e2⟩ := Option.bind_eq_some_iff.mp e
    cases e2
    exact .lst (SqL.of h) (DvL.dp r e1)
  | _, _, _, .tup h r, e => by
    obtain ⟨ps, e1, e2⟩ := Option.bind_eq_some_iff.mp e
    cases e2
    exact .tup (tup_sq h) (DvL.dp r e1)
  | _, _, _, .dK _ _, e => by cases e
  | _, _, _, .dT _ _, e => by cases e
  | _, _, _, .obj _ _, e => by cases e
  | _, _, _, .scr _, e => by cases e
  | _, _, _, .drw, e => by cases e
  | _, _, _, .ty _, e => by cases e
  | _, _, _, .cl _, e => by cases e
theorem DvL.dp : ∀ {vs : List V} {ds : List D} {ps : List PyData}, DvL W S H vs ds → pyL ds = some ps → DpAll W.K H vs ps
  | _, _, _, .nil, e => by cases e; exact .nil
  | _, _, _, .cons _ h r, e => by
    obtain ⟨p, e1, e⟩ := Option.bind_eq_some_iff.mp e
    obtain ⟨ps, e2, e⟩ := Option.bind_eq_some_iff.mp e
    cases e
    exact .cons (Dv.dp h e1) (DvL.dp r e2)
end
mutual
theorem dp_plain {K : PySem.W.Frag} : ∀ {v : V} {p : PyData}, Dp K H v p → p.plain = true
  | _, _, .non => rfl
  | _, _, .bl _ => rfl
  | _, _, .int _ => rfl
  | _, _, .str _ => rfl
  | _, _, .lst _ r => dp_plainL r
  | _, _, .tup _ r => dp_plainL r
theorem dp_plainL {K : PySem.W.Frag} : ∀ {vs : List V} {ps : List PyData}, DpAll K H vs ps → PyData.plainAll ps = true
  | _, _, .nil => rfl
  | _, _, .cons h r => by
    show (PyData.plain _ && PyData.plainAll _) = true
    rw [dp_plain h, dp_plainL r]
    rfl
end
end

/-! ### rules by data -/
section
variable {W : Wd} {S : Addr → Prop} {H : Hp} {X : Cx} {Q : VK} {v : V} {d : D}
/-- a scalar, or a part of what stood -/
theorem PRes.old (hd : DomS S H) (r : PRes W S H (false, d) Q) (h : Dz W S H v d) : Q v H := r v H S (fun _ _ e => e) (fun _ h => h) (fun _ h => .inl h) hd h.2 (fun _ => h.1) fun z => by cases z
theorem PRes.bl {b : Bool} (hd : DomS S H) (r : PRes W S H (false, .bl b) Q) : Q (.bl b) H := r.old hd ⟨trivial, .bl b⟩
theorem PRes.int {i : Int} (hd : DomS S H) (r : PRes W S H (false, .int i) Q) : Q (.int i) H := r.old hd ⟨trivial, .int i⟩
theorem PRes.str {x : Str} (hd : DomS S H) (r : PRes W S H (false, .str x) Q) : Q (.str x) H := r.old hd ⟨trivial, .str x⟩
def shallow (p : PyData) : Bool := decide (p.depth ≤ 60)
def rDD (K : PySem.W.Frag) (C : PyData → PyData → Prop) (f : PyData → PyData → Bool) : R2 := fun x y H Q => ∃ p q, Dp K H x p ∧ Dp K H y q ∧ C p q ∧ Q (.bl (f p q)) H
theorem op_eqP (hu : X.A.units + 64 < cLine) : OpR X (compareOp .Eq) (rDD X.K (fun p _ => p.depth ≤ 60) PyData.eqv) := by
  intro pins s σ H x y v u Q I rx ry h
  obtain ⟨p, q, hp, hq, hs, k⟩ := h
  obtain ⟨as, r1⟩ := Dp.reads I p x v hp rx
  obtain ⟨bs, r2⟩ := Dp.reads I q y u hq ry
  exact SeqAt.eq_plain r1 r2 (dp_plain hp) (dp_plain hq) (by omega) ⟨.bl _, H, I, rfl, k⟩
theorem op_neP (hu : X.A.units + 64 < cLine) : OpR X (compareOp .NotEq) (rDD X.K (fun p _ => p.depth ≤ 60) fun p q => !PyData.eqv p q) := by
  intro pins s σ H x y v u Q I rx ry h
  obtain ⟨p, q, hp, hq, hs, k⟩ := h
  obtain ⟨as, r1⟩ := Dp.reads I p x v hp rx
  obtain ⟨bs, r2⟩ := Dp.reads I q y u hq ry
  exact SeqAt.ne_plain r1 r2 (dp_plain hp) (dp_plain hq) (by omega) ⟨.bl _, H, I, rfl, k⟩
def CLt (p q : PyData) : Prop := PySem.W.alike p q = true ∧ p ≠ .none ∧ p.depth ≤ 60
theorem op_ltP (hu : X.A.units + 64 < cLine) : OpR X (compareOp .Lt) (rDD X.K CLt fun p q => PySem.W.dataLt p q) := by
  intro pins s σ H x y v u Q I rx ry h
  obtain ⟨p, q, hp, hq, ⟨c1, c2, c3⟩, k⟩ := h
  obtain ⟨as, r1⟩ := Dp.reads I p x v hp rx
  obtain ⟨bs, r2⟩ := Dp.reads I q y u hq ry
  exact PySem.W.lt_data r1 r2 c1 c2 (by omega) ⟨.bl _, H, I, rfl, k⟩
theorem op_gtP (hu : X.A.units + 64 < cLine) : OpR X (compareOp .Gt) (rDD X.K CLt fun p q => PySem.W.dataLt q p) := by
  intro pins s σ H x y v u Q I rx ry h
  obtain ⟨p, q, hp, hq, ⟨c1, c2, c3⟩, k⟩ := h
  obtain ⟨as, r1⟩ := Dp.reads I p x v hp rx
  obtain ⟨bs, r2⟩ := Dp.reads I q y u hq ry
  exact PySem.W.gt_data r1 r2 c1 c2 (by omega) ⟨.bl _, H, I, rfl, k⟩
theorem op_leP (hu : X.A.units + 64 < cLine) : OpR X (compareOp .LtE) (rDD X.K CLt fun p q => !PySem.W.dataLt q p) := by
  intro pins s σ H x y v u Q I rx ry h
  obtain ⟨p, q, hp, hq, ⟨c1, c2, c3⟩, k⟩ := h
  obtain ⟨as, r1⟩ := Dp.reads I p x v hp rx
  obtain ⟨bs, r2⟩ := Dp.reads I q y u hq ry
  exact PySem.W.le_data r1 r2 c1 c2 (by omega) ⟨.bl _, H, I, rfl, k⟩
theorem op_geP (hu : X.A.units + 64 < cLine) : OpR X (compareOp .GtE) (rDD X.K CLt fun p q => !PySem.W.dataLt p q) := by
  intro pins s σ H x y v u Q I rx ry h
  obtain ⟨p, q, hp, hq, ⟨c1, c2, c3⟩, k⟩ := h
  obtain ⟨as, r1⟩ := Dp.reads I p x v hp rx
  obtain ⟨bs, r2⟩ := Dp.reads I q y u hq ry
  exact PySem.W.ge_data r1 r2 c1 c2 (by omega) ⟨.bl _, H, I, rfl, k⟩
/-- x in a list or a tuple -/
def rInP (K : PySem.W.Frag) (neg : Bool) : R2 := fun x y H Q => ∃ p ps a xs, y = .ref a ∧ Dp K H x p ∧ DpAll K H xs ps ∧ (SqL K H a xs ∨ SqT K H a xs) ∧ p.depth ≤ 60 ∧ Q (.bl (if neg then !ps.any fun z => PyData.eqv z p else ps.any fun z => PyData.eqv z p)) H
theorem op_inP (hu : X.A.units + 64 < cLine) : OpR X (compareOp .In) (rInP X.K false) := by
  intro pins s σ H x y v u Q I rx ry h
  obtain ⟨p, ps, a, xs, rfl, hp, hps, hs, hd, k⟩ := h
  obtain ⟨as, r1⟩ := Dp.reads I p x v hp rx
  rcases hs with hs | hs
  · obtain ⟨bs, r2⟩ := Dp.reads I (.list ps) (.ref a) u (.lst hs hps) ry
    exact SeqAt.in_list_data r2 r1 (dp_plainL hps) (dp_plain hp) (by omega) ⟨.bl _, H, I, rfl, k⟩
  · obtain ⟨bs, r2⟩ := Dp.reads I (.tuple ps) (.ref a) u (.tup hs hps) ry
    exact SeqAt.in_tuple_data r2 r1 (dp_plainL hps) (dp_plain hp) (by omega) ⟨.bl _, H, I, rfl, k⟩
theorem op_notInP (hu : X.A.units + 64 < cLine) : OpR X (compareOp .NotIn) (rInP X.K true) := by
  intro pins s σ H x y v u Q I rx ry h
  obtain ⟨p, ps, a, xs, rfl, hp, hps, hs, hd, k⟩ := h
  obtain ⟨as, r1⟩ := Dp.reads I p x v hp rx
  rcases hs with hs | hs
  · obtain ⟨bs, r2⟩ := Dp.reads I (.list ps) (.ref a) u (.lst hs hps) ry
    exact SeqAt.notIn_list_data r2 r1 (dp_plainL hps) (dp_plain hp) (by omega) ⟨.bl _, H, I, rfl, k⟩
  · obtain ⟨bs, r2⟩ := Dp.reads I (.tuple ps) (.ref a) u (.tup hs hps) ry
    exact SeqAt.notIn_tuple_data r2 r1 (dp_plainL hps) (dp_plain hp) (by omega) ⟨.bl _, H, I, rfl, k⟩

/-! the functions on data -/
def some0 (d : D) : Option (Bool × D) := some (false, d)
def some1 (d : D) : Option (Bool × D) := some (true, d)
def fEq (x y : D) : Option (Bool × D) := (py x).bind fun p => (py y).bind fun q => if p.depth ≤ 60 then some0 (.bl (PyData.eqv p q)) else none
def fNe (x y : D) : Option (Bool × D) := (py x).bind fun p => (py y).bind fun q => if p.depth ≤ 60 then some0 (.bl (!PyData.eqv p q)) else none
def cLt (p q : PyData) : Bool := PySem.W.alike p q && (match p with | .none => false | _ => true) && decide (p.depth ≤ 60)
def fCmp (g : PyData → PyData → Bool) (x y : D) : Option (Bool × D) := (py x).bind fun p => (py y).bind fun q => if cLt p q then some0 (.bl (g p q)) else none
def fInG (neg : Bool) (x y : D) : Option (Bool × D) := match x, y with
  | .str x', .str y' => match x'.cps.toList with
    | [c] => some0 (.bl (if neg then !decide (c ∈ y'.cps.toList) else decide (c ∈ y'.cps.toList)))
    | _ => none
  | x, y => (py x).bind fun p => (match y with | .lst ds => pyL ds | .tup ds => pyL ds | _ => none).bind fun ps => if p.depth ≤ 60 then some0 (.bl (if neg then !ps.any fun z => PyData.eqv z p else ps.any fun z => PyData.eqv z p)) else none
theorem bind2 {α β γ : Type} {a : Option α} {b : Option β} {f : α → β → Option γ} {c : γ} (h : (a.bind fun p => b.bind fun q => f p q) = some c) : ∃ p q, a = some p ∧ b = some q ∧ f p q = some c := by
  obtain ⟨p, e1, h⟩ := Option.bind_eq_some_iff.mp h
  obtain ⟨q, e2, h⟩ := Option.bind_eq_some_iff.mp h
  exact ⟨p, q, e1, e2, h⟩
theorem p_eq : Pure2 W (rDD W.K (fun p _ => p.depth ≤ 60) PyData.eqv) fEq := by
  intro S H x y d e c Q hd hx hy h r
  obtain ⟨p, q, e1, e2, h⟩ := bind2 h
  split at h
  · cases h; exact ⟨p, q, hx.dp e1, hy.dp e2, by assumption, r.bl hd⟩
  · cases h
theorem p_ne : Pure2 W (rDD W.K (fun p _ => p.depth ≤ 60) fun p q => !PyData.eqv p q) fNe := by
  intro S H x y d e c Q hd hx hy h r
  obtain ⟨p, q, e1, e2, h⟩ := bind2 h
  split at h
  · cases h; exact ⟨p, q, hx.dp e1, hy.dp e2, by assumption, r.bl hd⟩
  · cases h
theorem p_cmp {g : PyData → PyData → Bool} : Pure2 W (rDD W.K CLt g) (fCmp g) := by
  intro S H x y d e c Q hd hx hy h r
  obtain ⟨p, q, e1, e2, h⟩ := bind2 h
  split at h
  · rename_i hc
    cases h
    unfold cLt at hc
    simp only [Bool.and_eq_true, decide_eq_true_eq] at hc
    exact ⟨p, q, hx.dp e1, hy.dp e2, ⟨hc.1.1, (fun z => by rw [z] at hc; exact absurd hc.1.2 (by decide)), hc.2⟩, r.bl hd⟩
  · cases h
def rInAll (K : PySem.W.Frag) (neg : Bool) : R2 := fun x y H Q => rInP K neg x y H Q ∨ ∃ (c : Nat) (z : Str), x = .str ⟨#[c]⟩ ∧ y = .str z ∧ Q (.bl (if neg then !decide (c ∈ z.cps.toList) else decide (c ∈ z.cps.toList))) H
theorem op_inAll (hu : X.A.units + 64 < cLine) : OpR X (compareOp .In) (rInAll X.K false) := (op_inP hu).or op_in_sign
theorem op_notInAll (hu : X.A.units + 64 < cLine) : OpR X (compareOp .NotIn) (rInAll X.K true) := (op_notInP hu).or op_notIn_sign
theorem str1 {x : Str} {c : Nat} (h : x.cps.toList = [c]) : x = ⟨#[c]⟩ := by
  obtain ⟨a⟩ := x
  have h : a.toList = [c] := h
  have : a = #[c] := Array.toList_inj.mp h
  rw [this]
theorem p_in {neg : Bool} : Pure2 W (rInAll W.K neg) (fInG neg) := by
  intro S H x y d e c Q hd hx hy h r
  have gen : ∀ (p : PyData) (ds : List D), py d = some p → ∀ ps, (match e with | .lst ds => pyL ds | .tup ds => pyL ds | _ => none) = some ps → p.depth ≤ 60 → c = (false, .bl (if neg then !ps.any fun z => PyData.eqv z p else ps.any fun z => PyData.eqv z p)) → rInAll W.K neg x y H Q := by
    intro p _ e1 ps e2 hp hc
    subst hc
    refine .inl ?_
    cases hy with
    | lst ha dl => exact ⟨p, ps, _, _, rfl, hx.dp e1, dl.dp e2, .inl (SqL.of ha), hp, r.bl hd⟩
    | tup ha dl => exact ⟨p, ps, _, _, rfl, hx.dp e1, dl.dp e2, .inr (tup_sq ha), hp, r.bl hd⟩
    | _ => cases e2
  unfold fInG at h
  split at h
  · rename_i x' y'
    split at h
    · rename_i c' hc
      cases h
      cases hx
      cases hy
      exact .inr ⟨c', y', by rw [str1 hc], rfl, r.bl hd⟩
    · cases h
  · obtain ⟨p, ps, e1, e2, h⟩ := bind2 h
    split at h
    · cases h; exact gen p [] e1 ps e2 (by assumption) rfl
    · cases h
/-- + -/
def fAdd (x y : D) : Option (Bool × D) := match x, y with
  | .int i, .int j => some0 (.int (i + j))
  | .str a, .str b => if a.length + b.length ≤ 65536 then some0 (.str (a ++ b)) else none
  | .lst xs, .lst ys => if xs.length + ys.length ≤ 4096 then some1 (.lst (xs ++ ys)) else none
  | .tup xs, .tup ys => if xs.length + ys.length ≤ 4096 then some0 (.tup (xs ++ ys)) else none
  | _, _ => none
def rAddAll (K : PySem.W.Frag) : R2 := fun x y H Q => ((rI0 fun i j => .int (i + j)) x y H Q ∨ ∃ i j, x = .str i ∧ y = .str j ∧ i.length + j.length ≤ sizeLine ∧ Q (.str (i ++ j)) H) ∨ (rCat x y H Q ∨ rCatA K x y H Q)
theorem op_addAll : OpR X (binaryOp .Add) (rAddAll X.K) := (op_add.or op_add_str).or (op_cat.or op_catA)
theorem line65536 {n : Nat} (h : n ≤ 65536) : n ≤ sizeLine := Nat.le_trans h (by rw [sizeLine_eq]; decide)
theorem DvL.app {vs ws : List V} {ds es : List D} (h : DvL W S H vs ds) (g : DvL W S H ws es) : DvL W S H (vs ++ ws) (ds ++ es) := by
  induction ds generalizing vs with
  | nil => cases h; exact g
  | cons d ds ih => cases h with | cons t dv r => exact .cons t dv (ih r)
theorem DvL.nil_iff {vs : List V} {ds : List D} (h : DvL W S H vs ds) : vs = [] ↔ ds = [] := by
  cases h <;> simp
theorem p_add : Pure2 W (rAddAll W.K) fAdd := by
  intro S H x y d e c Q hd hx hy h r
  unfold fAdd at h
  split at h
  · cases h; cases hx; cases hy; exact .inl (.inl ⟨_, _, rfl, rfl, r.int hd⟩)
  · split at h
    · cases h; cases hx; cases hy; exact .inl (.inr ⟨_, _, rfl, rfl, line65536 (by assumption), r.str hd⟩)
    · cases h
  · split at h
    · rename_i hl
      cases h
      cases hx with
      | lst ha dl =>
        cases hy with
        | lst hb dl2 => exact .inr (.inl ⟨_, _, _, _, rfl, rfl, ha, hb, line4096 (by rw [dl.len, dl2.len]; exact hl), PRes.lst hd (dl.app dl2) r⟩)
    · cases h
  · split at h
    · rename_i hl
      cases h
      cases hx with
      | tup ha dl =>
        cases hy with
        | tup hb dl2 =>
          refine .inr (.inr ⟨_, _, _, _, rfl, rfl, tup_sq ha, tup_sq hb, line4096 (by rw [dl.len, dl2.len]; exact hl), fun z => ?_, fun _ z => ?_, fun _ _ => PRes.tup hd (dl.app dl2) r⟩)
          · have := dl.nil_iff.mp z
            subst this
            exact r.old hd ⟨trivial, .tup hb dl2⟩
          · have := dl2.nil_iff.mp z
            subst this
            rw [List.append_nil] at r
            exact r.old hd ⟨trivial, .tup ha dl⟩
    · cases h
  · cases h
def fInt2 (g : Int → Int → Int) (x y : D) : Option (Bool × D) := match x, y with
  | .int i, .int j => some0 (.int (g i j))
  | _, _ => none
theorem p_int2 {g : Int → Int → Int} : Pure2 W (rI0 fun i j => .int (g i j)) (fInt2 g) := by
  intro S H x y d e c Q hd hx hy h r
  unfold fInt2 at h
  split at h
  · cases h; cases hx; cases hy; exact ⟨_, _, rfl, rfl, r.int hd⟩
  · cases h
def fIntC (C : Int → Int → Bool) (g : Int → Int → Int) (x y : D) : Option (Bool × D) := match x, y with
  | .int i, .int j => if C i j then some0 (.int (g i j)) else none
  | _, _ => none
theorem p_intC {C : Int → Int → Bool} {C' : Int → Int → Prop} {g : Int → Int → Int} (hC : ∀ i j, C i j = true → C' i j) : Pure2 W (rI C' fun i j => .int (g i j)) (fIntC C g) := by
  intro S H x y d e c Q hd hx hy h r
  unfold fIntC at h
  split at h
  · split at h
    · cases h; cases hx; cases hy; exact ⟨_, _, rfl, rfl, hC _ _ (by assumption), r.int hd⟩
    · cases h
  · cases h
def fNeg (x : D) : Option (Bool × D) := match x with
  | .int i => some0 (.int (-i))
  | _ => none
theorem p_neg : Pure1 W (rU fun i => .int (-i)) fNeg := by
  intro S H x d c Q hd hx h r
  unfold fNeg at h
  split at h
  · cases h; cases hx; exact ⟨_, rfl, r.int hd⟩
  · cases h
/-- is None, is a truth value -/
def fIs (neg : Bool) (x y : D) : Option (Bool × D) := match x, y with
  | .non, .non => some0 (.bl (!neg))
  | .bl a, .bl b => some0 (.bl (if neg then !decide (a = b) else decide (a = b)))
  | _, .non => some0 (.bl neg)
  | _, _ => none
def rIsAll (neg : Bool) : R2 := fun x y H Q => (y = .non ∧ Q (.bl (if neg then !decide (x = .non) else decide (x = .non))) H) ∨ ∃ a b, x = .bl a ∧ y = .bl b ∧ Q (.bl (if neg then !decide (a = b) else decide (a = b))) H
theorem op_isAll : OpR X (compareOp .Is) (rIsAll false) := op_isN.or op_is_bl
theorem op_isNotAll : OpR X (compareOp .IsNot) (rIsAll true) := op_notN.or op_isnot_bl
theorem dv_non {x : V} {d : D} (h : Dv W S H x d) : (x = .non) ↔ d = .non := by cases h <;> simp
theorem p_is {neg : Bool} : Pure2 W (rIsAll neg) (fIs neg) := by
  intro S H x y d e c Q hd hx hy h r
  unfold fIs at h
  split at h
  · cases h
    cases hy
    refine .inl ⟨rfl, ?_⟩
    have : x = .non := (dv_non hx).mpr rfl
    subst this
    have := r.bl hd
    cases neg <;> exact this
  · cases h; cases hx; cases hy; exact .inr ⟨_, _, rfl, rfl, r.bl hd⟩
  · rename_i h1 h2
    have hn : d ≠ .non := fun z => by
      subst z
      first | exact h1 rfl | exact h1 rfl rfl | exact h2 rfl | exact h2 rfl rfl
    cases h
    cases hy
    refine .inl ⟨rfl, ?_⟩
    have nx : ¬ x = .non := fun z => hn ((dv_non hx).mp z)
    have := r.bl hd
    cases neg with
    | true => rw [if_pos rfl, decide_eq_false nx]; exact this
    | false => rw [if_neg (by decide), decide_eq_false nx]; exact this
  · cases h
end
end Sx
set_option Elab.async false
set_option linter.all false
set_option maxRecDepth 100000
set_option maxHeartbeats 4000000
set_option autoImplicit false
namespace Sx
open PySem L2

section
variable {W : Wd} {S P : Addr → Prop} {H : Hp} {X : Cx} {Q : VK} {v : V} {d : D} {en : En} {σ : St}
/-! ### subscripts, slices -/
def fIx (x y : D) : Option (Bool × D) := match x, y with
  | .lst ds, .int i => (atI ds i).bind some0
  | .tup ds, .int i => (atI ds i).bind some0
  | .str s, .int i => if s.length ≤ 65536 then (atI s.cps.toList i).bind fun c => some0 (.str ⟨#[c]⟩) else none
  | _, _ => none
theorem DvL.atI {vs : List V} {ds : List D} {i : Int} {d : D} (h : DvL W S H vs ds) (e : L2.atI ds i = some d) : ∃ x, L2.atI vs i = some x ∧ Dz W S H x d := by
  unfold L2.atI at e ⊢
  rw [h.len]
  obtain ⟨j, e1, e2⟩ := Option.bind_eq_some_iff.mp e
  obtain ⟨x, hx, dz⟩ := (h.at (i := j)).2 d e2
  exact ⟨x, by rw [e1]; exact hx, dz⟩
theorem p_ix : Pure2 W (rIx W.K) fIx := by
  intro S H x y d e c Q hd hx hy h r
  unfold fIx at h
  split at h
  · obtain ⟨z, e1, e2⟩ := Option.bind_eq_some_iff.mp h
    cases e2
    cases hy
    cases hx with
    | lst ha dl =>
      obtain ⟨u, hu, dz⟩ := dl.atI e1
      exact .inl ⟨_, _, _, _, rfl, rfl, SqL.of ha, hu, r.old hd dz⟩
  · obtain ⟨z, e1, e2⟩ := Option.bind_eq_some_iff.mp h
    cases e2
    cases hy
    cases hx with
    | tup ha dl =>
      obtain ⟨u, hu, dz⟩ := dl.atI e1
      exact .inr (.inl ⟨_, _, _, _, rfl, rfl, tup_sq ha, hu, r.old hd dz⟩)
  · split at h
    · obtain ⟨z, e1, e2⟩ := Option.bind_eq_some_iff.mp h
      cases e2
      cases hy
      cases hx
      exact .inr (.inr ⟨_, _, _, rfl, rfl, line65536 (by assumption), e1, r.str hd⟩)
    · cases h
  · cases h
theorem x_ix {a b : Expr} {ra rb : Run} {pos : Pos} (ha : PE X a (TV W ra)) (hb : PE X b (TV W rb)) (hK : X.K = W.K) (hs : PlainIx b) : PE X (.Subscript a b pos) (TV W (run2 ra rb fIx)) :=
  pe_weak (pe_ix (r := rIx W.K) (by rw [← hK]; exact ix_seq) ha hb hs) fun _ _ _ h => tv2 p_ix h
/-- a part of a slice -/
abbrev RunO := En → T (Option Int × En)
def TVO (W : Wd) (run : RunO) : TO := fun σ H Q => ∃ S P en, Rel W S P en σ H ∧ (run en).wp fun r => ∀ H' S' P', Ext S P H S' P' H' → Rel W S' P' r.2 σ H' → Q r.1 H'
def oNone : RunO := fun en => .ret (none, en)
def intOf : Option D → Option Int
  | some (.int i) => some i
  | _ => none
def oSome (ra : Run) : RunO := fun en => (ra en).bind fun a => (T.ofOpt (intOf (frc a.2 a.1.fz))).bind fun i => .ret (some i, a.2)
theorem po_weak {e : Option Expr} {t t' : TO} (h : PO X e t) (w : ∀ σ H Q, t' σ H Q → t σ H Q) : PO X e t' := ⟨fun pins s σ H Q I q => h.run pins s σ H Q I (w σ H Q q)⟩
theorem o_none : PO X none (TVO W oNone) := po_weak po_none fun σ H Q h => by
  obtain ⟨S, P, en, R, w⟩ := h
  exact w H S P .refl R
theorem intOf_some {o : Option D} {i : Int} (h : intOf o = some i) : o = some (.int i) := by
  unfold intOf at h
  split at h
  · cases h; rfl
  · cases h
theorem o_some {e : Expr} {ra : Run} (h : PE X e (TV W ra)) : PO X (some e) (TVO W (oSome ra)) := po_weak (po_some h) fun σ H Q h => by
  obtain ⟨S, P, en, R, w⟩ := h
  refine TV.use R w fun c v H1 S1 P1 e1 R1 p1 q => ?_
  obtain ⟨i, ei, q⟩ := T.wp_ofOpt ((T.wp_bind _ _ _).mp q)
  have := p1.now R1 (intOf_some ei)
  cases this
  exact ⟨i, rfl, q H1 S1 P1 e1 R1⟩
def cutD (xs : List D) (lo hi : Option Int) : List D := (xs.drop (HT.sIx xs.length 0 lo)).take (HT.sIx xs.length xs.length hi - HT.sIx xs.length 0 lo)
def fSl (x : D) (lo hi : Option Int) : Option (Bool × D) := match x with
  | .lst ds => some1 (.lst (cutD ds lo hi))
  | .tup ds => some0 (.tup (cutD ds lo hi))
  | .str s => if s.length ≤ 65536 then some0 (.str (cutS s lo hi)) else none
  | _ => none
def rSlice (ra : Run) (rl rh : RunO) : Run := fun en => (ra en).bind fun a => (rl a.2).bind fun l => (rh l.2).bind fun h => ret1 ((frc h.2 a.1.fz).bind fun x => fSl x l.1 h.1) h.2
theorem DvL.take {vs : List V} {ds : List D} (n : Nat) (h : DvL W S H vs ds) : DvL W S H (vs.take n) (ds.take n) := by
  induction n generalizing vs ds with
  | zero => exact .nil
  | succ n ih => cases h with
    | nil => exact .nil
    | cons t dv r => exact .cons t dv (ih r)
theorem DvL.drop {vs : List V} {ds : List D} (n : Nat) (h : DvL W S H vs ds) : DvL W S H (vs.drop n) (ds.drop n) := by
  induction n generalizing vs ds with
  | zero => exact h
  | succ n ih => cases h with
    | nil => exact .nil
    | cons t dv r => exact ih r
theorem DvL.cut {vs : List V} {ds : List D} {lo hi : Option Int} (h : DvL W S H vs ds) : DvL W S H (cutV vs lo hi) (cutD ds lo hi) := by
  unfold cutV cutD
  rw [h.len]
  exact (h.drop _).take _
theorem cutD_whole (ds : List D) (lo hi : Option Int) (h : HT.sIx ds.length 0 lo = 0 ∧ HT.sIx ds.length ds.length hi = ds.length) : cutD ds lo hi = ds := by
  unfold cutD
  rw [h.1, h.2]
  simp
def rSlAll (K : PySem.W.Frag) : V → Option Int → Option Int → Hp → VK → Prop := fun x lo hi H Q => rSlL K x lo hi H Q ∨ (rSlA K x lo hi H Q ∨ rSlS x lo hi H Q)
theorem sl_all : SlR X (rSlAll X.K) := sl_list.or (sl_tupA.or sl_str)
theorem x_slice {e : Expr} {lo hi : Option Expr} {ra : Run} {rl rh : RunO} {pos p2 : Pos} (hK : X.K = W.K) (he : PE X e (TV W ra)) (hl : PO X lo (TVO W rl)) (hh : PO X hi (TVO W rh)) : PE X (.Subscript e (.Slice lo hi none p2) pos) (TV W (rSlice ra rl rh)) := by
  refine pe_weak (pe_slice sl_all he hl hh) fun σ H Q h => ?_
  rw [hK]
  obtain ⟨S, P, en, R, w⟩ := h
  refine TV.use R w fun c v H1 S1 P1 e1 R1 p1 q => ?_
  have q := (T.wp_bind _ _ _).mp q
  refine ⟨S1, P1, c.2, R1, T.wp_mono q fun l q H2 S2 P2 e2 R2 => ?_⟩
  have q := (T.wp_bind _ _ _).mp q
  refine ⟨S2, P2, l.2, R2, T.wp_mono q fun u q H3 S3 P3 e3 R3 => ?_⟩
  obtain ⟨z, ez, qz⟩ := wp_ret1 q
  obtain ⟨x, ex, fx⟩ := Option.bind_eq_some_iff.mp ez
  have dv := ((p1.ext R1 e2).ext R2 e3).now R3 ex
  have r := R3.res fun v' H' S' P' e' R' ok => qz v' H' S' P' (e1.trans (e2.trans (e3.trans e'))) R' ok
  have hd := R3.dom
  cases dv with
  | lst ha dl => cases fx; exact .inl ⟨_, _, rfl, SqL.of ha, PRes.lst hd dl.cut r⟩
  | tup ha dl =>
    cases fx
    refine .inr (.inl ⟨_, _, rfl, tup_sq ha, fun hw => ?_, fun _ => PRes.tup hd dl.cut r⟩)
    rw [cutD_whole _ _ _ (by rw [← dl.len]; exact hw)] at r
    exact r.old hd ⟨trivial, .tup ha dl⟩
  | str s =>
    unfold fSl at fx
    simp only at fx
    split at fx
    · cases fx; exact .inr (.inr ⟨s, rfl, line65536 (by assumption), r.str hd⟩)
    · cases fx
  | _ => cases fx
def fRev (x : D) : Option (Bool × D) := match x with
  | .lst ds => some1 (.lst ds.reverse)
  | _ => none
theorem DvL.rev {vs : List V} {ds : List D} (h : DvL W S H vs ds) : DvL W S H vs.reverse ds.reverse := by
  induction ds generalizing vs with
  | nil => cases h; exact .nil
  | cons d ds ih => cases h with
    | cons t dv r =>
      rw [List.reverse_cons, List.reverse_cons]
      exact (ih r).app (.cons t dv .nil)
theorem x_rev {e : Expr} {ra : Run} {k : Nat} {p1 p2 p3 pos : Pos} (hK : X.K = W.K) (he : PE X e (TV W ra)) : PE X (.Subscript e (.Slice none none (some (.UnaryOp .USub (.Constant (.int 1) k p1) p2)) p3) pos) (TV W (run1 ra fRev)) := by
  refine pe_weak (pe_revL he) fun σ H Q h => tv1 (r := fun x H1 Q => ∃ a xs, x = .ref a ∧ SqL X.K H1 a xs ∧ ∀ p, H1 p = none → Q (.ref p) (upd H1 p (.lst xs.reverse))) (f := fRev) ?_ h
  intro S H x d c Q hd hx hf r
  unfold fRev at hf
  split at hf
  · cases hf
    cases hx with
    | lst ha dl => exact ⟨_, _, rfl, by rw [hK]; exact SqL.of ha, PRes.lst hd dl.rev r⟩
  · cases hf

/-! ### chains -/
def rChn (f f' : D → D → Option (Bool × D)) (ra rb rc : Run) : Run := fun en => (ra en).bind fun a => (rb a.2).bind fun b => (T.ofOpt (boolOf (((frc b.2 a.1.fz).bind fun x => (frc b.2 b.1.fz).bind fun y => f x y).map (·.2)))).bind fun k =>
  if k then (rc b.2).bind fun c => ret1 ((frc c.2 b.1.fz).bind fun y => (frc c.2 c.1.fz).bind fun z => f' y z) c.2 else .ret (.v (.bl false), b.2)
theorem tv_chn {r r' : R2} {f f' : D → D → Option (Bool × D)} {ra rb rc : Run} (hr : Pure2 W r f) (hr' : Pure2 W r' f') {σ : St} {H : Hp} {Q : VK} (h : TV W (rChn f f' ra rb rc) σ H Q) : tChain r r' (TV W ra) (TV W rb) (TV W rc) σ H Q := by
  obtain ⟨S, P, en, R, w⟩ := h
  refine TV.use R w fun c1 v H1 S1 P1 e1 R1 p1 q => ?_
  refine TV.use R1 q fun c2 u H2 S2 P2 e2 R2 p2 q2 => ?_
  obtain ⟨k, ek, q3⟩ := T.wp_ofOpt ((T.wp_bind _ _ _).mp q2)
  have ek := boolOf_some ek
  rw [Option.map_eq_some_iff] at ek
  obtain ⟨⟨fl, d3⟩, ek, e4⟩ := ek
  have e4 : d3 = .bl k := e4
  subst e4
  obtain ⟨x, ex, ek⟩ := Option.bind_eq_some_iff.mp ek
  obtain ⟨y, ey, fx⟩ := Option.bind_eq_some_iff.mp ek
  refine hr S2 H2 v u x y (fl, .bl k) _ R2.dom ((p1.ext R1 e2).now R2 ex) (p2.now R2 ey) fx (R2.res fun v' H' S' P' e' R' ok => ?_)
  have hk : v' = .bl k := by
    cases fl with
    | false => exact dv_bl ok.2
    | true => exact dv_bl ok.1
  refine ⟨k, hk, ?_⟩
  cases k with
  | false => exact q3 _ H' S' P' (e1.trans (e2.trans e')) R' ⟨trivial, .bl _⟩
  | true =>
    refine TV.use R' q3 fun c3 w3 H3 S3 P3 e3 R3 p3 q4 => ?_
    obtain ⟨z, ez, qz⟩ := wp_ret1 q4
    obtain ⟨y2, ey2, ez⟩ := Option.bind_eq_some_iff.mp ez
    obtain ⟨z2, ez2, fz⟩ := Option.bind_eq_some_iff.mp ez
    exact hr' S3 H3 u w3 y2 z2 z Q R3.dom (((p2.ext R2 e').ext R' e3).now R3 ey2) (p3.now R3 ez2) fz (R3.res fun v'' H'' S'' P'' e'' R'' ok' => qz v'' H'' S'' P'' (e1.trans (e2.trans (e'.trans (e3.trans e'')))) R'' ok')

/-! ### built-in functions -/
def fLen (ds : List D) : Option (Bool × D) := match ds with
  | [.lst xs] => some0 (.int xs.length)
  | [.tup xs] => some0 (.int xs.length)
  | [.str s] => if s.length ≤ 65536 then some0 (.int s.length) else none
  | [.scr n] => some0 (.int n)
  | _ => none
def rLenAll (K : PySem.W.Frag) : List V → Hp → VK → Prop := fun xs H Q => (∃ p ys, xs = [.ref p] ∧ (SqL K H p ys ∨ SqT K H p ys) ∧ Q (.int ys.length) H) ∨ ∃ z, xs = [.str z] ∧ z.length ≤ sizeLine ∧ Q (.int z.length) H
theorem cr_lenAll : CallR X (.builtin "len") (rLenAll X.K) := call_len_seq.or call_len_str
theorem DvA.one {vs : List V} {d : D} (h : DvA W S H vs [d]) : ∃ v, vs = [v] ∧ Dv W S H v d := by
  match vs, h with
  | [v], h => exact ⟨v, rfl, h.1⟩
theorem DvA.two {vs : List V} {d e : D} (h : DvA W S H vs [d, e]) : ∃ v u, vs = [v, u] ∧ Dv W S H v d ∧ Dv W S H u e := by
  match vs, h with
  | [v, u], h => exact ⟨v, u, rfl, h.1, h.2.1⟩
theorem p_len : PureN W (rLenAll W.K) fLen := by
  intro S H vs ds c Q hd h hf r
  unfold fLen at hf
  split at hf
  · obtain ⟨v, rfl, dv⟩ := h.one
    cases hf
    cases dv with
    | lst ha dl => exact .inl ⟨_, _, rfl, .inl (SqL.of ha), by rw [dl.len]; exact r.int hd⟩
  · obtain ⟨v, rfl, dv⟩ := h.one
    cases hf
    cases dv with
    | tup ha dl => exact .inl ⟨_, _, rfl, .inr (tup_sq ha), by rw [dl.len]; exact r.int hd⟩
  · split at hf
    · obtain ⟨v, rfl, dv⟩ := h.one
      cases hf
      cases dv
      exact .inr ⟨_, rfl, line65536 (by assumption), r.int hd⟩
    · cases hf
  · obtain ⟨v, rfl, dv⟩ := h.one
    cases hf
    cases dv with
    | scr ha => exact .inl ⟨_, _, rfl, .inl (ha.elim (fun z => z.2) fun z => z _), r.int hd⟩
  · cases hf
def boolsOf : List D → Option (List Bool)
  | [] => some []
  | .bl b :: ds => (boolsOf ds).bind fun bs => some (b :: bs)
  | _ => none
theorem DvL.bools {vs : List V} {ds : List D} {bs : List Bool} (h : DvL W S H vs ds) (e : boolsOf ds = some bs) : vs = bs.map V.bl := by
  induction ds generalizing vs bs with
  | nil => cases h; cases e; rfl
  | cons d ds ih =>
    cases h with
    | cons t dv r =>
      cases dv <;> first | (cases e; done) | skip
      obtain ⟨bs', e1, e2⟩ := Option.bind_eq_some_iff.mp e
      cases e2
      rw [ih r e1]
      rfl
def fAll (ds : List D) : Option (Bool × D) := match ds with
  | [.lst xs] => (boolsOf xs).bind fun bs => some0 (.bl (bs.all id))
  | _ => none
def fAny (ds : List D) : Option (Bool × D) := match ds with
  | [.lst xs] => (boolsOf xs).bind fun bs => some0 (.bl (bs.any id))
  | _ => none
theorem p_all : PureN W (rAll W.K) fAll := by
  intro S H vs ds c Q hd h hf r
  unfold fAll at hf
  split at hf
  · obtain ⟨v, rfl, dv⟩ := h.one
    obtain ⟨bs, e1, e2⟩ := Option.bind_eq_some_iff.mp hf
    cases e2
    cases dv with
    | lst ha dl => exact ⟨_, bs, rfl, by rw [← dl.bools e1]; exact SqL.of ha, r.bl hd⟩
  · cases hf
theorem p_any : PureN W (rAny W.K) fAny := by
  intro S H vs ds c Q hd h hf r
  unfold fAny at hf
  split at hf
  · obtain ⟨v, rfl, dv⟩ := h.one
    obtain ⟨bs, e1, e2⟩ := Option.bind_eq_some_iff.mp hf
    cases e2
    cases dv with
    | lst ha dl => exact ⟨_, bs, rfl, by rw [← dl.bools e1]; exact SqL.of ha, r.bl hd⟩
  · cases hf
def fList (ds : List D) : Option (Bool × D) := match ds with
  | [.lst xs] => some1 (.lst xs)
  | [.tup xs] => some1 (.lst xs)
  | _ => none
theorem p_list : PureN W (fun xs H Q => ∃ p ys, xs = [.ref p] ∧ (SqL W.K H p ys ∨ SqT W.K H p ys) ∧ ∀ l, H l = none → Q (.ref l) (upd H l (.lst ys))) fList := by
  intro S H vs ds c Q hd h hf r
  unfold fList at hf
  split at hf
  · obtain ⟨v, rfl, dv⟩ := h.one
    cases hf
    cases dv with
    | lst ha dl => exact ⟨_, _, rfl, .inl (SqL.of ha), PRes.lst hd dl r⟩
  · obtain ⟨v, rfl, dv⟩ := h.one
    cases hf
    cases dv with
    | tup ha dl => exact ⟨_, _, rfl, .inr (tup_sq ha), PRes.lst hd dl r⟩
  · cases hf
def fTuple (ds : List D) : Option (Bool × D) := match ds with
  | [.lst xs] => some0 (.tup xs)
  | [.tup xs] => some0 (.tup xs)
  | _ => none
theorem p_tuple : PureN W (fun xs H Q => ∃ p ys, xs = [.ref p] ∧ ((SqL W.K H p ys ∧ ∀ l, H l = none → Q (.ref l) (upd H l (.tup ys))) ∨ (SqT W.K H p ys ∧ Q (.ref p) H))) fTuple := by
  intro S H vs ds c Q hd h hf r
  unfold fTuple at hf
  split at hf
  · obtain ⟨v, rfl, dv⟩ := h.one
    cases hf
    cases dv with
    | lst ha dl => exact ⟨_, _, rfl, .inl ⟨SqL.of ha, PRes.tup hd dl r⟩⟩
  · obtain ⟨v, rfl, dv⟩ := h.one
    cases hf
    cases dv with
    | tup ha dl => exact ⟨_, _, rfl, .inr ⟨tup_sq ha, r.old hd ⟨trivial, .tup ha dl⟩⟩⟩
  · cases hf
def fIntT (ds : List D) : Option (Bool × D) := match ds with
  | [.int i] => some0 (.int i)
  | [.bl b] => some0 (.int (if b then 1 else 0))
  | _ => none
theorem p_intT : PureN W (fun xs H Q => (∃ i, xs = [.int i] ∧ Q (.int i) H) ∨ ∃ k, xs = [.bl k] ∧ Q (.int (if k then 1 else 0)) H) fIntT := by
  intro S H vs ds c Q hd h hf r
  unfold fIntT at hf
  split at hf
  · obtain ⟨v, rfl, dv⟩ := h.one
    cases hf; cases dv; exact .inl ⟨_, rfl, r.int hd⟩
  · obtain ⟨v, rfl, dv⟩ := h.one
    cases hf; cases dv; exact .inr ⟨_, rfl, r.int hd⟩
  · cases hf
def fMin2 (ds : List D) : Option (Bool × D) := match ds with
  | [.int i, .int j] => some0 (.int (if j < i then j else i))
  | _ => none
theorem p_min2 : PureN W (fun xs H Q => ∃ i j, xs = [.int i, .int j] ∧ Q (.int (if j < i then j else i)) H) fMin2 := by
  intro S H vs ds c Q hd h hf r
  unfold fMin2 at hf
  split at hf
  · obtain ⟨v, u, rfl, dv, du⟩ := h.two
    cases hf; cases dv; cases du; exact ⟨_, _, rfl, r.int hd⟩
  · cases hf
end
end Sx
set_option Elab.async false
set_option linter.all false
set_option maxRecDepth 100000
set_option maxHeartbeats 4000000
set_option autoImplicit false
namespace Sx
open PySem L2
open PySem.W (EachIs dataLe dataLt alike AllAlike Sortable)

section
variable {W : Wd} {S P : Addr → Prop} {H : Hp} {X : Cx} {Q : VK} {v : V} {d : D} {en : En} {σ : St}
/-! ### sorted -/
def keyD (d : D) : PyData := (py d).getD .none
def leD (a b : D) : Bool := !dataLt (keyD b) (keyD a)
def pairsAll (f : PyData → PyData → Bool) (ps : List PyData) : Bool := ps.all fun p => ps.all fun q => f p q
def tup1 (p : PyData) : Bool := match p with
  | .tuple (_ :: _) => true
  | _ => false
def flat1 (p : PyData) : Bool := match p with
  | .tuple _ => false
  | .none => false
  | _ => true
def sortOk (ps : List PyData) : Bool := ps.all (fun p => decide (p.depth ≤ 50)) && pairsAll alike ps && (ps.all tup1 || ps.all flat1)
def fSorted (ds : List D) : Option (Bool × D) := match ds with
  | [.lst xs] => (pyL xs).bind fun ps => if sortOk ps && decide (xs.length ≤ 4096) then some1 (.lst (xs.mergeSort leD)) else none
  | _ => none
def rSortP (K : PySem.W.Frag) : List V → Hp → VK → Prop := fun vs H Q => ∃ (a : Addr) (xs : List V) (ps : List PyData), vs = [.ref a] ∧ SqL K H a xs ∧ DpAll K H xs ps ∧ AllAlike ps ∧ Sortable ps ∧ (∀ p ∈ ps, p.depth ≤ 50) ∧
  ∀ q, H q = none → Q (.ref q) (upd H q (.lst (((xs.zip ps).mergeSort (dataLe false fun z : V × PyData => z.2)).map (·.1))))
theorem each_zip {R : Value → PyData → Prop} : ∀ {us : List Value} {xs : List V} {ps : List PyData}, Vals xs us → EachIs R us ps → xs.length = ps.length → EachIs (fun u (z : V × PyData) => RelV z.1 u ∧ R u z.2) us (xs.zip ps)
  | [], [], [], .nil, _, _ => .nil
  | u :: us, x :: xs, p :: ps, .cons r t, .cons r2 t2, e => .cons ⟨r, r2⟩ (each_zip t t2 (by simpa using e))
theorem each_reads {h : Heap} : ∀ {us : List Value} {ps : List PyData} {as : List Addr}, ReadsAll h us ps as → EachIs (fun u p => ∃ as, Reads h u p as) us ps
  | _, _, _, .nil => .nil
  | _, _, _, .cons r t => .cons ⟨_, r⟩ (each_reads t)
theorem each_vals : ∀ {us : List Value} {zs : List (V × PyData)}, EachIs (fun u (z : V × PyData) => RelV z.1 u) us zs → Vals (zs.map (·.1)) us
  | _, _, .nil => .nil
  | _, _, .cons r t => .cons r (each_vals t)
theorem cr_sortP (hu : X.A.units + 64 < cLine) : CallR X (.builtin "sorted") (rSortP X.K) := by
  intro pins s σ H vs us Q I r h
  obtain ⟨a, xs, ps, rfl, hs, dp, hal, hk, hdp, q⟩ := h
  obtain ⟨u, rfl, ru⟩ := vals1 r
  cases ru
  obtain ⟨its, rv, pl, hz⟩ := I.list hs
  obtain ⟨as, ra⟩ := Dp.readsAll I ps xs its dp rv
  have e0 := each_reads ra
  have hlen : xs.length = ps.length := by rw [rv.length, e0.length]
  have e1 := each_zip rv e0 hlen
  have hsnd : (xs.zip ps).map (fun z : V × PyData => z.2) = ps := by
    have := List.map_snd_zip (l₁ := xs) (l₂ := ps) (by omega)
    exact this
  refine PySem.W.sorted_data (vs := its) (bs := xs.zip ps) (enc := fun z => z.2) (R := fun u z => RelV z.1 u) pl.isList (e1.mono fun _ _ h => h.1) (e1.mono fun _ _ h => h.2) (by rw [hsnd]; exact hal) (by rw [hsnd]; exact hk) (by rw [List.length_zip]; omega) (fun b hb => ?_) fun out hl he => ?_
  · have : b.2 ∈ ps := by rw [← hsnd]; exact List.mem_map.mpr ⟨b, hb, rfl⟩
    have := hdp _ this
    show X.A.units + 2 + b.2.depth < cLine
    omega
  · obtain ⟨e, hat⟩ := PyProof.Rows.sortedAll_at s.heap its out.toArray
    have keep : ∀ b o, s.heap.get? b = some o → (PyProof.Rows.sortedAll s.heap its out.toArray).get? b = some o := fun b o h => PyProof.Rows.sortedAll_old h
    have hle : s.heap.objs.size ≤ s.heap.objs.size + 1 := Nat.le_succ _
    refine ⟨.ref (s.heap.objs.size + 1), _, I.laid (t' := s.toks) (a := s.heap.objs.size + 1) (o := .lst (((xs.zip ps).mergeSort (dataLe false fun z : V × PyData => z.2)).map (·.1))) keep hle ⟨?_, out, e, each_vals he, ?_⟩, rfl, q _ (I.hok.fresh hle)⟩
    · rw [List.length_map, List.length_mergeSort, List.length_zip]; omega
    · exact hat
theorem all_pairs {f : PyData → PyData → Bool} {ps : List PyData} (h : pairsAll f ps = true) : ∀ p ∈ ps, ∀ q ∈ ps, f p q = true := fun p hp q hq => List.all_eq_true.mp (List.all_eq_true.mp h p hp) q hq
theorem sortOk_to {ps : List PyData} (h : sortOk ps = true) : AllAlike ps ∧ Sortable ps ∧ ∀ p ∈ ps, p.depth ≤ 50 := by
  unfold sortOk at h
  simp only [Bool.and_eq_true, Bool.or_eq_true] at h
  obtain ⟨⟨h1, h2⟩, h3⟩ := h
  refine ⟨all_pairs h2, ?_, fun p hp => of_decide_eq_true (List.all_eq_true.mp h1 p hp)⟩
  rcases h3 with h3 | h3
  · refine .inl fun p hp => ?_
    have := List.all_eq_true.mp h3 p hp
    unfold tup1 at this
    split at this
    · exact ⟨_, _, rfl⟩
    · cases this
  · refine .inr fun p hp => ?_
    have := List.all_eq_true.mp h3 p hp
    unfold flat1 at this
    split at this
    · cases this
    · cases this
    · rename_i h1 h2; exact ⟨fun z => h2 z, fun xs z => h1 xs z⟩
/-- values beside data, in one order -/
theorem DvL.both : ∀ {vs : List V} {ds : List D}, DvL W S H vs ds → ∃ zs : List (V × D), zs.map (·.1) = vs ∧ zs.map (·.2) = ds ∧ ∀ z ∈ zs, Dz W S H z.1 z.2
  | _, _, .nil => ⟨[], rfl, rfl, fun _ h => by simp at h⟩
  | _, _, .cons (v := v) (d := d) t dv r => by
    obtain ⟨zs, e1, e2, hz⟩ := DvL.both r
    refine ⟨(v, d) :: zs, by simp [e1], by simp [e2], fun z h => ?_⟩
    rcases List.mem_cons.mp h with rfl | h
    · exact ⟨t, dv⟩
    · exact hz z h
theorem DvL.ofBoth : ∀ {zs : List (V × D)}, (∀ z ∈ zs, Dz W S H z.1 z.2) → DvL W S H (zs.map (·.1)) (zs.map (·.2))
  | [], _ => .nil
  | z :: zs, h => .cons (h z List.mem_cons_self).1 (h z List.mem_cons_self).2 (DvL.ofBoth fun y hy => h y (List.mem_cons_of_mem _ hy))
theorem pyL_key {ds : List D} {ps : List PyData} (h : pyL ds = some ps) : ps = ds.map keyD := by
  induction ds generalizing ps with
  | nil => cases h; rfl
  | cons d ds ih =>
    obtain ⟨p, e1, h⟩ := Option.bind_eq_some_iff.mp h
    obtain ⟨qs, e2, h⟩ := Option.bind_eq_some_iff.mp h
    cases h
    rw [ih e2]
    show p :: _ = keyD d :: _
    unfold keyD
    rw [e1]
    rfl
theorem p_sorted : PureN W (rSortP W.K) fSorted := by
  intro S H vs ds c Q hd h hf r
  unfold fSorted at hf
  split at hf
  · rename_i xs
    obtain ⟨v, rfl, dv⟩ := h.one
    obtain ⟨ps, e1, e2⟩ := Option.bind_eq_some_iff.mp hf
    split at e2
    · rename_i hok
      cases e2
      simp only [Bool.and_eq_true, decide_eq_true_eq] at hok
      obtain ⟨s1, s2, s3⟩ := sortOk_to hok.1
      cases dv with
      | lst ha dl =>
        obtain ⟨zs, z1, z2, hz⟩ := dl.both
        refine ⟨_, _, ps, rfl, SqL.of ha, dl.dp e1, s1, s2, s3, ?_⟩
        have hps := pyL_key e1
        have hzip : ∀ xs', zs.map (·.1) = xs' → xs'.zip ps = zs.map fun z => (z.1, keyD z.2) := by
          intro xs' e
          rw [hps, ← z2, ← e, List.map_map, List.zip_map']
          rfl
        rw [hzip _ z1]
        have m1 : (zs.map fun z => (z.1, keyD z.2)).mergeSort (dataLe false fun z : V × PyData => z.2) = (zs.mergeSort fun a b => leD a.2 b.2).map fun z => (z.1, keyD z.2) := by
          rw [List.map_mergeSort (f := fun z : V × Sx.D => (z.1, keyD z.2)) (r := fun a b => leD a.2 b.2) (s := dataLe false fun z : V × PyData => z.2)]
          intro a _ b _
          rfl
        have m2 : (zs.mergeSort fun a b => leD a.2 b.2).map (·.2) = xs.mergeSort leD := by
          rw [List.map_mergeSort (f := fun z : V × Sx.D => z.2) (r := fun a b => leD a.2 b.2) (s := leD)]
          · rw [z2]
          · intro a _ b _; rfl
        rw [m1, List.map_map]
        have dl2 : DvL W S H ((zs.mergeSort fun a b => leD a.2 b.2).map (·.1)) (xs.mergeSort leD) := by
          rw [← m2]
          exact DvL.ofBoth fun z hz' => hz z ((List.mergeSort_perm zs _).mem_iff.mp hz')
        exact PRes.lst hd dl2 r
    · cases e2
  · cases hf

/-! ### isinstance -/
def tyN : D → Option String
  | .non => some "NoneType"
  | .bl _ => some "bool"
  | .int _ => some "int"
  | .str _ => some "str"
  | .lst _ => some "list"
  | .tup _ => some "tuple"
  | .dK _ => some "dict"
  | .dT _ => some "dict"
  | _ => none
def tyAs : List String := ["NoneType", "bool", "int", "str", "list", "tuple", "dict"]
def tyBs : List String := ["bool", "int", "str", "list", "tuple", "dict"]
def isB (t n : String) : Bool := t == n || (t == "bool" && n == "int")
theorem kit_all : tyAs.all (fun t => tyBs.all fun n => kitB t n == some (isB t n)) = true := by decide +kernel
theorem kit_at {t n : String} (ht : t ∈ tyAs) (hn : n ∈ tyBs) : kitB t n = some (isB t n) := eq_of_beq (List.all_eq_true.mp (List.all_eq_true.mp kit_all t ht) n hn)
theorem tyN_mem {d : D} {t : String} (h : tyN d = some t) : t ∈ tyAs := by
  unfold tyN at h
  split at h <;> first | (cases h; decide) | cases h
theorem tyN_is {v : V} {d : D} {t : String} (h : Dv W S H v d) (e : tyN d = some t) : TyX W.K H v (.type t) := by
  cases h with
  | non => cases e; exact .base .non
  | bl b => cases e; exact .base (.bl b)
  | int i => cases e; exact .base (.int i)
  | str x => cases e; exact .base (.str x)
  | lst ha _ => cases e; exact .base (.lst ha)
  | tup ha _ =>
    cases e
    rcases ha with ⟨_, ha⟩ | (ha | ⟨_, ha⟩) | ⟨o, its, n, h1, h2, _⟩
    · exact .base (.tup ha)
    · cases ha
    · cases ha
    · exact .kTuple h1 h2
  | dK ha _ =>
    cases e
    rcases ha with ha | ⟨o, ha⟩
    · exact .base (.dK ha)
    · exact .fDict ha
  | dT ha _ => cases e; exact .base (.dT ha)
  | _ => cases e
def tysOf : List D → Option (List String)
  | [] => some []
  | .ty n :: ds => if n ∈ tyBs then (tysOf ds).bind fun ns => some (n :: ns) else none
  | _ => none
def fIsi (ds : List D) : Option (Bool × D) := match ds with
  | [x, .ty n] => (tyN x).bind fun t => if n ∈ tyBs then some0 (.bl (isB t n)) else none
  | [x, .tup cs] => (tyN x).bind fun t => (tysOf cs).bind fun ns => some0 (.bl (ns.any fun n => isB t n))
  | _ => none
theorem kitAny_tys {K : PySem.W.Frag} {t : String} (ht : t ∈ tyAs) : ∀ {ns : List String}, (∀ n ∈ ns, n ∈ tyBs) → PySem.W.kitAny K (.type t) (ns.map Value.type) = some (ns.any fun n => isB t n)
  | [], _ => rfl
  | n :: ns, h => by
    have e1 : PySem.W.kitOne K (.type t) (.type n) = some (isB t n) := kit_ty (kit_at ht (h n List.mem_cons_self))
    refine kitAny_cons e1 (fun z => ?_) (fun z => ?_)
    · rw [List.any_cons, z, Bool.false_or]
      exact kitAny_tys ht fun m hm => h m (List.mem_cons_of_mem _ hm)
    · rw [List.any_cons, z]; rfl
theorem tys_of {vs : List V} {cs : List D} {ns : List String} (h : DvL W S H vs cs) (e : tysOf cs = some ns) : vs = ns.map V.ty ∧ ∀ n ∈ ns, n ∈ tyBs := by
  induction cs generalizing vs ns with
  | nil => cases h; cases e; exact ⟨rfl, fun _ h => by simp at h⟩
  | cons d cs ih =>
    cases h with
    | cons t dv r =>
      cases d <;> first | (cases e; done) | skip
      rename_i n
      have e : (if n ∈ tyBs then (tysOf cs).bind fun ns => some (n :: ns) else none) = some ns := e
      split at e
      · rename_i hn
        obtain ⟨ns', e1, e2⟩ := Option.bind_eq_some_iff.mp e
        cases e2
        cases dv
        obtain ⟨a, b⟩ := ih r e1
        exact ⟨by rw [a]; rfl, fun m hm => (List.mem_cons.mp hm).elim (fun z => z ▸ hn) (b m)⟩
      · cases e
theorem paired_tys : ∀ ns : List String, Paired ClsV (ns.map V.ty) (ns.map Value.type)
  | [] => .nil
  | n :: ns => .cons (.ty n) (paired_tys ns)
theorem vals_tys : ∀ {ns : List String} {us : List Value}, Vals (ns.map V.ty) us → us = ns.map Value.type
  | [], _, .nil => rfl
  | n :: ns, _, .cons r t => by
    have e : _ = Value.type n := r
    rw [e, vals_tys t]
    rfl
theorem p_isi : PureN W (fun xs H Q => rIsi W.K xs H Q ∨ (rIsiT W.K xs H Q ∨ rIsiK W.K xs H Q)) fIsi := by
  intro S H vs ds c Q hd h hf r
  unfold fIsi at hf
  split at hf
  · obtain ⟨v, u, rfl, dv, du⟩ := h.two
    obtain ⟨t, e1, e2⟩ := Option.bind_eq_some_iff.mp hf
    split at e2
    · rename_i hn
      cases e2
      cases du
      exact .inl ⟨v, _, _, _, _, rfl, .ty _, tyN_is dv e1, kit_ty (kit_at (tyN_mem e1) hn), r.bl hd⟩
    · cases e2
  · obtain ⟨v, u, rfl, dv, du⟩ := h.two
    obtain ⟨t, e1, e2⟩ := Option.bind_eq_some_iff.mp hf
    obtain ⟨ns, e3, e4⟩ := Option.bind_eq_some_iff.mp e2
    cases e4
    cases du with
    | tup ha dl =>
      obtain ⟨hv, hn⟩ := tys_of dl e3
      subst hv
      have ka := kitAny_tys (K := W.K) (tyN_mem e1) hn
      rcases ha with ⟨_, ha⟩ | (ha | ⟨_, ha⟩) | ⟨o, its, n, h1, h2, h3, _, h5⟩
      · exact .inr (.inl ⟨v, _, _, _, _, _, rfl, ha, paired_tys ns, tyN_is dv e1, ka, r.bl hd⟩)
      · cases ha
      · cases ha
      · obtain ⟨oc, od, dt, sl⟩ := o
        simp only at h2 h3
        subst h2 h3
        have hi := vals_tys h5
        refine .inr (.inr ⟨v, _, od, ns.map Value.type, n, sl, _, _, rfl, ?_, tyN_is dv e1, ka, r.bl hd⟩)
        rw [← hi]
        exact h1
  · cases hf
theorem cr_isiAll : CallR X (.builtin "isinstance") (fun xs H Q => rIsi X.K xs H Q ∨ (rIsiT X.K xs H Q ∨ rIsiK X.K xs H Q)) := call_isi.or (call_isiT.or call_isiK)

/-! ### join, repr -/
def strsOf : List D → Option (List Str)
  | [] => some []
  | .str x :: ds => (strsOf ds).bind fun xs => some (x :: xs)
  | _ => none
theorem DvL.strs {vs : List V} {ds : List D} {xs : List Str} (h : DvL W S H vs ds) (e : strsOf ds = some xs) : vs = xs.map V.str := by
  induction ds generalizing vs xs with
  | nil => cases h; cases e; rfl
  | cons d ds ih =>
    cases h with
    | cons t dv r =>
      cases dv <;> first | (cases e; done) | skip
      obtain ⟨bs', e1, e2⟩ := Option.bind_eq_some_iff.mp e
      cases e2
      rw [ih r e1]
      rfl
end
end Sx
set_option Elab.async false
set_option linter.all false
set_option maxRecDepth 100000
set_option maxHeartbeats 4000000
set_option autoImplicit false
namespace Sx
open PySem L2 PyProof.Rows
/-! ### defs whose calls know that no repr is running -/
def NoG (A : Around) : Prop := A.guards = some []
structure FnG (Pr : Program) (w : World) (K : PySem.W.Frag) (mg : Str → Option Value) (base : Heap) (CX : CXT) (k : Nat) (f : Addr) (fd : FuncData) (ps : List Str) (sp : Sp) : Prop where
  len : ∀ vs H Q E, sp vs H Q E → vs.length = ps.length
  go : ∀ {A : Around} {outer : List Env} {s : Shared} {H : Hp} {args : Args} {us : List Value} {vs : List V} {Q : VK} {E : XK}, Room k A → NoG A → Env0 Pr w K mg base A outer s H → BindsTo s fd args (ps.zip us) → Vals vs us → sp vs H Q E → codeAny (model Pr w) A (.call (.ref f) args) (CR CX outer Pr w H s Q E) s
section
variable {Pr : Program} {w : World} {K : PySem.W.Frag} {mg : Str → Option Value} {base : Heap} {CX : CXT} {k : Nat} {f : Addr} {fd : FuncData} {ps N : List Str} {sp : Sp}
theorem FnG.mono {j : Nat} (F : FnG Pr w K mg base CX j f fd ps sp) (h : j ≤ k) : FnG Pr w K mg base CX k f fd ps sp := ⟨F.len, fun r g e b v q => F.go (r.mono h) g e b v q⟩
theorem FnG.imp {sp' : Sp} (F : FnG Pr w K mg base CX k f fd ps sp) (h : ∀ vs H Q E, sp' vs H Q E → sp vs H Q E) : FnG Pr w K mg base CX k f fd ps sp' := ⟨fun vs H Q E q => F.len vs H Q E (h _ _ _ _ q), fun r g e b v q => F.go r g e b v (h _ _ _ _ q)⟩
/-- a def's body keeps its promise -/
theorem fnG_of {x qual : Str} {st : Stmt} (F : Fun K x qual st f fd) (S : FnScope N ps (defScope st)) (len : ∀ vs H Q E, sp vs H Q E → vs.length = ps.length)
    (hb : ∀ (cdv : Value) (A : Around) (outer : List Env) (s : Shared) (H : Hp) (vs : List V) (Q : VK) (E : XK), Room k (A.deeper (envOfC qual (defScope st) s.heap.objs.size f cdv)) → NoG (A.deeper (envOfC qual (defScope st) s.heap.objs.size f cdv)) → sp vs H Q E →
      ∃ t, PSs (cxOf CX Pr w K mg base N qual (defScope st) f cdv A outer s H E) (defBody st) t ∧ t { nx := fun _ H' => Q .non H', rt := Q } (L2.start N vs) H) : FnG Pr w K mg base CX (k + 1) f fd ps sp := by
  obtain ⟨oc, od, kV, doc, pm, an, cdv, ct, osl, rfl, lk, hcd⟩ := F.ex
  refine ⟨len, fun {A outer s H args us vs Q E} hr hg e0 hbd r hsp => ?_⟩
  have hl := len vs H Q E hsp
  have kin : K.In s.heap := e0.mod.kin.keeps fun b o e => (e0.bs b o e).1
  have hkind : ∀ y ∈ ps.zip us, (defScope st).names.lookup y.1 = some .local ∨ ((defScope st).names.lookup y.1 = some .cell ∧ ((cellsFrom (s.heap.objs.size + 1) (defScope st).names []).lookup y.1).isSome = true) := fun y hy =>
    (S.par y.1 (List.of_mem_zip (a := y.1) (b := y.2) hy).1).imp id fun q => ⟨q, PySem.W.cellsFrom_some _ _ _ (.inl q)⟩
  refine codeAny_call_function hr.depth (kin _ _ lk) rfl S.co S.gen rfl (PySem.W.codeRec_of kin hcd) (hbd _ _ _ _ (wpAny_newFunctionEnv_cells S.kind hkind fun env he s1 x => ?_))
  subst he
  refine ⟨(e0.mod.nolimit.keeps fun b o e => (e0.bs b o e).1).keeps x.toInCall.keep, codeAny_func ?_⟩
  obtain ⟨t, ht, hq⟩ := hb cdv A outer s H vs Q E (hr.deeper _) hg hsp
  have I : Inv (cxOf CX Pr w K mg base N qual (defScope st) f cdv A outer s H E) [] (L2.start N vs) H s1 := inv_start S hr.hd e0 hl r x
  refine wpAny_mono (ht.run [] s1 (L2.start N vs) H _ I hq) (fun fl s' hs => ?_) fun e s' hs => hs
  have fin : ∀ {σ' : L2.St} {H' : Hp} {v : V} {u : Value}, Inv (cxOf CX Pr w K mg base N qual (defScope st) f cdv A outer s H E) [] σ' H' s' → RelV v u → Q v H' → CE outer Pr w H s Q u s' := fun {_ H' v _} J rv q => ⟨v, H', J.os, J.bare, J.base, J.hok, rv, q⟩
  match fl, hs with
  | .ret u, ⟨v, σ', H', J, rv, q⟩ => exact fin J rv q
  | .next, ⟨σ', H', J, q⟩ => exact fin (v := V.non) (u := Value.none) J rfl q
  | .brk, ⟨_, _, _, q⟩ => exact q.elim
  | .cont, ⟨_, _, _, q⟩ => exact q.elim
end

section
variable {X : Cx} {CX : CXT} {k : Nat} {f C : Addr} {fd : FuncData} {ps ks : List Str} {sp : Sp} {dvs : List V} {ds : List Value} {E : XK} {x m : Str} {p pos apos : Pos} {e o : Expr} {es : List Expr} {kws : List Keyword} {ta : TE} {t tk : TA}
theorem runG {pins : List (Addr × Obj)} {σ : L2.St} {H : Hp} {s : Shared} {Q : VK} {us us' : List Value} {kw : List (Str × Value)} {vs' : List V} (F : FnG X.prog X.w X.K X.mg X.base CX k f fd ps sp) (hr : Room k X.A) (hg : NoG X.A) (hx : Passes CX X E) (I : Inv X pins σ H s)
    (hb : BindsTo s fd ⟨us, kw⟩ (ps.zip us')) (r : Vals vs' us') (h : sp vs' H Q E) : wpAny (model X.prog X.w) X.A (PySem.call (.ref f) us kw) (EP X pins σ Q) X.xe s := by
  refine wpAny_call (codeAny_mono (F.go hr hg I.env0 hb r h) fun fl s' hq => ?_)
  cases fl with
  | error e => exact hx pins σ H s e s' I hq
  | ok u => cases u with
    | ret u => exact I.after hq
    | _ => exact False.elim hq
/-- f(e, ..) -/
theorem pe_callG (F : FnG X.prog X.w X.K X.mg X.base CX k f fd ps sp) (hr : Room k X.A) (hg : NoG X.A) (gl : Gl X x) (hm : X.mg x = some (.ref f)) (hk : PySem.W.keepIn X.K (.ref f) = true) (hb : Binds X.K fd ps ds) (hd : Vals dvs ds) (hx : Passes CX X E) (ha : PA X (e :: es) t) (hdb : (x == ("__debug__" : Str)) = false)
    (he : starEach (e :: es) X.env = (false, eval e X.env) :: starEach es X.env) (hpl : (backTo pos (starEach es X.env)).any (·.1) = false) : PE X (.Call (.Name x p) (e :: es) [] pos) (tCall sp dvs E t) := by
  refine ⟨fun pins s σ H Q I h => wpAny_Call_Name_kw (ld_glob I gl hm ?_ hdb)⟩
  refine PySem.W.callWith_K (h₀ := X.base) I.ok.mod.kin hk (thn (ha.run pos pins s σ H _ I h) fun us s1 ⟨vs, H1, I1, r, q⟩ => ⟨I1.kIn, ?_⟩) he hpl
  have r2 : Vals (vs ++ dvs) (us ++ ds) := r.append hd
  exact runG (kw := []) F hr hg hx I1 (hb s1 us I1.kIn (by rw [← r2.length]; exact F.len _ _ _ _ q)) r2 q
/-- f() -/
theorem pe_callG0 (F : FnG X.prog X.w X.K X.mg X.base CX k f fd ps sp) (hr : Room k X.A) (hg : NoG X.A) (gl : Gl X x) (hm : X.mg x = some (.ref f)) (hk : PySem.W.keepIn X.K (.ref f) = true) (hb : Binds X.K fd ps ds) (hd : Vals dvs ds) (hx : Passes CX X E) (hdb : (x == ("__debug__" : Str)) = false) :
    PE X (.Call (.Name x p) [] [] pos) (tCall sp dvs E tNil) := by
  refine ⟨fun pins s σ H Q I h => wpAny_Call_Name_kw (ld_glob I gl hm ?_ hdb)⟩
  exact PySem.W.callWith_K0 I.kIn hk (runG (kw := []) (us := []) F hr hg hx I (hb s [] I.kIn (by rw [List.nil_append, ← hd.length]; exact F.len _ _ _ _ h)) hd h)
variable {g : List Value → List Value → List Value} {gV : List V → List V → List V}
/-- f(e, .., k = v, ..) -/
theorem pe_callGK (F : FnG X.prog X.w X.K X.mg X.base CX k f fd ps sp) (hr : Room k X.A) (hg : NoG X.A) (gl : Gl X x) (hm : X.mg x = some (.ref f)) (hk : PySem.W.keepIn X.K (.ref f) = true) (hb : KBinds X.K fd ps ks g gV) (hx : Passes CX X E) (ha : PA X (e :: es) t) (hkw : PK X kws tk)
    (hall : (backToKw pos (keywordEach kws X.env)).all (·.1.isSome) = true) (hks : (backToKw pos (keywordEach kws X.env)).filterMap (·.1) = ks) (hdb : (x == ("__debug__" : Str)) = false) (he : starEach (e :: es) X.env = (false, eval e X.env) :: starEach es X.env)
    (hpl : ((backTo pos (starEach (e :: es) X.env)).any (·.1) || (backToKw pos (keywordEach kws X.env)).any (·.1.isNone)) = false) : PE X (.Call (.Name x p) (e :: es) kws pos) (tCallK sp gV E t tk) := by
  refine ⟨fun pins s σ H Q I h => wpAny_Call_Name_kw (ld_glob I gl hm ?_ hdb)⟩
  refine PySem.W.callWith_KW (h₀ := X.base) I.ok.mod.kin hk hall (thn (ha.run pos pins s σ H _ I h) fun us s1 ⟨vs, H1, I1, r, q⟩ => ?_) hpl he
  refine thn (hkw.run pos pins s1 σ H1 _ I1 q) fun ws s2 ⟨zs, H2, I2, rz, q2⟩ => ⟨I2.kIn, ?_⟩
  rw [hks]
  have r2 := hb.rel r rz
  exact runG (kw := ks.zip ws) F hr hg hx I2 (hb.to s2 us ws I2.kIn (by rw [← r2.length]; exact F.len _ _ _ _ q2)) r2 q2
/-- f(k = v, ..) -/
theorem pe_callGK0 (F : FnG X.prog X.w X.K X.mg X.base CX k f fd ps sp) (hr : Room k X.A) (hg : NoG X.A) (gl : Gl X x) (hm : X.mg x = some (.ref f)) (hk : PySem.W.keepIn X.K (.ref f) = true) (hb : KBinds X.K fd ps ks g gV) (hx : Passes CX X E) (hkw : PK X kws tk)
    (hall : (backToKw pos (keywordEach kws X.env)).all (·.1.isSome) = true) (hks : (backToKw pos (keywordEach kws X.env)).filterMap (·.1) = ks) (hdb : (x == ("__debug__" : Str)) = false)
    (hpl : ((backTo pos (starEach [] X.env)).any (·.1) || (backToKw pos (keywordEach kws X.env)).any (·.1.isNone)) = false) : PE X (.Call (.Name x p) [] kws pos) (tCallK sp gV E tNil tk) := by
  refine ⟨fun pins s σ H Q I h => wpAny_Call_Name_kw (ld_glob I gl hm ?_ hdb)⟩
  refine PySem.W.callWith_KW0 (h₀ := X.base) I.ok.mod.kin hk hall ?_ hpl
  refine thn (hkw.run pos pins s σ H _ I h) fun ws s2 ⟨zs, H2, I2, rz, q2⟩ => ⟨I2.kIn, ?_⟩
  rw [hks]
  have r2 := hb.rel .nil rz
  exact runG (us := []) (kw := ks.zip ws) F hr hg hx I2 (hb.to s2 [] ws I2.kIn (by rw [← r2.length]; exact F.len _ _ _ _ q2)) r2 q2
end

section
variable {Pr : Program} {w : World} {K : PySem.W.Frag} {mg : Str → Option Value} {base : Heap} {cls : Nat → Addr}
/-- a def whose body does what run does -/
theorem fn_ok {x qual : Str} {st : Stmt} {f : Addr} {fd : FuncData} {N ps : List Str} {k : Nat} {run : RunS} (F : Fun K x qual st f fd) (Sc : FnScope N ps (defScope st))
    (hb : ∀ (cdv : Value) (A : Around) (outer : List PySem.Env) (s : Shared) (H : Hp) (E : XK), Room k (A.deeper (envOfC qual (defScope st) s.heap.objs.size f cdv)) → NoG (A.deeper (envOfC qual (defScope st) s.heap.objs.size f cdv)) → ∀ W : Wd, W.K = K → W.cls = cls →
      PSs (cxOf CX0 Pr w K mg base N qual (defScope st) f cdv A outer s H E).nox (defBody st) (TVS W run)) : FnG Pr w K mg base CX0 (k + 1) f fd ps (spR K cls ps.length (runFn N.length run)) := by
  refine fnG_of F Sc (fun vs H Q E h => h.1) fun cdv A outer s H vs Q E hr hg h => ?_
  obtain ⟨hl, W, S, ds, hK, hc, dr, dom, n1, n2, dl, wpq⟩ := h
  refine ⟨_, (hb cdv A outer s H E hr hg W hK hc).nox, S, Pall W H, en0 N.length ds, ?_, ?_⟩
  · have hd : ds.length = ps.length := dl.len.symm.trans hl
    refine ⟨fun a h => ⟨dom a h, fun z => n1 (z ▸ h), fun z => n2 (z ▸ h)⟩, fun a h => h.1, fun i f d e => ?_, fun i j f g d e v h1 h2 h3 => ?_, ?_, dr, ⟨fun h => h.2.1 rfl, fun h => h.2.2 rfl⟩⟩
    · obtain ⟨rfl, hd'⟩ := en0_get e
      obtain ⟨v, hv, dz⟩ := (dl.at (i := i)).2 d hd'
      refine ⟨v, ?_, dz.2, fun _ => dz.1, fun z => absurd rfl z⟩
      unfold L2.start
      rw [List.getElem?_append_left (by simpa using lt_of_get hv), List.getElem?_map, hv]
      rfl
    · exact absurd (en0_get h1).1 h3
    · unfold en0 L2.start
      simp only [List.length_append, List.length_map, List.length_replicate, dl.len]
  · have wpq := (T.wp_bind _ _ _).mp wpq
    refine T.wp_mono wpq fun r q => ?_
    obtain ⟨fl, en⟩ := r
    cases fl with
    | nx => exact fun σ' H' S' P' e R' => q .non H' S' P' e ⟨R'.sp, R'.dom, R'.dr, R'.drP⟩ ⟨.non, fun _ => trivial, fun z => by cases z⟩
    | rt c => exact fun v H' S' P' e ro ok => q v H' S' P' e ro ok
    | bk => exact q.elim
    | ct => exact q.elim
/-- the law's own call -/
theorem law_goG {mb : Str → Option Value} {k : Nat} {fa a : Addr} {fd : FuncData} {x : Str} {sp : Sp} {t : Shared} {us : List Value} {ns : List Int} (kin : K.In t.heap) (g1 : t.heap.Ns mainGlobals mg) (g2 : t.heap.Ns builtinsNs mb) (g3 : ∀ x : Str, x ≠ "__name__" → mb x = bootBuiltins x)
    (lim : t.heap.NoLimit) (gen : t.gens = #[]) (oa : t.heap.get? a = some { cls := .type "list", data := .seq us.toArray }) (ia : IntsAre us ns) (la : ns.length ≤ sizeLine) (hr : Room k callerA)
    (F : ∀ b : Heap, K.In b → b.Ns mainGlobals mg → FnG Pr w K mg b CX0 k fa fd [x] sp) (bd : ∀ (s : Shared) (u : Value), BindsTo s fd ⟨[u], []⟩ [(x, u)])
    (hsp : ∀ G : Hp, Only G → SqL K G a (ns.map V.int) → sp [.ref a] G (fun v _ => v = .bl true) E0) :
    codeAny (model Pr w) callerA (.call (.ref fa) ⟨[.ref a], []⟩) (fun r s' => r = .ok (.ret (.bool true)) ∧ OldK t.heap s'.heap ∧ s'.os = t.os ∧ AllBare s'.gens) t := by
  have rv := vals_ints ia
  have core : ∀ G : Hp, Only G → SqL K G a (ns.map V.int) → HOk Pr w G t.heap → (∀ b u, G b = some u → b = a ∧ K.lookup a = none) → codeAny (model Pr w) callerA (.call (.ref fa) ⟨[.ref a], []⟩) (fun r s' => r = .ok (.ret (.bool true)) ∧ OldK t.heap s'.heap ∧ s'.os = t.os ∧ AllBare s'.gens) t := by
    intro G hO hS hok only
    have free : ∀ {b : Addr} {o : Obj}, t.heap.get? b = some o → (∀ xs n, o.data ≠ .seq xs n) → G b = none := fun {b o} e d => by
      cases q : G b with
      | none => rfl
      | some u =>
        obtain ⟨rfl, _⟩ := only b u q
        rw [oa] at e; cases e
        exact absurd rfl (d _ _)
    have ns_of : ∀ {b : Addr} {m : Str → Option Value}, t.heap.Ns b m → (hidT t.heap G).Ns b m := fun {b m} ⟨o, es, ep, e, d, r⟩ => ⟨o, es, ep, hidT_get e (free e fun xs n z => by rw [d] at z; cases z), d, r⟩
    have kb : K.In (hidT t.heap G) := fun b o e => hidT_get (kin b o e) (by
      cases q : G b with
      | none => rfl
      | some u =>
        obtain ⟨rfl, z⟩ := only b u q
        rw [z] at e; cases e)
    have md : Mod K mg (hidT t.heap G) := ⟨kb, ns_of g1, ⟨mb, ns_of g2, g3⟩, (let ⟨mc, h1, h2⟩ := lim; ⟨mc, ns_of h1, h2⟩)⟩
    have e0 : Env0 Pr w K mg (hidT t.heap G) callerA [] t G := ⟨rfl, md, fun b o e => of_hidT e, Nat.le_of_eq (hidT_size _ _), trivial, (fun b hb => by cases hb), hok, .of_eq gen⟩
    refine codeAny_mono ((F _ kb (ns_of g1)).go hr rfl e0 (bd t (.ref a)) (us := [.ref a]) (vs := [.ref a]) (.cons rfl .nil) (hsp G hO hS)) fun r s' h => ?_
    cases r with
    | error e => exact h.elim
    | ok u => cases u with
      | ret u =>
        obtain ⟨v, G', os, bare, un, hok', r', q⟩ := h
        obtain rfl : v = .bl true := q
        obtain rfl : u = Value.bool true := r'
        refine ⟨rfl, OldK.of_keep fun b o e => ?_, os, bare⟩
        cases q : G b with
        | none => exact un.keep b o e q (fun z => by cases z) (fun z => by cases z)
        | some u =>
          rcases hO b with z | ⟨ob, xs, z⟩
          · rw [q] at z; cases z
          · obtain ⟨e1, _⟩ := hok b _ z
            obtain ⟨e2, _⟩ := hok' b _ (un.frzs b ob _ z)
            rw [e] at e1; cases e1
            exact e2
      | _ => exact False.elim h
  cases hk : K.lookup a with
  | some o =>
    have e := kin a o hk
    rw [oa] at e; cases e
    exact core (fun _ => none) (fun _ => .inl rfl) (.inr ⟨_, us.toArray, _, hk, rfl, rfl, rfl, by rw [List.size_toArray, ia.length]; exact la, by simpa using rv⟩) (fun b u z => by cases z) fun b u z => by cases z
  | none =>
    let o0 : Obj := { cls := .type "list", data := .seq us.toArray }
    have at' : ∀ b u, (fun b => if b = a then some (HO.frz o0 (.lst (ns.map V.int))) else none) b = some u → b = a ∧ u = HO.frz o0 (.lst (ns.map V.int)) := fun b u z => by
      by_cases hb : b = a
      · have z' := (if_pos hb).symm.trans z
        cases z'
        exact ⟨hb, rfl⟩
      · have z' := (if_neg hb).symm.trans z
        cases z'
    refine core (fun b => if b = a then some (HO.frz o0 (.lst (ns.map V.int))) else none) (fun b => ?_) (.inl (.inr ⟨o0, if_pos rfl⟩)) (fun b u z => ?_) fun b u z => ⟨(at' b u z).1, hk⟩
    · by_cases hb : b = a
      · exact .inr ⟨o0, _, if_pos hb⟩
      · exact .inl (if_neg hb)
    · obtain ⟨rfl, rfl⟩ := at' b u z
      exact ⟨oa, by rw [List.length_map]; exact la, us, _, rv, oa⟩
/-- the end of a law, from its def's promise -/
theorem walkG {l : PySem.W.OpenLaw} {n k : Nat} {q : Program} {loose : List Str} {XP : (Str → Option Value) → Heap → Prop} {YP : World → Heap → Prop} {d : DefRec} {K : Params → PySem.W.Frag} {sp : PySem.W.Frag → Sp} {x : Str} (hn : l.most = some n) (hn2 : n ≤ sizeLine) (hdf : d.params.defaults = []) (hr : Room k callerA)
    (hY : ∀ (w : World) (h : Heap), YP w h → (K w.params).In h)
    (F : ∀ (w : World) (mg : Str → Option Value) (fa : Addr) (h : Heap), (K w.params).In h → h.Ns mainGlobals mg → mg d.name = some (.ref fa) → ∃ fd : FuncData, (∀ (s : Shared) (u : Value), BindsTo s fd ⟨[u], []⟩ [(x, u)]) ∧
      ∀ b : Heap, (K w.params).In b → b.Ns mainGlobals mg → FnG l.prog w (K w.params) mg b CX0 k fa fd [x] (sp (K w.params)))
    (hsp : ∀ (K : PySem.W.Frag) (G : Hp) (a : Addr) (ns : List Int), ns.length ≤ n → Only G → SqL K G a (ns.map V.int) → sp K [.ref a] G (fun v _ => v = .bl true) E0) : PySem.W.WalkO q loose XP YP l.row.toRowW d [] (fun f vs => PySem.call f vs) := by
  refine Att.attach_call hn hdf fun w s0 t mg mb fa o pm cd doc a us ns G Y ho hd hcd hmg hobj hints hlen gen => ?_
  obtain ⟨fd, hb, hF⟩ := F w mg fa _ (hY w _ Y) G.T.g hmg
  exact law_goG (hY w _ Y) G.T.g G.T.b G.T.builtins G.T.nolimit gen hobj hints (Nat.le_trans hlen hn2) hr hF hb fun G hO hS => hsp _ G a ns hlen hO hS
end
end Sx
set_option Elab.async false
set_option linter.all false
set_option maxRecDepth 100000
set_option maxHeartbeats 4000000
set_option autoImplicit false
namespace Sx
open PySem L2

section
variable {W : Wd} {S P : Addr → Prop} {H : Hp} {X : Cx} {Q : VK} {v : V} {d : D} {en : En} {σ : St}
/-! ### a name's own object is changed -/
theorem Rel.mut {i : Nat} {p : Addr} {u : HO} {d' : D} (R : Rel W S P en σ H) (h : en[i]? = some (some (.ow, d))) (hv : σ[i]? = some (some (.ref p))) (dv : Dv W S (upd H p u) (.ref p) d') :
    Ext S P H S P (upd H p u) ∧ Rel W S P (en.set i (some (.ow, d'))) σ (upd H p u) := by
  obtain ⟨v, hv', _, _, ow⟩ := R.slot i .ow d h
  rw [hv] at hv'
  cases hv'
  obtain ⟨q, o, eq, nS, nP, _, h1, h2, h3⟩ := ow (by decide)
  cases eq
  have nP := nP rfl
  have pn : ∀ a, P a → a ≠ p := fun a h e => nP (e ▸ h)
  refine ⟨⟨fun _ h => h, fun _ h => h, fun a h => upd_ne (pn a h), fun _ h => .inl h⟩, ⟨R.sp, fun a h => by rw [upd_ne (pn a h)]; exact R.pd a h, fun j f e q => ?_, fun j k f g e e' v g1 g2 g3 g4 g5 g6 => ?_, by rw [List.length_set]; exact R.len, ?_, R.drP⟩⟩
  · rcases set_get q with ⟨rfl, q2⟩ | ⟨ne, q2⟩
    · cases q2
      exact ⟨_, hv, dv, (fun z => by cases z), fun _ => ⟨p, u, rfl, nS, fun _ => nP, (fun z => by cases z), h1, h2, upd_same⟩⟩
    · obtain ⟨v, hv2, dv2, t2, ow2⟩ := R.slot j f e q2
      refine ⟨v, hv2, dv2.mono (fun _ h => h) (fun a h => upd_ne (pn a (R.sp a h))) ?_, t2, fun z => ?_⟩
      · by_cases hf : f = .fz
        · exact (t2 hf).mono fun a h => upd_ne (pn a (R.sp a h))
        · obtain ⟨q, o2, ev, _⟩ := ow2 hf
          subst ev
          have nq : q ≠ p := fun eq => ne (R.inj i j .ow f d e _ h q2 (by decide) hf hv (by rw [hv2, eq]))
          have : upd H p u q = H q := upd_ne nq
          cases e <;> first | exact trivial | exact this
      · obtain ⟨q, o2, ev, a1, a2, a3, a4, a5, a6⟩ := ow2 z
        have nq : q ≠ p := fun eq => ne (R.inj i j .ow f d e _ h q2 (by decide) z hv (by rw [hv2, ev, eq]))
        exact ⟨q, o2, ev, a1, a2, a3, a4, a5, by rw [upd_ne nq]; exact a6⟩
  · have old : ∀ {j : Nat} {f : Fg} {e : D}, (en.set i (some (.ow, d')))[j]? = some (some (f, e)) → f ≠ .fz → ∃ g e', en[j]? = some (some (g, e')) ∧ g ≠ .fz := fun {j f e} q nf => by
      rcases set_get q with ⟨rfl, q2⟩ | ⟨_, q2⟩
      · exact ⟨.ow, d, h, by decide⟩
      · exact ⟨f, e, q2, nf⟩
    obtain ⟨f', d1, k1, n1⟩ := old g1 g3
    obtain ⟨g', d2, k2, n2⟩ := old g2 g4
    exact R.inj j k f' g' d1 d2 v k1 k2 n1 n2 g5 g6
  · obtain ⟨ne, ns, a, b, c, e1, e2, e3⟩ := R.dr
    exact ⟨ne, ns, a, b, c, by rw [upd_ne h1.symm]; exact e1, by rw [upd_ne h2.symm]; exact e2, e3⟩
def ownL (en : En) (i : Nat) : Option (List D) := match en[i]? with
  | some (some (.ow, .lst ds)) => some ds
  | _ => none
theorem ownL_some {i : Nat} {ds : List D} (h : ownL en i = some ds) : en[i]? = some (some (.ow, .lst ds)) := by
  unfold ownL at h
  split at h
  · rename_i ds' e; cases h; exact e
  · cases h
theorem Rel.ownL {i : Nat} {ds : List D} (R : Rel W S P en σ H) (h : Sx.ownL en i = some ds) : ∃ p xs, σ[i]? = some (some (.ref p)) ∧ H p = some (.lst xs) ∧ DvL W S H xs ds ∧ ∀ (ys : List V) (es : List D), DvL W S H ys es →
    Ext S P H S P (upd H p (.lst ys)) ∧ Rel W S P (en.set i (some (.ow, .lst es))) σ (upd H p (.lst ys)) := by
  have e := ownL_some h
  obtain ⟨v, hv, dv, _, ow⟩ := R.slot i .ow _ e
  obtain ⟨p, o, rfl, nS, nP, _⟩ := ow (by decide)
  cases dv with
  | lst ha dl =>
    refine ⟨p, _, hv, ha, dl, fun ys es d2 => R.mut e hv (.lst upd_same (d2.mono (fun _ h => h) fun a h => upd_ne (fun (z : a = p) => nS (z ▸ h))))⟩
/-- x.append(e) -/
def rApp (i : Nat) (re : Run) : Run := fun en => (T.ofOpt (ownL en i)).bind fun _ => (re en).bind fun a => (T.ofOpt (valO a.1)).bind fun y => (T.ofOpt (ownL a.2 i)).bind fun ds => if ds.length < 4096 then .ret (.v .non, a.2.set i (some (.ow, .lst (ds ++ [y])))) else .fail
theorem lt_line {n : Nat} (h : n < 4096) : n < sizeLine := Nat.lt_of_lt_of_le h (Nat.le_trans (by decide : 4096 ≤ 16777216) (by rw [sizeLine_eq]; exact Nat.le_refl _))
theorem tv_app {i : Nat} {re : Run} (hK : X.K = W.K) (h : TV W (rApp i re) σ H Q) : tBM X.K "list" rAppend (tVar i) (tCons (TV W re) tNil) σ H Q := by
  obtain ⟨S, P, en, R, w⟩ := h
  obtain ⟨ds0, h0, w⟩ := T.wp_ofOpt ((T.wp_bind _ _ _).mp w)
  obtain ⟨p, xs, hv, hp, _, _⟩ := R.ownL h0
  refine ⟨.ref p, hv, .inl ⟨rfl, xs, SqL.of hp⟩, S, P, en, R, T.wp_mono ((T.wp_bind _ _ _).mp w) fun a q y H1 S1 P1 e1 R1 ok => ?_⟩
  obtain ⟨yd, hy, q⟩ := T.wp_ofOpt ((T.wp_bind _ _ _).mp q)
  obtain ⟨ds, hds, q⟩ := T.wp_ofOpt ((T.wp_bind _ _ _).mp q)
  obtain ⟨S2, P2, e2, R2, dz⟩ := ok.valz R1 hy
  split at q
  · rename_i hl
    obtain ⟨p', xs', hv', hp', dl, k⟩ := R2.ownL hds
    rw [hv] at hv'
    cases hv'
    obtain ⟨e3, R3⟩ := k (xs' ++ [y]) (ds ++ [yd]) (dl.snoc dz)
    exact ⟨p, xs', y, rfl, rfl, hp', lt_line (by rw [dl.len]; exact hl), q .non _ S2 P2 (e1.trans (e2.trans e3)) R3 ⟨trivial, .non⟩⟩
  · exact q.elim
/-- x.pop(e), x.pop(), x.clear() -/
def rPopI (i : Nat) (re : Run) : Run := fun en => (T.ofOpt (ownL en i)).bind fun _ => (re en).bind fun a => (T.ofOpt (intOf (frc a.2 a.1.fz))).bind fun k => (T.ofOpt (ownL a.2 i)).bind fun ds => if 0 ≤ k ∧ k < 4096 then
  (T.ofOpt ds[k.toNat]?).bind fun y => .ret (.v y, a.2.set i (some (.ow, .lst (ds.eraseIdx k.toNat)))) else .fail
theorem DvL.erase {vs : List V} {ds : List D} (n : Nat) (h : DvL W S H vs ds) : DvL W S H (vs.eraseIdx n) (ds.eraseIdx n) := by
  induction n generalizing vs ds with
  | zero => cases h with
    | nil => exact .nil
    | cons _ _ r => exact r
  | succ n ih => cases h with
    | nil => exact .nil
    | cons t dv r => exact .cons t dv (ih r)
theorem tv_popI {i : Nat} {re : Run} (h : TV W (rPopI i re) σ H Q) : tBM W.K "list" rPopAt (tVar i) (tCons (TV W re) tNil) σ H Q := by
  obtain ⟨S, P, en, R, w⟩ := h
  obtain ⟨ds0, h0, w⟩ := T.wp_ofOpt ((T.wp_bind _ _ _).mp w)
  obtain ⟨p, xs, hv, hp, _, _⟩ := R.ownL h0
  refine ⟨.ref p, hv, .inl ⟨rfl, xs, SqL.of hp⟩, TV.use R w fun a y H1 S1 P1 e1 R1 pe q => ?_⟩
  obtain ⟨k, hk, q⟩ := T.wp_ofOpt ((T.wp_bind _ _ _).mp q)
  obtain ⟨ds, hds, q⟩ := T.wp_ofOpt ((T.wp_bind _ _ _).mp q)
  have yi := pe.now R1 (intOf_some hk)
  cases yi
  split at q
  · rename_i hl
    obtain ⟨z, hz, q⟩ := T.wp_ofOpt ((T.wp_bind _ _ _).mp q)
    obtain ⟨p', xs', hv', hp', dl, mk⟩ := R1.ownL hds
    rw [hv] at hv'
    cases hv'
    obtain ⟨x, hx, dz⟩ := (dl.at (i := k.toNat)).2 z hz
    obtain ⟨e3, R3⟩ := mk _ _ (dl.erase k.toNat)
    have hlt := lt_of_get hx
    have hi : ixN xs'.length k = some k.toNat := by
      unfold ixN
      rw [if_pos hl.1, if_pos (by omega)]
    obtain ⟨s1, _⟩ := ixN_seq hi
    refine ⟨p, xs', k, k.toNat, x, rfl, rfl, hp', by omega, by omega, s1, hx, q x _ S1 P1 (e1.trans e3) R3 ?_⟩
    exact dz.mono e3.s fun b hb => e3.h b (R1.sp b hb)
  · exact q.elim
def rPop0 (i : Nat) : Run := fun en => (T.ofOpt (ownL en i)).bind fun ds => (T.ofOpt ds[ds.length - 1]?).bind fun y => .ret (.v y, en.set i (some (.ow, .lst ds.dropLast)))
theorem DvL.dropLast {vs : List V} {ds : List D} (h : DvL W S H vs ds) : DvL W S H vs.dropLast ds.dropLast := by
  rw [List.dropLast_eq_take, List.dropLast_eq_take, h.len]
  exact h.take _
theorem tv_pop0 {i : Nat} (h : TV W (rPop0 i) σ H Q) : tBM0 W.K "list" rPop (tVar i) σ H Q := by
  obtain ⟨S, P, en, R, w⟩ := h
  obtain ⟨ds, h0, w⟩ := T.wp_ofOpt ((T.wp_bind _ _ _).mp w)
  obtain ⟨z, hz, q⟩ := T.wp_ofOpt ((T.wp_bind _ _ _).mp w)
  obtain ⟨p, xs, hv, hp, dl, mk⟩ := R.ownL h0
  obtain ⟨x, hx, dz⟩ := (dl.at (i := ds.length - 1)).2 z hz
  obtain ⟨e3, R3⟩ := mk _ _ dl.dropLast
  refine ⟨.ref p, hv, .inl ⟨rfl, xs, SqL.of hp⟩, p, xs, x, rfl, rfl, hp, by rw [dl.len]; exact hx, q x _ S P e3 R3 ?_⟩
  exact dz.mono e3.s fun b hb => e3.h b (R.sp b hb)
def rClr (i : Nat) : Run := fun en => (T.ofOpt (ownL en i)).bind fun _ => .ret (.v .non, en.set i (some (.ow, .lst [])))
theorem tv_clr {i : Nat} (h : TV W (rClr i) σ H Q) : tBM0 W.K "list" rClear (tVar i) σ H Q := by
  obtain ⟨S, P, en, R, w⟩ := h
  obtain ⟨ds, h0, q⟩ := T.wp_ofOpt ((T.wp_bind _ _ _).mp w)
  obtain ⟨p, xs, hv, hp, dl, mk⟩ := R.ownL h0
  obtain ⟨e3, R3⟩ := mk [] [] .nil
  exact ⟨.ref p, hv, .inl ⟨rfl, xs, SqL.of hp⟩, p, xs, rfl, rfl, hp, q .non _ S P e3 R3 ⟨trivial, .non⟩⟩
section
variable {o e : Expr} {re : Run} {i : Nat} {x : Str} {pos apos cpos : Pos}
def few (e : Expr) (X : Cx) (cpos : Pos) : Prop := ((backTo cpos (starEach [e] X.env)).all (fun x => !x.1) && (backToKw cpos (keywordEach [] X.env)).all (fun x => x.1.isSome) && decide ([e].length + ([] : List Keyword).length + (if ([] : List Keyword).isEmpty then 0 else 1) < 30)) = true
theorem x_app (hK : X.K = W.K) (ho : PE X o (tVar i)) (he : PE X e (TV W re)) (hb : attributeBase o "append" X.env (eval o X.env) = eval o X.env) (hf : few e X cpos) (hl : (apos.endLine == cpos.line) = true) (hs : starEach [e] X.env = (false, eval e X.env) :: starEach [] X.env)
    (hp : (backTo cpos (starEach [] X.env)).any (·.1) = false) : PE X (.Call (.Attribute o "append" apos) [e] [] cpos) (TV W (rApp i re)) :=
  pe_weak (pe_bm PySem.F.plainAttrs_list PySem.F.slot_list_append PySem.F.type_list_append mt_append ho (pa_cons he pa_nil hs) hb hf hl hs hp) fun _ _ _ h => tv_app hK h
theorem x_popI (hK : X.K = W.K) (ho : PE X o (tVar i)) (he : PE X e (TV W re)) (hb : attributeBase o "pop" X.env (eval o X.env) = eval o X.env) (hf : few e X cpos) (hl : (apos.endLine == cpos.line) = true) (hs : starEach [e] X.env = (false, eval e X.env) :: starEach [] X.env)
    (hp : (backTo cpos (starEach [] X.env)).any (·.1) = false) : PE X (.Call (.Attribute o "pop" apos) [e] [] cpos) (TV W (rPopI i re)) :=
  pe_weak (pe_bm PySem.F.plainAttrs_list PySem.F.slot_list_pop PySem.F.type_list_pop mt_popAt ho (pa_cons he pa_nil hs) hb hf hl hs hp) fun _ _ _ h => by rw [hK]; exact tv_popI h
theorem x_pop0 (hK : X.K = W.K) (ho : PE X o (tVar i)) (hb : attributeBase o "pop" X.env (eval o X.env) = eval o X.env) (hl : (apos.endLine == cpos.line) = true) : PE X (.Call (.Attribute o "pop" apos) [] [] cpos) (TV W (rPop0 i)) :=
  pe_weak (pe_bm0 PySem.F.plainAttrs_list PySem.F.slot_list_pop PySem.F.type_list_pop mt_pop ho hb hl) fun _ _ _ h => by rw [hK]; exact tv_pop0 h
theorem x_clr (hK : X.K = W.K) (ho : PE X o (tVar i)) (hb : attributeBase o "clear" X.env (eval o X.env) = eval o X.env) (hl : (apos.endLine == cpos.line) = true) : PE X (.Call (.Attribute o "clear" apos) [] [] cpos) (TV W (rClr i)) :=
  pe_weak (pe_bm0 PySem.F.plainAttrs_list PySem.F.slot_list_clear PySem.F.type_list_clear mt_clear ho hb hl) fun _ _ _ h => by rw [hK]; exact tv_clr h
end

/-! ### methods of texts -/
def strOf : Option D → Option Str
  | some (.str x) => some x
  | _ => none
def rStrM (ro : Run) (rs : Runs) (f : Str → List D → Option (Bool × D)) : Run := fun en => (ro en).bind fun a => (T.ofOpt (strOf (frc a.2 a.1.fz))).bind fun x => (rs a.2).bind fun b => ret1 ((frcs b.2 b.1).bind fun ds => f x ds) b.2
theorem strOf_some {o : Option D} {x : Str} (h : strOf o = some x) : o = some (.str x) := by
  unfold strOf at h
  split at h
  · cases h; rfl
  · cases h
theorem tv_strM {ro : Run} {rs : Runs} {f : Str → List D → Option (Bool × D)} {r : V → List V → Hp → VK → Prop} (hr : ∀ x, PureN W (fun vs H Q => r (.str x) vs H Q) (f x)) (h : TV W (rStrM ro rs f) σ H Q) : tBM W.K "str" r (TV W ro) (TVs W rs) σ H Q := by
  obtain ⟨S, P, en, R, w⟩ := h
  refine TV.use R w fun a v H1 S1 P1 e1 R1 pe q => ?_
  obtain ⟨x, hx, q⟩ := T.wp_ofOpt ((T.wp_bind _ _ _).mp q)
  have := pe.now R1 (strOf_some hx)
  cases this
  refine ⟨rfl, TVs.use R1 q fun b vs H2 S2 P2 e2 R2 p2 q2 => ?_⟩
  obtain ⟨z, ez, qz⟩ := wp_ret1 q2
  obtain ⟨ds, eds, fx⟩ := Option.bind_eq_some_iff.mp ez
  exact hr x S2 H2 vs ds z Q R2.dom (p2.now R2 eds) fx (R2.res fun v' H' S' P' e' R' ok => qz v' H' S' P' (e1.trans (e2.trans e')) R' ok)
def fJoin (x : Str) (ds : List D) : Option (Bool × D) := match ds with
  | [.lst xs] => (strsOf xs).bind fun ys => if (ys.map (·.length)).sum + ys.length * x.length ≤ 65536 then some0 (.str (Txt.join x ys)) else none
  | _ => none
theorem p_join (x : Str) : PureN W (fun vs H Q => ∃ a p, ∃ ys : List Str, V.str x = .str a ∧ vs = [.ref p] ∧ (SqL W.K H p (ys.map V.str) ∨ SqT W.K H p (ys.map V.str)) ∧ (ys.map (·.length)).sum + ys.length * a.length ≤ 16777216 ∧ Q (.str (Txt.join a ys)) H) (fJoin x) := by
  intro S H vs ds c Q hd h hf r
  unfold fJoin at hf
  split at hf
  · obtain ⟨v, rfl, dv⟩ := h.one
    obtain ⟨ys, e1, e2⟩ := Option.bind_eq_some_iff.mp hf
    split at e2
    · rename_i hl
      cases e2
      cases dv with
      | lst ha dl => exact ⟨x, _, ys, rfl, rfl, .inl (by rw [← dl.strs e1]; exact SqL.of ha), by omega, r.str hd⟩
    · cases e2
  · cases hf
theorem x_join {o e : Expr} {ro re : Run} {apos cpos : Pos} (hK : X.K = W.K) (ho : PE X o (TV W ro)) (he : PE X e (TV W re)) (hb : attributeBase o "join" X.env (eval o X.env) = eval o X.env) (hf : few e X cpos) (hl : (apos.endLine == cpos.line) = true)
    (hs : starEach [e] X.env = (false, eval e X.env) :: starEach [] X.env) (hp : (backTo cpos (starEach [] X.env)).any (·.1) = false) : PE X (.Call (.Attribute o "join" apos) [e] [] cpos) (TV W (rStrM ro (rCons re rNil) fJoin)) :=
  pe_weak (pe_bm PySem.F.plainAttrs_str PySem.F.slot_str_join PySem.F.type_str_join mt_join ho (x_cons he x_nil hs) hb hf hl hs hp) fun _ _ _ h => by rw [hK]; exact tv_strM p_join h

/-! ### ranges and pairs walked -/
def iRange (rs : Runs) : RunI := fun en => (rs en).bind fun a => (T.ofOpt (match frcs a.2 a.1 with
  | some [.int j] => if j ≤ 4096 ∧ -4096 ≤ j then some ((List.range j.toNat).map fun k => D.int (0 + (k : Nat))) else none
  | _ => none)).bind fun ds => .ret (ds, a.2)
theorem walks_rng {n : Nat} {lo : Int} : Walks W S P H (Itr lo n) ((List.range n).map fun k => D.int (lo + (k : Nat))) := by
  have hl : ((List.range n).map fun k => D.int (lo + (k : Nat))).length = n := by simp
  refine ⟨fun i _ _ h => by rw [hl] at h; exact h, fun i _ _ h => by rw [hl] at h; exact h, fun i H2 x H3 _ hi y => ?_⟩
  rw [hl] at hi
  obtain ⟨rfl, rfl⟩ := y
  exact ⟨.int (lo + (i : Nat)), by rw [List.getElem?_map, List.getElem?_range hi]; rfl, .inl ⟨rfl, trivial, .int _⟩⟩
theorem x_range {tg a : Expr} {ra : Run} {p pos : Pos} (hg : Gl X "range") (hm : X.mg "range" = none) (ha : PE X a (TV W ra)) (hs : starEach [a] X.env = (false, eval a X.env) :: starEach [] X.env) : PI X tg (.Call (.Name "range" p) [a] [] pos) (TVI W (iRange (rCons ra rNil)) none) := by
  refine ⟨fun pins s σ H R I q => (pi_range1 (tg := tg) hg hm (x_cons ha x_nil hs) hs).run pins s σ H R I ?_⟩
  obtain ⟨S, P, en, Rl, w⟩ := q
  refine TVs.use Rl w fun c vs H1 S1 P1 e1 R1 p1 q => ?_
  obtain ⟨ds, hds, q⟩ := T.wp_ofOpt ((T.wp_bind _ _ _).mp q)
  split at hds
  · rename_i j hj
    split at hds
    · rename_i hb
      obtain ⟨v, rfl, dv⟩ := (p1.now R1 hj).one
      cases dv
      refine ⟨j, rfl, by omega, by omega, q (Itr 0 j.toNat) H1 S1 P1 P1 e1 R1 (fun _ h => h) (fun S3 P3 en3 σ3 H3 _ e3 R3 => ⟨P3, fun _ h => h, e3, R3⟩) (fun _ => rfl) ?_⟩
      cases hds
      exact walks_rng
    · cases hds
  · cases hds
def enumD (ds : List D) : List D := ds.zipIdx.map fun z => .tup [.int (z.2 : Nat), z.1]
def iEnumR (rs : Runs) : RunI := fun en => (rs en).bind fun a => (T.ofOpt (match onlyV a.1 with
  | some [.lst ds] => some (enumD ds)
  | _ => none)).bind fun ds => .ret (ds, a.2)
theorem walks_enum {a : Addr} {xs : List V} {ds : List D} (R : Rel W S P en σ H) (ha : P a) (h : H a = some (.lst xs)) (dl : DvL W S H xs ds) : Walks W S P H (Ite W.K a) (enumD ds) := by
  have hl : (enumD ds).length = ds.length := by simp [enumD]
  have at' : ∀ H2, (∀ b, P b → H2 b = H b) → SqL W.K H2 a xs := fun H2 q => SqL.of ((q a ha).trans h)
  refine ⟨fun i H2 q hi => ⟨xs, at' H2 q, by rw [dl.len]; omega⟩, fun i H2 q hi => ?_, fun i H2 x H3 q hi y => ?_⟩
  · have hi' : i < xs.length := by rw [dl.len]; omega
    exact ⟨xs, xs[i], at' H2 q, List.getElem?_eq_getElem hi'⟩
  · obtain ⟨T', x', rfl, hT, rfl, y⟩ := y
    obtain ⟨d, hd, dz⟩ := (dl.at (i := i)).1 x' (y xs (at' _ q))
    refine ⟨.tup [.int (i : Nat), d], ?_, .inr ⟨T', _, _, rfl, hT, rfl, rfl, .cons trivial (.int _) (.cons dz.1 (dz.2.mono (fun _ h => h) (fun b s => q b (R.sp b s)) (dz.1.mono fun b s => q b (R.sp b s))) .nil)⟩⟩
    unfold enumD
    rw [List.getElem?_map, List.getElem?_zipIdx, hd]
    simp
theorem x_enum {e : Expr} {ra : Run} {p pos tpos : Pos} {elts : List Expr} {kk : Nat} (hK : X.K = W.K) (hg : Gl X "enumerate") (hm : X.mg "enumerate" = none) (ha : PE X e (TV W ra)) (hs : starEach [e] X.env = (false, eval e X.env) :: starEach [] X.env) :
    PI X (.Tuple elts kk tpos) (.Call (.Name "enumerate" p) [e] [] pos) (TVI W (iEnumR (rCons ra rNil)) none) := by
  refine ⟨fun pins s σ H R I q => (pi_enum hg hm (x_cons ha x_nil hs) hs).run pins s σ H R I ?_⟩
  rw [hK]
  obtain ⟨S, P, en, Rl, w⟩ := q
  refine TVs.use Rl w fun c vs H1 S1 P1 e1 R1 p1 q => ?_
  obtain ⟨ds, hds, q⟩ := T.wp_ofOpt ((T.wp_bind _ _ _).mp q)
  split at hds
  · rename_i es hj
    cases hds
    cases p1.only hj with
    | cons t dv r =>
      cases r
      cases dv with
      | lst ha dl => exact ⟨_, _, rfl, SqL.of ha, q (Ite W.K _) H1 S1 P1 P1 e1 R1 (fun _ h => h) (fun S3 P3 en3 σ3 H3 _ e3 R3 => ⟨P3, fun _ h => h, e3, R3⟩) (fun _ => rfl) (walks_enum R1 (R1.sp _ t) ha dl)⟩
  · cases hds
end
end Sx
set_option Elab.async false
set_option linter.all false
set_option maxRecDepth 100000
set_option maxHeartbeats 4000000
set_option autoImplicit false
namespace Sx
open PySem L2
/-! ### short words for derivations -/
section
variable {W : Wd} {X : Cx} {a b c e o : Expr} {es : List Expr} {ra rb rc re ro : Run} {rs rt : Runs} {pos apos p p2 p3 : Pos} {i : Nat} {x : Str}
theorem e_var (i : Nat) (hN : X.N[i]? = some x := by rfl) (hv : Vis X.env.scope x := by first | exact Or.inl rfl | exact Or.inr (Or.inl rfl) | exact Or.inr (Or.inr rfl)) (hd : (x == ("__debug__" : Str)) = false := by decide) (hcd : (x == ("__classdict__" : Str)) = false := by decide) :
    PE X (.Name x pos) (TV W (rVar i)) := pe_weak (pe_var hN hv hd hcd) fun _ _ _ h => tv_var h
theorem e_mov (i : Nat) (hN : X.N[i]? = some x := by rfl) (hv : Vis X.env.scope x := by first | exact Or.inl rfl | exact Or.inr (Or.inl rfl) | exact Or.inr (Or.inr rfl)) (hd : (x == ("__debug__" : Str)) = false := by decide) (hcd : (x == ("__classdict__" : Str)) = false := by decide) :
    PE X (.Name x pos) (TV W (rMov i)) := pe_weak (pe_var hN hv hd hcd) fun _ _ _ h => tv_mov h
theorem e_bor (i : Nat) (hN : X.N[i]? = some x := by rfl) (hv : Vis X.env.scope x := by first | exact Or.inl rfl | exact Or.inr (Or.inl rfl) | exact Or.inr (Or.inr rfl)) (hd : (x == ("__debug__" : Str)) = false := by decide) (hcd : (x == ("__classdict__" : Str)) = false := by decide) :
    PE X (.Name x pos) (TV W (rBor i)) := pe_weak (pe_var hN hv hd hcd) fun _ _ _ h => tv_bor h
theorem e_own (i : Nat) (hN : X.N[i]? = some x := by rfl) (hv : Vis X.env.scope x := by first | exact Or.inl rfl | exact Or.inr (Or.inl rfl) | exact Or.inr (Or.inr rfl)) (hd : (x == ("__debug__" : Str)) = false := by decide) (hcd : (x == ("__classdict__" : Str)) = false := by decide) :
    PE X (.Name x pos) (tVar i) := pe_var hN hv hd hcd
theorem e_int {k : Int} {j : Nat} : PE X (.Constant (.int k) j pos) (TV W (rC (.int k))) := pe_weak pe_int fun _ _ _ h => tv_c (d := .int k) (fun _ _ => ⟨trivial, .int _⟩) h
theorem e_bl {k : Bool} {j : Nat} : PE X (.Constant (.bool k) j pos) (TV W (rC (.bl k))) := pe_weak pe_bl fun _ _ _ h => tv_c (d := .bl k) (fun _ _ => ⟨trivial, .bl _⟩) h
theorem e_non {j : Nat} : PE X (.Constant .none j pos) (TV W (rC .non)) := pe_weak pe_non fun _ _ _ h => tv_c (d := .non) (fun _ _ => ⟨trivial, .non⟩) h
theorem e_str {k : Str} {j : Nat} : PE X (.Constant (.str k) j pos) (TV W (rC (.str k))) := pe_weak pe_str fun _ _ _ h => tv_c (d := .str k) (fun _ _ => ⟨trivial, .str _⟩) h
/-- a module's constant: a number, a text -/
theorem e_gint {k : Int} {t : Tok} (hm : X.mg x = some (.int k t)) (hg : Gl X x := by rfl) (hd : (x == ("__debug__" : Str)) = false := by decide) : PE X (.Name x pos) (TV W (rC (.int k))) := pe_weak (pe_glob (v := .int k) hg hm ⟨t, rfl⟩ hd) fun _ _ _ h => tv_c (d := .int k) (fun _ _ => ⟨trivial, .int _⟩) h
theorem e_gstr {k : Str} {t : Tok} (hm : X.mg x = some (.str k t)) (hg : Gl X x := by rfl) (hd : (x == ("__debug__" : Str)) = false := by decide) : PE X (.Name x pos) (TV W (rC (.str k))) := pe_weak (pe_glob (v := .str k) hg hm ⟨t, rfl⟩ hd) fun _ _ _ h => tv_c (d := .str k) (fun _ _ => ⟨trivial, .str _⟩) h
/-- a built-in type -/
theorem e_ty {n : String} (hm : X.mg x = none) (hv : bootBuiltins x = some (.type n)) (hg : Gl X x := by rfl) (hn : x ≠ "__name__" := by decide) (hd : (x == ("__debug__" : Str)) = false := by decide) : PE X (.Name x pos) (TV W (rC (.ty n))) :=
  pe_weak (pe_bltn (v := .ty n) hg hm hv rfl hn hd) fun _ _ _ h => tv_c (d := .ty n) (fun _ _ => ⟨trivial, .ty _⟩) h
theorem a_nil : PA X [] (TVs W rNil) := x_nil
theorem a_cons (ha : PE X e (TV W re)) (hr : PA X es (TVs W rs)) (hs : starEach (e :: es) X.env = (false, eval e X.env) :: starEach es X.env := by rfl) : PA X (e :: es) (TVs W (rCons re rs)) := x_cons ha hr hs
def mkL (ds : List D) : Option (Bool × D) := small ds (true, .lst ds)
def mkT (ds : List D) : Option (Bool × D) := small ds (false, .tup ds)
theorem e_lst (h : PA X es (TVs W rs)) : PE X (.List es pos) (TV W (rDisp mkL rs)) := x_lst h
theorem e_tup {k : Nat} (h : PA X es (TVs W rs)) : PE X (.Tuple es k pos) (TV W (rDisp mkT rs)) := x_tup h
theorem e_add (hK : X.K = W.K) (ha : PE X a (TV W ra)) (hb : PE X b (TV W rb)) : PE X (.BinOp a .Add b pos) (TV W (run2 ra rb fAdd)) := x_bin (by rw [← hK]; exact op_addAll) p_add ha hb
abbrev fSub := fInt2 fun i j => i - j
theorem e_sub (ha : PE X a (TV W ra)) (hb : PE X b (TV W rb)) : PE X (.BinOp a .Sub b pos) (TV W (run2 ra rb fSub)) := x_bin op_sub p_int2 ha hb
instance (i j : Int) : Decidable (CMulW i j) := inferInstanceAs (Decidable (_ < _))
instance (i j : Int) : Decidable (CDivW i j) := inferInstanceAs (Decidable (_ ∧ _))
abbrev fMulI := fIntC (fun i j => decide (CMulW i j)) fun i j => i * j
theorem e_mulI (ha : PE X a (TV W ra)) (hb : PE X b (TV W rb)) : PE X (.BinOp a .Mult b pos) (TV W (run2 ra rb fMulI)) := x_bin op_mulW (p_intC fun i j h => of_decide_eq_true h) ha hb
abbrev fFdiv := fIntC (fun i j => decide (CDivW i j)) fun i j => i / j
theorem e_fdiv (ha : PE X a (TV W ra)) (hb : PE X b (TV W rb)) : PE X (.BinOp a .FloorDiv b pos) (TV W (run2 ra rb fFdiv)) := x_bin op_fdivW (p_intC fun i j h => of_decide_eq_true h) ha hb
abbrev fMod := fIntC (fun _ j => decide (0 < j)) fun i j => i % j
theorem e_mod (ha : PE X a (TV W ra)) (hb : PE X b (TV W rb)) : PE X (.BinOp a .Mod b pos) (TV W (run2 ra rb fMod)) := x_bin op_mod (p_intC fun i j h => of_decide_eq_true h) ha hb
theorem e_neg (ha : PE X a (TV W ra)) : PE X (.UnaryOp .USub a pos) (TV W (run1 ra fNeg)) := x_un un_neg p_neg ha
/-! comparisons: as values (e_), as tests (t_) -/
theorem Room.u {k : Nat} {A : Around} (hr : Room k A) : A.units + 64 < cLine := hr.units
theorem t_cmp {op : CmpOp} {r : R2} {f : D → D → Option (Bool × D)} (ho : OpR X (compareOp op) r) (hr : Pure2 W r f) (ha : PE X a (TV W ra)) (hb : PE X b (TV W rb)) (hm : behindInMarks op b = false) : PT X (.Compare a [op] [b] pos) (TVT W (toT (run2 ra rb f))) :=
  pt_weak (pt_cmpR ho ha hb hm) fun _ _ _ h => tv2 hr (tvt_tB h)
abbrev fLt := fCmp fun p q => PySem.W.dataLt p q
abbrev fGt := fCmp fun p q => PySem.W.dataLt q p
abbrev fLe := fCmp fun p q => !PySem.W.dataLt q p
abbrev fGe := fCmp fun p q => !PySem.W.dataLt p q
abbrev fIn := fInG false
abbrev fNotIn := fInG true
abbrev fIsP := fIs false
abbrev fIsNot := fIs true
variable {k : Nat}
theorem e_eq (hK : X.K = W.K) (hr : Room k X.A) (ha : PE X a (TV W ra)) (hb : PE X b (TV W rb)) (hm : behindInMarks .Eq b = false := by rfl) : PE X (.Compare a [.Eq] [b] pos) (TV W (run2 ra rb fEq)) := x_cmp (by rw [← hK]; exact op_eqP hr.units) p_eq ha hb hm
theorem e_ne (hK : X.K = W.K) (hr : Room k X.A) (ha : PE X a (TV W ra)) (hb : PE X b (TV W rb)) (hm : behindInMarks .NotEq b = false := by rfl) : PE X (.Compare a [.NotEq] [b] pos) (TV W (run2 ra rb fNe)) := x_cmp (by rw [← hK]; exact op_neP hr.units) p_ne ha hb hm
theorem e_lt (hK : X.K = W.K) (hr : Room k X.A) (ha : PE X a (TV W ra)) (hb : PE X b (TV W rb)) (hm : behindInMarks .Lt b = false := by rfl) : PE X (.Compare a [.Lt] [b] pos) (TV W (run2 ra rb fLt)) := x_cmp (by rw [← hK]; exact op_ltP hr.units) p_cmp ha hb hm
theorem e_gt (hK : X.K = W.K) (hr : Room k X.A) (ha : PE X a (TV W ra)) (hb : PE X b (TV W rb)) (hm : behindInMarks .Gt b = false := by rfl) : PE X (.Compare a [.Gt] [b] pos) (TV W (run2 ra rb fGt)) := x_cmp (by rw [← hK]; exact op_gtP hr.units) p_cmp ha hb hm
theorem e_le (hK : X.K = W.K) (hr : Room k X.A) (ha : PE X a (TV W ra)) (hb : PE X b (TV W rb)) (hm : behindInMarks .LtE b = false := by rfl) : PE X (.Compare a [.LtE] [b] pos) (TV W (run2 ra rb fLe)) := x_cmp (by rw [← hK]; exact op_leP hr.units) p_cmp ha hb hm
theorem e_ge (hK : X.K = W.K) (hr : Room k X.A) (ha : PE X a (TV W ra)) (hb : PE X b (TV W rb)) (hm : behindInMarks .GtE b = false := by rfl) : PE X (.Compare a [.GtE] [b] pos) (TV W (run2 ra rb fGe)) := x_cmp (by rw [← hK]; exact op_geP hr.units) p_cmp ha hb hm
theorem e_in (hK : X.K = W.K) (hr : Room k X.A) (ha : PE X a (TV W ra)) (hb : PE X b (TV W rb)) (hm : behindInMarks .In b = false := by rfl) : PE X (.Compare a [.In] [b] pos) (TV W (run2 ra rb fIn)) := x_cmp (by rw [← hK]; exact op_inAll hr.units) p_in ha hb hm
theorem e_notIn (hK : X.K = W.K) (hr : Room k X.A) (ha : PE X a (TV W ra)) (hb : PE X b (TV W rb)) (hm : behindInMarks .NotIn b = false := by rfl) : PE X (.Compare a [.NotIn] [b] pos) (TV W (run2 ra rb fNotIn)) := x_cmp (by rw [← hK]; exact op_notInAll hr.units) p_in ha hb hm
theorem e_is (ha : PE X a (TV W ra)) (hb : PE X b (TV W rb)) (hm : behindInMarks .Is b = false := by rfl) : PE X (.Compare a [.Is] [b] pos) (TV W (run2 ra rb fIsP)) := x_cmp op_isAll p_is ha hb hm
theorem e_isNot (ha : PE X a (TV W ra)) (hb : PE X b (TV W rb)) (hm : behindInMarks .IsNot b = false := by rfl) : PE X (.Compare a [.IsNot] [b] pos) (TV W (run2 ra rb fIsNot)) := x_cmp op_isNotAll p_is ha hb hm
theorem t_eq (hK : X.K = W.K) (hr : Room k X.A) (ha : PE X a (TV W ra)) (hb : PE X b (TV W rb)) (hm : behindInMarks .Eq b = false := by rfl) : PT X (.Compare a [.Eq] [b] pos) (TVT W (toT (run2 ra rb fEq))) := t_cmp (by rw [← hK]; exact op_eqP hr.units) p_eq ha hb hm
theorem t_ne (hK : X.K = W.K) (hr : Room k X.A) (ha : PE X a (TV W ra)) (hb : PE X b (TV W rb)) (hm : behindInMarks .NotEq b = false := by rfl) : PT X (.Compare a [.NotEq] [b] pos) (TVT W (toT (run2 ra rb fNe))) := t_cmp (by rw [← hK]; exact op_neP hr.units) p_ne ha hb hm
theorem t_lt (hK : X.K = W.K) (hr : Room k X.A) (ha : PE X a (TV W ra)) (hb : PE X b (TV W rb)) (hm : behindInMarks .Lt b = false := by rfl) : PT X (.Compare a [.Lt] [b] pos) (TVT W (toT (run2 ra rb fLt))) := t_cmp (by rw [← hK]; exact op_ltP hr.units) p_cmp ha hb hm
theorem t_gt (hK : X.K = W.K) (hr : Room k X.A) (ha : PE X a (TV W ra)) (hb : PE X b (TV W rb)) (hm : behindInMarks .Gt b = false := by rfl) : PT X (.Compare a [.Gt] [b] pos) (TVT W (toT (run2 ra rb fGt))) := t_cmp (by rw [← hK]; exact op_gtP hr.units) p_cmp ha hb hm
theorem t_le (hK : X.K = W.K) (hr : Room k X.A) (ha : PE X a (TV W ra)) (hb : PE X b (TV W rb)) (hm : behindInMarks .LtE b = false := by rfl) : PT X (.Compare a [.LtE] [b] pos) (TVT W (toT (run2 ra rb fLe))) := t_cmp (by rw [← hK]; exact op_leP hr.units) p_cmp ha hb hm
theorem t_ge (hK : X.K = W.K) (hr : Room k X.A) (ha : PE X a (TV W ra)) (hb : PE X b (TV W rb)) (hm : behindInMarks .GtE b = false := by rfl) : PT X (.Compare a [.GtE] [b] pos) (TVT W (toT (run2 ra rb fGe))) := t_cmp (by rw [← hK]; exact op_geP hr.units) p_cmp ha hb hm
theorem t_in (hK : X.K = W.K) (hr : Room k X.A) (ha : PE X a (TV W ra)) (hb : PE X b (TV W rb)) (hm : behindInMarks .In b = false := by rfl) : PT X (.Compare a [.In] [b] pos) (TVT W (toT (run2 ra rb fIn))) := t_cmp (by rw [← hK]; exact op_inAll hr.units) p_in ha hb hm
theorem t_notIn (hK : X.K = W.K) (hr : Room k X.A) (ha : PE X a (TV W ra)) (hb : PE X b (TV W rb)) (hm : behindInMarks .NotIn b = false := by rfl) : PT X (.Compare a [.NotIn] [b] pos) (TVT W (toT (run2 ra rb fNotIn))) := t_cmp (by rw [← hK]; exact op_notInAll hr.units) p_in ha hb hm
theorem t_is (ha : PE X a (TV W ra)) (hb : PE X b (TV W rb)) (hm : behindInMarks .Is b = false := by rfl) : PT X (.Compare a [.Is] [b] pos) (TVT W (toT (run2 ra rb fIsP))) := t_cmp op_isAll p_is ha hb hm
theorem t_isNot (ha : PE X a (TV W ra)) (hb : PE X b (TV W rb)) (hm : behindInMarks .IsNot b = false := by rfl) : PT X (.Compare a [.IsNot] [b] pos) (TVT W (toT (run2 ra rb fIsNot))) := t_cmp op_isNotAll p_is ha hb hm
/-- a <= b <= c -/
theorem e_lele (hK : X.K = W.K) (hr : Room k X.A) (ha : PE X a (TV W ra)) (hb : PE X b (TV W rb)) (hc : PE X c (TV W rc)) (hm : lastMarks [.LtE, .LtE] [b, c] = false := by rfl) : PE X (.Compare a [.LtE, .LtE] [b, c] pos) (TV W (rChn fLe fLe ra rb rc)) :=
  pe_weak (pe_chain (op_leP hr.units) (op_leP hr.units) ha hb hc hm) fun _ _ _ h => by rw [hK]; exact tv_chn p_cmp p_cmp h
theorem t_lele (hK : X.K = W.K) (hr : Room k X.A) (ha : PE X a (TV W ra)) (hb : PE X b (TV W rb)) (hc : PE X c (TV W rc)) (hm : lastMarks [.LtE, .LtE] [b, c] = false := by rfl) : PT X (.Compare a [.LtE, .LtE] [b, c] pos) (TVT W (toT (rChn fLe fLe ra rb rc))) :=
  pt_weak (pt_chain (op_leP hr.units) (op_leP hr.units) ha hb hc hm) fun _ _ _ h => by rw [hK]; exact tv_chn p_cmp p_cmp (tvt_tB h)
/-! and, or, not -/
variable {rest : List Expr}
theorem e_not (ha : PE X a (TV W ra)) : PE X (.UnaryOp .Not a pos) (TV W (rNot ra)) := x_not ha
theorem e_one {op : BoolOp} (ha : PE X a (TV W ra)) : PE X (.BoolOp op [a] pos) (TV W ra) := pe_one ha
theorem e_and (ha : PE X a (TV W ra)) (hb : PE X (.BoolOp .And (b :: rest) pos) (TV W rb)) : PE X (.BoolOp .And (a :: b :: rest) pos) (TV W (rAnd ra rb)) := x_and ha hb
theorem e_or (ha : PE X a (TV W ra)) (hb : PE X (.BoolOp .Or (b :: rest) pos) (TV W rb)) : PE X (.BoolOp .Or (a :: b :: rest) pos) (TV W (rOr ra rb)) := x_or ha hb
theorem t_not (ha : PT X a (TVT W (toT ra))) : PT X (.UnaryOp .Not a pos) (TVT W (toT (rNot ra))) := y_not ha
theorem w_and1 (ha : PT X a (TVT W (toT ra))) : PW X (.BoolOp .And [a] pos) (TVT W (toT ra)) := pw_and1 ha
theorem w_or1 (ha : PT X a (TVT W (toT ra))) : PW X (.BoolOp .Or [a] pos) (TVT W (toT ra)) := pw_or1 ha
theorem w_and (ha : PT X a (TVT W (toT ra))) (hb : PW X (.BoolOp .And (b :: rest) pos) (TVT W (toT rb))) : PW X (.BoolOp .And (a :: b :: rest) pos) (TVT W (toT (rAnd ra rb))) := y_and ha hb
theorem w_or (ha : PT X a (TVT W (toT ra))) (hb : PW X (.BoolOp .Or (b :: rest) pos) (TVT W (toT rb))) : PW X (.BoolOp .Or (a :: b :: rest) pos) (TVT W (toT (rOr ra rb))) := y_or ha hb
theorem t_bool {e : Expr} (h : PW X e (TVT W (toT ra))) : PT X e (TVT W (toT ra)) := h.pt
theorem t_val (h : PE X e (TV W re)) (he : ∀ whole, isTrue e X.env whole = (do let v ← whole; standAt e.pos; holding [v] (truthy v)) := by intro _; rfl) : PT X e (TVT W (toT re)) := y_val h he
theorem e_if (hc : PT X c (TVT W (toT rc))) (ha : PE X a (TV W ra)) (hb : PE X b (TV W rb)) : PE X (.IfExp c a b pos) (TV W (rIf rc ra rb)) := x_if hc ha hb
/-! subscripts -/
theorem e_ix (hK : X.K = W.K) (ha : PE X a (TV W ra)) (hb : PE X b (TV W rb)) (hs : PlainIx b := by exact fun _ _ => rfl) : PE X (.Subscript a b pos) (TV W (run2 ra rb fIx)) := x_ix ha hb hK hs
variable {lo hi : Option Expr} {rl rh : RunO}
theorem e_sl (hK : X.K = W.K) (he : PE X e (TV W re)) (hl : PO X lo (TVO W rl)) (hh : PO X hi (TVO W rh)) : PE X (.Subscript e (.Slice lo hi none p2) pos) (TV W (rSlice re rl rh)) := x_slice hK he hl hh
theorem e_rev {j : Nat} {p1 : Pos} (hK : X.K = W.K) (he : PE X e (TV W re)) : PE X (.Subscript e (.Slice none none (some (.UnaryOp .USub (.Constant (.int 1) j p1) p2)) p3) pos) (TV W (run1 re fRev)) := x_rev hK he
/-! calls -/
theorem e_call {f : Addr} {fd : FuncData} {ps : List Str} {n : Nat} {fn : Fn} {cls : Nat → Addr} (F : FnG X.prog X.w X.K X.mg X.base CX0 k f fd ps (spR X.K cls n fn)) (hcl : W.cls = cls) (hK : X.K = W.K) (hr : Room k X.A) (hg : NoG X.A) (hm : X.mg x = some (.ref f)) (hk : PySem.W.keepIn X.K (.ref f) = true)
    (hb : Binds X.K fd ps []) (ha : PA X (e :: es) (TVs W rs)) (hn : ∀ en, (rs en).all fun r => ∀ ds, onlyV r.1 = some ds → ds.length = n) (gl : Gl X x := by rfl) (hdb : (x == ("__debug__" : Str)) = false := by decide)
    (he : starEach (e :: es) X.env = (false, eval e X.env) :: starEach es X.env := by rfl) (hpl : (backTo pos (starEach es X.env)).any (·.1) = false := by rfl) : PE X (.Call (.Name x p) (e :: es) [] pos) (TV W (rCall fn rs)) :=
  pe_weak (pe_callG F hr hg gl hm hk hb .nil pass0 ha hdb he hpl) fun _ _ _ h => by rw [hK]; exact tv_call hcl hn h
theorem onlyV_len : ∀ {os : List Op} {ds : List D}, onlyV os = some ds → ds.length = os.length
  | [], ds, h => by cases h; rfl
  | .v d :: os, ds, h => by
    obtain ⟨es, e, h⟩ := Option.bind_eq_some_iff.mp h
    cases h
    simp [onlyV_len e]
  | .fr _ :: _, _, h => by cases h
  | .b _ :: _, _, h => by cases h
/-- as many results as runs -/
def LenR (rs : Runs) (n : Nat) : Prop := ∀ en, (rs en).all fun r => r.1.length = n
theorem l_nil : LenR rNil 0 := fun _ => rfl
theorem l_cons {n : Nat} (h : LenR rs n) : LenR (rCons re rs) (n + 1) := fun en => T.all_bind (T.all_triv fun a => T.all_bind (T.all_mono (h a.2) fun b hb => by show (_ :: b.1).length = _; simp [hb]))
theorem LenR.ok {n : Nat} (h : LenR rs n) : ∀ en, (rs en).all fun r => ∀ ds, onlyV r.1 = some ds → ds.length = n := fun en => T.all_mono (h en) fun a ha ds e => (onlyV_len e).trans ha
/-- a built-in function, a built-in type as a function -/
theorem e_blt {id : String} {r : List V → Hp → VK → Prop} {f : List D → Option (Bool × D)} (hc : CallR X (.builtin id) r) (hr : PureN W r f) (hm : X.mg x = none) (hv : bootBuiltins x = some (.builtin id)) (ha : PA X (e :: es) (TVs W rs)) (hg : Gl X x := by rfl) (hn : x ≠ "__name__" := by decide)
    (hdb : (x == ("__debug__" : Str)) = false := by decide) (he : starEach (e :: es) X.env = (false, eval e X.env) :: starEach es X.env := by rfl) (hpl : (backTo pos (starEach es X.env)).any (·.1) = false := by rfl) : PE X (.Call (.Name x p) (e :: es) [] pos) (TV W (runN rs f)) :=
  pe_weak (pe_callB hc hg hm hv ha hn hdb he hpl) fun _ _ _ h => tvN hr h
theorem e_bty {id : String} {r : List V → Hp → VK → Prop} {f : List D → Option (Bool × D)} (hc : CallR X (.type id) r) (hr : PureN W r f) (hm : X.mg x = none) (hv : bootBuiltins x = some (.type id)) (ha : PA X (e :: es) (TVs W rs)) (hg : Gl X x := by rfl) (hn : x ≠ "__name__" := by decide)
    (hdb : (x == ("__debug__" : Str)) = false := by decide) (he : starEach (e :: es) X.env = (false, eval e X.env) :: starEach es X.env := by rfl) (hpl : (backTo pos (starEach es X.env)).any (·.1) = false := by rfl) : PE X (.Call (.Name x p) (e :: es) [] pos) (TV W (runN rs f)) :=
  pe_weak (pe_callTy hc hg hm hv ha hn hdb he hpl) fun _ _ _ h => tvN hr h
end
end Sx
set_option Elab.async false
set_option linter.all false
set_option maxRecDepth 100000
set_option maxHeartbeats 4000000
set_option autoImplicit false
namespace Sx
open PySem L2
/-! ### no run locks a name -/
class ShRun (r : Run) : Prop where sh : ∀ en, (r en).all fun a => LkSub a.2 en
class ShTst (r : RunT) : Prop where sh : ∀ en, (r en).all fun a => LkSub a.2 en
class ShRuns (r : Runs) : Prop where sh : ∀ en, (r en).all fun a => LkSub a.2 en
class ShRO (r : RunO) : Prop where sh : ∀ en, (r en).all fun a => LkSub a.2 en
class ShIt (r : RunI) (l : Option Nat) : Prop where sh : ∀ en, (r en).all fun a => ∀ en', LkSub en' a.2 → LkSub (unl l en') en
class ShTg (t : Tg) (is : outParam (List Nat)) : Prop where sh : ShG t is
section
variable {ra rb rc : Run} {rs : Runs} {rl rh : RunO}
theorem all_seq {α β : Type} {r : En → T (α × En)} {f : α × En → T (β × En)} {en : En} (h : (r en).all fun a => LkSub a.2 en) (g : ∀ a : α × En, (f a).all fun b => LkSub b.2 a.2) : ((r en).bind f).all fun b => LkSub b.2 en :=
  T.all_bind (T.all_mono h fun a ha => T.all_mono (g a) fun _ hb => hb.trans ha)
theorem all_of {α β : Type} {o : Option α} {f : α → T (β × En)} {en : En} (g : ∀ a, o = some a → (f a).all fun b => LkSub b.2 en) : ((T.ofOpt o).bind f).all fun b => LkSub b.2 en :=
  T.all_bind (T.all_ofOpt g)
theorem all_ret1 {o : Option (Bool × D)} {en : En} : (ret1 o en).all fun b => LkSub b.2 en := all_of fun _ _ => LkSub.refl _
instance (i : Nat) : ShRun (rVar i) := ⟨fun en => by
  unfold rVar
  split
  · exact LkSub.refl _
  · exact (LkSub.set (s := some (.fz, _)) (by intro d h; cases h)).trans (LkSub.set (s := none) (by intro d h; cases h))
  · trivial⟩
instance (i : Nat) : ShRun (rMov i) := ⟨fun en => by
  unfold rMov
  split
  · exact LkSub.refl _
  · exact LkSub.set (s := none) (by intro d h; cases h)
  · trivial⟩
instance (i : Nat) : ShRun (rBor i) := ⟨fun en => by
  unfold rBor
  split
  · exact LkSub.refl _
  · trivial⟩
instance (d : D) : ShRun (rC d) := ⟨fun en => LkSub.refl _⟩
instance {f : D → Option (Bool × D)} [h : ShRun ra] : ShRun (run1 ra f) := ⟨fun en => all_seq (h.sh en) fun _ => all_ret1⟩
instance {f : D → D → Option (Bool × D)} [h : ShRun ra] [g : ShRun rb] : ShRun (run2 ra rb f) := ⟨fun en => all_seq (h.sh en) fun _ => all_seq (g.sh _) fun _ => all_ret1⟩
instance : ShRuns rNil := ⟨fun en => LkSub.refl _⟩
instance [h : ShRun ra] [g : ShRuns rs] : ShRuns (rCons ra rs) := ⟨fun en => all_seq (h.sh en) fun _ => all_seq (g.sh _) fun _ => LkSub.refl _⟩
instance {f : List D → Option (Bool × D)} [g : ShRuns rs] : ShRun (runN rs f) := ⟨fun en => all_seq (g.sh en) fun _ => all_ret1⟩
instance {f : List D → Option (Bool × D)} [g : ShRuns rs] : ShRun (rDisp f rs) := ⟨fun en => all_seq (g.sh en) fun _ => all_ret1⟩
instance {f : Fn} [g : ShRuns rs] : ShRun (rCall f rs) := ⟨fun en => all_seq (g.sh en) fun _ => all_of fun _ _ => T.all_bind (T.all_triv fun _ => LkSub.refl _)⟩
instance [h : ShRun ra] : ShTst (toT ra) := ⟨fun en => all_seq (h.sh en) fun _ => by
  split
  · exact LkSub.refl _
  · trivial⟩
instance [h : ShRun ra] [g : ShRun rb] : ShRun (rAnd ra rb) := ⟨fun en => all_seq (ShTst.sh (r := toT ra) en) fun _ => by
  split
  · exact g.sh _
  · exact LkSub.refl _⟩
instance [h : ShRun ra] [g : ShRun rb] : ShRun (rOr ra rb) := ⟨fun en => all_seq (ShTst.sh (r := toT ra) en) fun _ => by
  split
  · exact LkSub.refl _
  · exact g.sh _⟩
instance [h : ShRun ra] : ShRun (rNot ra) := ⟨fun en => all_seq (ShTst.sh (r := toT ra) en) fun _ => LkSub.refl _⟩
instance [h : ShRun rc] [h1 : ShRun ra] [g : ShRun rb] : ShRun (rIf rc ra rb) := ⟨fun en => all_seq (ShTst.sh (r := toT rc) en) fun _ => by
  split
  · exact h1.sh _
  · exact g.sh _⟩
instance : ShRO oNone := ⟨fun en => LkSub.refl _⟩
instance [h : ShRun ra] : ShRO (oSome ra) := ⟨fun en => all_seq (h.sh en) fun _ => all_of fun _ _ => LkSub.refl _⟩
instance [h : ShRun ra] [h1 : ShRO rl] [h2 : ShRO rh] : ShRun (rSlice ra rl rh) := ⟨fun en => all_seq (h.sh en) fun _ => all_seq (h1.sh _) fun _ => all_seq (h2.sh _) fun _ => all_ret1⟩
instance {f g : D → D → Option (Bool × D)} [h : ShRun ra] [h1 : ShRun rb] [h2 : ShRun rc] : ShRun (rChn f g ra rb rc) := ⟨fun en => all_seq (h.sh en) fun _ => all_seq (h1.sh _) fun _ => all_of fun k _ => by
  split
  · exact all_seq (h2.sh _) fun _ => all_ret1
  · exact LkSub.refl _⟩
instance {i : Nat} [h : ShRun ra] : ShRun (rApp i ra) := ⟨fun en => all_of fun _ _ => all_seq (h.sh en) fun _ => all_of fun _ _ => all_of fun _ _ => by
  split
  · exact LkSub.set (by intro d h; cases h)
  · trivial⟩
instance {i : Nat} [h : ShRun ra] : ShRun (rPopI i ra) := ⟨fun en => all_of fun _ _ => all_seq (h.sh en) fun _ => all_of fun _ _ => all_of fun _ _ => by
  split
  · exact all_of fun _ _ => LkSub.set (by intro d h; cases h)
  · trivial⟩
instance {i : Nat} : ShRun (rPop0 i) := ⟨fun en => all_of fun _ _ => all_of fun _ _ => LkSub.set (by intro d h; cases h)⟩
instance {i : Nat} : ShRun (rClr i) := ⟨fun en => all_of fun _ _ => LkSub.set (by intro d h; cases h)⟩
instance {f : Str → List D → Option (Bool × D)} [h : ShRun ra] [h1 : ShRuns rs] : ShRun (rStrM ra rs f) := ⟨fun en => all_seq (h.sh en) fun _ => all_of fun _ _ => all_seq (h1.sh _) fun _ => all_ret1⟩
/-! walks -/
instance [h : ShRun ra] : ShIt (iSeq ra) none := ⟨fun en => T.all_mono (all_seq (h.sh en) fun _ => all_of (f := fun ds => T.ret (ds, _)) fun _ _ => LkSub.refl _) fun _ h _ g => g.trans h⟩
instance [h : ShRuns rs] : ShIt (iRange rs) none := ⟨fun en => T.all_mono (all_seq (h.sh en) fun _ => all_of fun _ _ => LkSub.refl _) fun _ h _ g => g.trans h⟩
instance [h : ShRuns rs] : ShIt (iEnumR rs) none := ⟨fun en => T.all_mono (all_seq (h.sh en) fun _ => all_of fun _ _ => LkSub.refl _) fun _ h _ g => g.trans h⟩
theorem unl_sub {i : Nat} {en en' : En} (h : LkSub en' en) (hd : ∀ j d, j ≠ i → en[j]? = some (some (.lk, d)) → ∃ d', en'[j]? = some (some (.lk, d'))) : True := trivial
theorem lk_unl {i : Nat} {en : En} {j : Nat} {d : D} (h : (unl (some i) en)[j]? = some (some (.lk, d))) : j ≠ i ∧ en[j]? = some (some (.lk, d)) := by
  unfold unl at h
  simp only at h
  split at h
  · rename_i d' e
    rcases set_get h with ⟨_, q⟩ | ⟨ne, q⟩
    · cases q
    · exact ⟨fun z => ne z.symm, q⟩
  · rename_i e
    exact ⟨fun z => e d (z ▸ h), h⟩
instance (i : Nat) : ShIt (iLock i) (some i) := ⟨fun en => by
  unfold iLock
  split
  · intro en' h j d e
    obtain ⟨ne, e⟩ := lk_unl e
    obtain ⟨d', e'⟩ := h j d e
    rcases set_get e' with ⟨z, _⟩ | ⟨_, q⟩
    · exact absurd z.symm ne
    · exact ⟨d', q⟩
  · intro en' h j d e
    exact h j d (lk_unl e).2
  · trivial⟩
theorem wip_sub {en : En} (vs : List Nat) : LkSub (wip en vs) en := fun i d h => ⟨d, (wip_get h).2⟩
theorem back_sub {en en0 : En} (vs : List Nat) : LkSub (back en en0 vs) en := fun i d h => by
  rcases back_get h with ⟨_, q, _⟩ | ⟨_, q⟩
  · cases q
  · exact ⟨d, q⟩
theorem lcl_sub {t : Tg} {is : List Nat} {rt : RunT} {re : Run} {vs : List Nat} [h : ShTg t is] [h1 : ShTst rt] [h2 : ShRun re] : ∀ (ds : List D) (en : En) (acc : List D), (rLcL t rt re vs ds en acc).all fun b => LkSub b.2 en
  | [], en, acc => LkSub.refl _
  | d :: ds, en, acc => all_of fun e1 q => T.all_bind (T.all_mono (h1.sh e1) fun b hb => by
      have h0 := (h.sh d en e1 q).1
      split
      · exact T.all_bind (T.all_mono (h2.sh b.2) fun o ho => all_of fun y _ => T.all_mono (lcl_sub ds _ _) fun c hc => hc.trans ((wip_sub vs).trans (ho.trans (hb.trans h0))))
      · exact T.all_mono (lcl_sub ds _ _) fun c hc => hc.trans ((wip_sub vs).trans (hb.trans h0)))
instance {ri : RunI} {l : Option Nat} {t : Tg} {is : List Nat} {rt : RunT} {re : Run} {vs : List Nat} [h0 : ShIt ri l] [h : ShTg t is] [h1 : ShTst rt] [h2 : ShRun re] : ShRun (rLc ri l t rt re vs) := ⟨fun en => T.all_bind (T.all_mono (h0.sh en) fun a ha => by
  split
  · exact T.all_bind (T.all_mono (lcl_sub (is := is) a.1 (wip a.2 vs) []) fun r hr => ha _ ((back_sub vs).trans (hr.trans (wip_sub vs))))
  · trivial)⟩
/-! targets -/
instance (i : Nat) : ShTg (tgN i) [i] := ⟨fun d en en' h => by
  unfold tgN at h
  split at h
  · cases h
    refine ⟨LkSub.set (by intro d h; cases h), fun j hj d' e => ?_⟩
    simp only [List.mem_singleton] at hj
    subst hj
    rw [List.getElem?_set_self (by assumption)] at e
    cases e
  · cases h⟩
class ShTgs (t : Tgs) (is : outParam (List Nat)) : Prop where sh : ∀ ds en en', t ds en = some en' → LkSub en' en ∧ ∀ j ∈ is, ∀ d', en'[j]? ≠ some (some (.lk, d'))
instance : ShTgs tgNil [] := ⟨fun ds en en' h => by
  unfold tgNil at h
  split at h
  · cases h; exact ⟨LkSub.refl _, fun j hj => by simp at hj⟩
  · cases h⟩
instance {t : Tg} {u : Tgs} {is js : List Nat} [h1 : ShTg t is] [h2 : ShTgs u js] : ShTgs (tgCons t u) (is ++ js) := ⟨fun ds en en' h => by
  cases ds with
  | nil => cases h
  | cons d ds =>
    obtain ⟨e1, q1, q2⟩ := Option.bind_eq_some_iff.mp h
    obtain ⟨a1, b1⟩ := h1.sh d en e1 q1
    obtain ⟨a2, b2⟩ := h2.sh ds e1 en' q2
    refine ⟨a2.trans a1, fun j hj d' e => ?_⟩
    rcases List.mem_append.mp hj with hj | hj
    · obtain ⟨d2, e2⟩ := a2 j d' e
      exact b1 j hj d2 e2
    · exact b2 j hj d' e⟩
instance {n : Nat} {u : Tgs} {is : List Nat} [h : ShTgs u is] : ShTg (tgTup n u) is := ⟨fun d en en' q => by
  unfold tgTup at q
  split at q
  · split at q
    · exact h.sh _ _ _ q
    · cases q
  · cases q⟩
end
end Sx
set_option Elab.async false
set_option linter.all false
set_option maxRecDepth 100000
set_option maxHeartbeats 4000000
set_option autoImplicit false
namespace Sx
open PySem L2
def sFail : RunS := fun _ => .fail
/-- the value is stored at a target -/
def sTgt (t : Tg) (ra : Run) : RunS := fun en => (ra en).bind fun a => (T.ofOpt (valO a.1)).bind fun d => (T.ofOpt (t d a.2)).bind fun e => .ret (.nx, e)
/-- x, y = a, b with plain names -/
def sPar (i j : Nat) (ra rb : Run) : RunS := fun en => (ra en).bind fun a => (rb a.2).bind fun b => (T.ofOpt (putO i (a.1, b.2))).bind fun e => (T.ofOpt (putO j (b.1, e))).bind fun e' => .ret (.nx, e')
def rYes : RunT := fun en => .ret (true, en)
instance : ShTst rYes := ⟨fun en => LkSub.refl _⟩
section
variable {W : Wd} {S P : Addr → Prop} {en : En} {σ : St} {H : Hp} {X : Cx} {Dn : Ends} {e o : Expr} {es : List Expr} {ra rb re : Run} {rs rs2 : Runs} {pos apos p p' : Pos} {x : Str} {i : Nat} {st : Stmt}
theorem s_set (i : Nat) (hNd : X.N.Nodup) (he : PE X e (TV W ra)) (hN : X.N[i]? = some x := by rfl) (hx : Loc X.env.scope x := by first | exact Or.inl rfl | exact Or.inr rfl) (hs : swapsWith e (some (.Name x p')) pos.line X.env = pure false := by rfl)
    (hf : X.fn x = true ∨ X.env.scope.names.lookup x = some .local := by exact Or.inl rfl) : PS X (.Assign [.Name x p'] e pos) (TVS W (sSet i ra)) := ps_weak (ps_set hNd hN hx he hs hf) fun _ _ _ h => tvs_set h
theorem s_drop (he : PE X e (TV W ra)) (hs : swapsWith e none pos.line X.env = pure false := by rfl) : PS X (.Expr e pos) (TVS W (sDrop ra)) := ps_weak (ps_expr he hs) fun _ _ _ h => tvs_drop h
theorem s_never : PS X st (TVS W sFail) := ps_weak ps_never fun D σ H h => by
  obtain ⟨S, P, en, R, w⟩ := h
  exact w
theorem s_tgt {tg : Expr} {g : TG} {t : Tg} {is : List Nat} (he : PE X e (TV W ra)) (hg : PG X tg g) (gk : GOk W g t is) (hs : swapsWithSole [tg] e pos.line X.env = pure false := by rfl) (hw : swappedStores [tg] e X.env = pure none := by rfl)
    (h1 : (assignEach [tg] X.env).map (·.2) = [assign tg X.env] := by rfl) : PS X (.Assign [tg] e pos) (TVS W (sTgt t ra)) := ps_weak (ps_asg he hg hs hw h1) fun D σ H h => by
  obtain ⟨S, P, en, R, w⟩ := h
  have w := (T.wp_bind _ _ _).mp w
  refine ⟨S, P, en, R, T.wp_mono w fun r q v H' S' P' e R' ok => ?_⟩
  obtain ⟨d, hd, q⟩ := T.wp_ofOpt ((T.wp_bind _ _ _).mp q)
  obtain ⟨en2, ht, q⟩ := T.wp_ofOpt ((T.wp_bind _ _ _).mp q)
  obtain ⟨S2, P2, e2, R2, dz⟩ := ok.valz R' hd
  exact gk S2 P2 r.2 en2 v d σ H' D.nx R2 dz ht fun σ' _ _ R3 => q σ' H' S2 P2 (e.trans e2) R3
theorem Free.put {q : Addr} {d : D} {v : V} (hf : Free W P en σ q) (hl : en.length = σ.length) (hi : i < en.length) {f : Fg} (hv : v ≠ .ref q ∨ f = .fz) : Free W P (en.set i (some (f, d))) (σ.set i (some v)) q := by
  refine ⟨hf.1, hf.2.1, hf.2.2.1, fun j g d' e nf => ?_⟩
  rcases set_get e with ⟨rfl, q1⟩ | ⟨ne, q1⟩
  · cases q1
    rw [List.getElem?_set_self (by rw [← hl]; exact hi)]
    intro z
    cases z
    exact hv.elim (fun h => h rfl) nf
  · rw [List.getElem?_set_ne ne]
    exact hf.2.2.2 j g d' q1 nf
theorem tvs_par' [sh : ShRun rb] {i j : Nat} (h : TVS W (sPar i j ra rb) Dn σ H) : tCons (TV W ra) (tCons (TV W rb) tNil) σ H fun vs H1 => ∃ v w, vs = [v, w] ∧ ∀ H3, (∀ a o, H1 a = some o → H3 a = some o) → Dn.nx ((σ.set i (some v)).set j (some w)) H3 := by
  have late : ∀ {S P S2 P2 : Addr → Prop} {H H2 H3 : Hp} {en : En} {τ : St}, (∀ σ' H' S' P', Ext S P H S' P' H' → Rel W S' P' en σ' H' → Dn.nx σ' H') → Ext S P H S2 P2 H2 → Rel W S2 P2 en τ H2 → (∀ a o, H2 a = some o → H3 a = some o) → Dn.nx τ H3 := fun k e R hk => by
    obtain ⟨e3, R3⟩ := R.same hk (fun _ h => h) (fun _ h => .inl h) fun a h => by obtain ⟨o, z⟩ := R.dom a h; exact ⟨o, hk a o z⟩
    exact k _ _ _ _ (e.trans e3) R3
  obtain ⟨S, P, en, R, w⟩ := h
  have w := (T.wp_bind _ _ _).mp w
  refine ⟨S, P, en, R, T.wp_mono w fun a q v H1 S1 P1 e1 R1 ok => ?_⟩
  obtain ⟨oa, ena⟩ := a
  have q := T.wp_all ((T.wp_bind _ _ _).mp q) (sh.sh ena)
  cases oa with
  | b k =>
    refine ⟨S1, P1, ena, R1, T.wp_mono q fun b ⟨q, _⟩ u H2 S2 P2 e2 R2 okb => ?_⟩
    obtain ⟨en3, h3, q⟩ := T.wp_ofOpt ((T.wp_bind _ _ _).mp q)
    unfold putO at h3
    split at h3 <;> cases h3
  | v d =>
    refine ⟨S1, P1, ena, R1, T.wp_mono q fun b ⟨q, _⟩ u H2 S2 P2 e2 R2 okb => ?_⟩
    obtain ⟨en3, h3, q⟩ := T.wp_ofOpt ((T.wp_bind _ _ _).mp q)
    obtain ⟨en4, h4, q4⟩ := T.wp_ofOpt ((T.wp_bind _ _ _).mp q)
    have dz : Dz W S2 H2 v d := R1.top e2 ok
    unfold putO at h3
    split at h3
    · rename_i hl
      cases h3
      have R3 := R2.put hl dz
      refine ⟨v, u, rfl, fun H3 hk => late q4 (e1.trans e2) (OpOk.put (a := (b.1, _)) R3 ?_ h4) hk⟩
      obtain ⟨ob, enb⟩ := b
      cases ob with
      | v d2 => exact okb
      | fr d2 =>
        obtain ⟨dv, pp, uu, rfl, hf, hu⟩ := okb
        exact ⟨dv, pp, uu, rfl, hf.put R2.len hl (.inr rfl), hu⟩
      | b k =>
        unfold putO at h4
        split at h4 <;> cases h4
    · cases h3
  | fr d =>
    obtain ⟨dv, pp, uu, rfl, hf, hu⟩ := ok
    have Rg := R1.guard hf hu
    have nS1 : ¬ S1 pp := fun h => hf.1 (R1.sp pp h)
    refine ⟨S1, _, ena, Rg, T.wp_mono q fun b ⟨q, sb⟩ u H2 S2 P2 e2 R2 okb => ?_⟩
    obtain ⟨en3, h3, q⟩ := T.wp_ofOpt ((T.wp_bind _ _ _).mp q)
    obtain ⟨en4, h4, q4⟩ := T.wp_ofOpt ((T.wp_bind _ _ _).mp q)
    have pP2 : P2 pp := e2.p pp (.inr rfl)
    have nS2 : ¬ S2 pp := fun h => (e2.n pp h).elim nS1 fun z => z (.inr rfl)
    have hu2 : H2 pp = some uu := (e2.h pp (.inr rfl)).trans hu
    have same : upd H2 pp uu = H2 := by
      funext a
      by_cases h : a = pp
      · subst h; rw [upd_same, hu2]
      · exact upd_ne h
    obtain ⟨R3, f3⟩ := R2.turn (u := uu) pP2 nS2 fun k d' e hv => by
      obtain ⟨d2, e'⟩ := sb k d' e
      exact hf.2.2.2 k .lk d2 e' (by decide) hv
    rw [same] at R3
    have ext : Ext S1 P1 H1 S2 (fun a => P2 a ∧ a ≠ pp) H2 := ⟨e2.s, fun a h => ⟨e2.p a (.inl h), fun z => hf.1 (z ▸ h)⟩, fun a h => e2.h a (.inl h), fun a h => (e2.n a h).imp id fun z w => z (.inl w)⟩
    have dv2 : Dv W S2 H2 (.ref pp) d := dv.mono e2.s (fun a h => e2.h a (.inl (R1.sp a h))) (by
      have : H2 pp = H1 pp := e2.h pp (.inr rfl)
      cases d <;> first | exact trivial | exact this)
    unfold putO at h3
    split at h3
    · rename_i hl
      cases h3
      have R4 := R3.take hl dv2 f3 hu2
      refine ⟨.ref pp, u, rfl, fun H3 hk => late q4 (e1.trans ext) (OpOk.put (a := (b.1, _)) R4 ?_ h4) hk⟩
      obtain ⟨ob, enb⟩ := b
      cases ob with
      | v d2 => exact okb
      | fr d2 =>
        obtain ⟨dv', p2, u2, rfl, hf2, hu'⟩ := okb
        refine ⟨dv', p2, u2, rfl, Free.put ⟨fun h => hf2.1 h.1, hf2.2.1, hf2.2.2.1, hf2.2.2.2⟩ R3.len hl (.inl fun z => ?_), hu'⟩
        cases z
        exact hf2.1 pP2
      | b k =>
        unfold putO at h4
        split at h4 <;> cases h4
    · cases h3
theorem tvs_par [sh : ShRun rb] {i j : Nat} (h : TVS W (sPar i j ra rb) Dn σ H) : tPar i j (tCons (TV W ra) (tCons (TV W rb) tNil)) Dn σ H := by
  obtain ⟨S, P, en, R, w⟩ := tvs_par' h
  exact ⟨S, P, en, R, T.wp_mono w fun r q v H1 S1 P1 e1 R1 ok => by
    obtain ⟨S2, P2, en2, R2, w2⟩ := q v H1 S1 P1 e1 R1 ok
    exact ⟨S2, P2, en2, R2, T.wp_mono w2 fun r2 q2 u H2 S3 P3 e3 R3 ok2 => by
      obtain ⟨v', w', e, k⟩ := q2 u H2 S3 P3 e3 R3 ok2
      exact ⟨v', w', e, k _ fun _ _ h => h⟩⟩⟩
theorem tvs_parU [sh : ShRun rb] {i j : Nat} (h : TVS W (sPar i j ra rb) Dn σ H) : tAsg (tTup (tCons (TV W ra) (tCons (TV W rb) tNil))) (gTup W.K 2 (gCons (gName i) (gCons (gName j) gNil))) Dn σ H := by
  obtain ⟨S, P, en, R, w⟩ := tvs_par' h
  exact ⟨S, P, en, R, T.wp_mono w fun r q v H1 S1 P1 e1 R1 ok => by
    obtain ⟨S2, P2, en2, R2, w2⟩ := q v H1 S1 P1 e1 R1 ok
    exact ⟨S2, P2, en2, R2, T.wp_mono w2 fun r2 q2 u H2 S3 P3 e3 R3 ok2 => by
      obtain ⟨v', w', e, k⟩ := q2 u H2 S3 P3 e3 R3 ok2
      cases e
      exact ⟨by show 2 ≤ sizeLine; rw [sizeLine_eq]; decide, fun p hp => ⟨p, [v, u], rfl, SqT.of upd_same, rfl, v, [u], rfl, u, [], rfl, rfl, k _ (upd_keeps hp)⟩⟩⟩⟩
theorem s_parU {x y : Str} {a b : Expr} {px py pt pt2 : Pos} {kt k2 : Nat} [ShRun rb] (i j : Nat) (hNd : X.N.Nodup) (hK : X.K = W.K) (ha : PE X a (TV W ra)) (hb : PE X b (TV W rb)) (hc : X.calm = true := by rfl) (hi : X.N[i]? = some x := by rfl) (hj : X.N[j]? = some y := by rfl)
    (hx : Loc X.env.scope x := by first | exact Or.inl rfl | exact Or.inr rfl) (hy : Loc X.env.scope y := by first | exact Or.inl rfl | exact Or.inr rfl) (hfx : X.fn x = true ∨ X.env.scope.names.lookup x = some .local := by exact Or.inl rfl) (hfy : X.fn y = true ∨ X.env.scope.names.lookup y = some .local := by exact Or.inl rfl)
    (hs : swapsWithSole [.Tuple [.Name x px, .Name y py] kt pt] (.Tuple [a, b] k2 pt2) pos.line X.env = pure false := by rfl) (hw : swappedStores [.Tuple [.Name x px, .Name y py] kt pt] (.Tuple [a, b] k2 pt2) X.env = pure none := by rfl)
    (h1 : starEach [a, b] X.env = (false, eval a X.env) :: starEach [b] X.env := by rfl) (h2 : starEach [b] X.env = (false, eval b X.env) :: starEach [] X.env := by rfl)
    (t1 : (assignEach [.Tuple [.Name x px, .Name y py] kt pt] X.env).map (·.2) = [assign (.Tuple [.Name x px, .Name y py] kt pt) X.env] := by rfl)
    (t2 : (assignEach [.Name x px, .Name y py] X.env).map (·.2) = assign (.Name x px) X.env :: (assignEach [.Name y py] X.env).map (·.2) := by rfl) (t3 : (assignEach [.Name y py] X.env).map (·.2) = assign (.Name y py) X.env :: (assignEach [] X.env).map (·.2) := by rfl)
    (t4 : (assignEach [.Name x px, .Name y py] X.env).length = 2 := by rfl) (t5 : (assignEach [.Name x px, .Name y py] X.env).findIdx? (·.1) = none := by rfl) :
    PS X (.Assign [.Tuple [.Name x px, .Name y py] kt pt] (.Tuple [a, b] k2 pt2) pos) (TVS W (sPar i j ra rb)) :=
  ps_weak (ps_asg (pe_tup (pa_cons ha (pa_cons hb pa_nil h2) h1)) (pg_tup hc (pgs_cons (pg_name hNd hi hx hfx) (pgs_cons (pg_name hNd hj hy hfy) pgs_nil t3) t2) t4 t5) hs hw t1) fun _ _ _ h => by rw [hK]; exact tvs_parU h
theorem s_par {x y : Str} {a b : Expr} {px py pt pt2 : Pos} {kt k2 : Nat} [ShRun rb] (i j : Nat) (hNd : X.N.Nodup) (ha : PE X a (TV W ra)) (hb : PE X b (TV W rb)) (hc : X.calm = true := by rfl) (hi : X.N[i]? = some x := by rfl) (hj : X.N[j]? = some y := by rfl) (hij : i ≠ j := by decide)
    (hx : X.env.scope.names.lookup x = some .local := by rfl) (hy : X.env.scope.names.lookup y = some .local := by rfl) (hw : swappedStores [.Tuple [.Name x px, .Name y py] kt pt] (.Tuple [a, b] k2 pt2) X.env = pure (some [x, y]) := by rfl)
    (hs : swapsWithSole [.Tuple [.Name x px, .Name y py] kt pt] (.Tuple [a, b] k2 pt2) pos.line X.env = pure false := by rfl) (h1 : starEach [a, b] X.env = (false, eval a X.env) :: starEach [b] X.env := by rfl) (h2 : starEach [b] X.env = (false, eval b X.env) :: starEach [] X.env := by rfl) :
    PS X (.Assign [.Tuple [.Name x px, .Name y py] kt pt] (.Tuple [a, b] k2 pt2) pos) (TVS W (sPar i j ra rb)) :=
  ps_weak (ps_par hc hNd hi hj hij hx hy (pa_cons ha (pa_cons hb pa_nil h2) h1) hw hs) fun _ _ _ h => tvs_par h
/-! loops -/
theorem s_for {tg iter : Expr} {a : List Stmt} {ri : RunI} {g : TG} {t : Tg} {is : List Nat} {rb : RunS} (hi : PI X tg iter (TVI W ri none)) (hg : PG X tg g) (gk : GOk W g t is) (hb : PSs X a (TVS W rb)) (hp : PassesOwn (model X.prog X.w) X.A X.env X.xe := by exact PassesOwn.never) (hc : X.calm = true := by rfl) (hs : ∀ x, foldedSetIterable iter X.env x = pure x := by intro _; rfl) :
    PS X (.For tg iter a [] pos) (TVS W (sFor ri none t rb)) := z_for hp hc hi hg gk hb hs
theorem s_while {c : Expr} {a : List Stmt} {rc : RunT} {rb : RunS} (n : Nat) (hc : PT X c (TVT W rc)) (ha : PSs X a (TVS W rb)) (hp : PassesOwn (model X.prog X.w) X.A X.env X.xe := by exact PassesOwn.never) : PS X (.While c a [] pos) (TVS W (sWhile rc rb n)) := z_while hp hc ha
/-! comprehensions -/
theorem ts_nil : PTs X [] (TVT W rYes) := ⟨fun pins s σ H Q I h => pts_nil.run pins s σ H Q I (by
  obtain ⟨S, P, en, R, w⟩ := h
  exact w H S P .refl R)⟩
theorem sz4096 : (4096 : Nat) < sizeLine := by rw [sizeLine_eq]; decide
theorem e_lc {tg iter elt : Expr} {ifs : List Expr} {scope : Scope} {ri : RunI} {l : Option Nat} {g : TG} {t : Tg} {is : List Nat} {rt : RunT} [h1 : ShTg t is] [h2 : ShTst rt] [h3 : ShRun re] (own : List (Str × Nat)) (hNd : X.N.Nodup) (ok : BlkOk X.N X.env.scope scope own) (hi : PI X tg iter (TVI W ri l))
    (hg : ∀ (s : Shared) (H : Hp) (C : Addr) (cl : List (Str × Addr)) (fp : List Addr), PG (X.blk s H scope (compEnvC scope cl C X.env) fp) tg g) (gk : GOk W g t is)
    (ht : ∀ (s : Shared) (H : Hp) (C : Addr) (cl : List (Str × Addr)) (fp : List Addr), PTs (X.blk s H scope (compEnvC scope cl C X.env) fp) ifs (TVT W rt))
    (he : ∀ (s : Shared) (H : Hp) (C : Addr) (cl : List (Str × Addr)) (fp : List Addr), PE (X.blk s H scope (compEnvC scope cl C X.env) fp) elt (TV W re)) (his : ∀ i ∈ is, i ∈ own.map (·.2) := by decide) (hc : X.calm = true := by rfl) (hs : ∀ x, foldedSetIterable iter X.env x = pure x := by intro _; rfl) :
    PE X (.ListComp elt [⟨tg, iter, ifs, 0⟩] scope pos) (TV W (rLc ri l t rt re (own.map (·.2)))) :=
  pe_weak (pe_lc hc hNd hi ok hg ht he hs) fun σ H Q h => tv_lc gk h1.sh his h2.sh h3.sh sz4096 h
theorem s_setLc {tg iter elt : Expr} {ifs : List Expr} {scope : Scope} {ri : RunI} {l : Option Nat} {g : TG} {t : Tg} {is : List Nat} {rt : RunT} {y : Str} {py spos : Pos} [h1 : ShTg t is] [h2 : ShTst rt] [h3 : ShRun re] (i : Nat) (own : List (Str × Nat)) (hNd : X.N.Nodup) (ok : BlkOk X.N X.env.scope scope own) (hi : PI X tg iter (TVI W ri l))
    (hg : ∀ (s : Shared) (H : Hp) (C : Addr) (cl : List (Str × Addr)) (fp : List Addr), PG (X.blk s H scope (compEnvC scope cl C X.env) fp) tg g) (gk : GOk W g t is)
    (ht : ∀ (s : Shared) (H : Hp) (C : Addr) (cl : List (Str × Addr)) (fp : List Addr), PTs (X.blk s H scope (compEnvC scope cl C X.env) fp) ifs (TVT W rt))
    (he : ∀ (s : Shared) (H : Hp) (C : Addr) (cl : List (Str × Addr)) (fp : List Addr), PE (X.blk s H scope (compEnvC scope cl C X.env) fp) elt (TV W re)) (his : ∀ i ∈ is, i ∈ own.map (·.2) := by decide) (hc : X.calm = true := by rfl) (hs : ∀ x, foldedSetIterable iter X.env x = pure x := by intro _; rfl)
    (hy : X.N[i]? = some y := by rfl) (hyl : X.env.scope.names.lookup y = some .local := by rfl) (hsw : swapsWith (.ListComp elt [⟨tg, iter, ifs, 0⟩] scope pos) (some (.Name y py)) spos.line X.env = pure true := by rfl) :
    PS X (.Assign [.Name y py] (.ListComp elt [⟨tg, iter, ifs, 0⟩] scope pos) spos) (TVS W (sSet i (rLc ri l t rt re (own.map (·.2))))) :=
  ps_weak (ps_setLc hc hNd hy hyl hsw hi ok hg ht he hs) fun D σ H h => by
    have h := tvs_set h
    exact tv_lc gk h1.sh his h2.sh h3.sh sz4096 h
/-! calls -/
variable {cls : Nat → Addr} {f : Addr} {fd : FuncData} {ps ks : List Str} {k : Nat} {kws : List Keyword}
theorem tv_call0 {fn : Fn} {Q : VK} (hcl : W.cls = cls) (h : TV W (rCall fn rNil) σ H Q) : tCall (spR W.K cls 0 fn) [] E0 tNil σ H Q := by
  have := tv_call (n := 0) (rs := rNil) hcl (fun en => (fun ds e => by cases e; rfl : ∀ ds, onlyV ([] : List Op) = some ds → ds.length = 0)) h
  obtain ⟨S, P, en, R, w⟩ := this
  exact w [] H S P .refl R trivial
theorem e_call0 {fn : Fn} (F : FnG X.prog X.w X.K X.mg X.base CX0 k f fd ps (spR X.K cls 0 fn)) (hcl : W.cls = cls) (hK : X.K = W.K) (hr : Room k X.A) (hg : NoG X.A) (hm : X.mg x = some (.ref f)) (hk : PySem.W.keepIn X.K (.ref f) = true) (hb : Binds X.K fd ps []) (gl : Gl X x := by rfl) (hdb : (x == ("__debug__" : Str)) = false := by decide) :
    PE X (.Call (.Name x p) [] [] pos) (TV W (rCall fn rNil)) := pe_weak (pe_callG0 F hr hg gl hm hk hb .nil pass0 hdb) fun _ _ _ h => by rw [hK]; exact tv_call0 hcl h
/-- a call with keywords: q puts the data in the parameters' order -/
def rCallK (f : Fn) (q : List D → List D → List D) (rs rs2 : Runs) : Run := fun en => (rs en).bind fun a => (rs2 a.2).bind fun b => (T.ofOpt (onlyV a.1)).bind fun ds => (T.ofOpt (onlyV b.1)).bind fun es => (f (q ds es)).bind fun c => .ret (mkO c, b.2)
instance {fn : Fn} {q : List D → List D → List D} [h : ShRuns rs] [g : ShRuns rs2] : ShRun (rCallK fn q rs rs2) := ⟨fun en => all_seq (h.sh en) fun _ => all_seq (g.sh _) fun _ => all_of fun _ _ => all_of fun _ _ => T.all_bind (T.all_triv fun _ => LkSub.refl _)⟩
def PermOk (W : Wd) (n : Nat) (gV : List V → List V → List V) (q : List D → List D → List D) : Prop := ∀ (S : Addr → Prop) (H : Hp) vs ds ws es, DvL W S H vs ds → DvL W S H ws es → DvL W S H (gV vs ws) (q ds es)
theorem tv_callK {n : Nat} {fn : Fn} {q : List D → List D → List D} {gV : List V → List V → List V} {Q : VK} (hcl : W.cls = cls) (hq : PermOk W n gV q) (hn : ∀ en, (rs en).all fun a => (rs2 a.2).all fun b => ∀ ds es, onlyV a.1 = some ds → onlyV b.1 = some es → (q ds es).length = n) (h : TV W (rCallK fn q rs rs2) σ H Q) :
    tCallK (spR W.K cls n fn) gV E0 (TVs W rs) (TVs W rs2) σ H Q := by
  obtain ⟨S, P, en, R, w⟩ := h
  have w := T.wp_all ((T.wp_bind _ _ _).mp w) (hn en)
  refine ⟨S, P, en, R, T.wp_mono w fun r ⟨qq, len⟩ vs H1 S1 P1 e1 R1 pe => ?_⟩
  have qq := T.wp_all ((T.wp_bind _ _ _).mp qq) len
  refine ⟨S1, P1, r.2, R1, T.wp_mono qq fun r2 ⟨qq, len⟩ ws H2 S2 P2 e2 R2 pe2 => ?_⟩
  obtain ⟨ds, hds, qq⟩ := T.wp_ofOpt ((T.wp_bind _ _ _).mp qq)
  obtain ⟨es, hes, qq⟩ := T.wp_ofOpt ((T.wp_bind _ _ _).mp qq)
  have d1 := (pe.ext R1 e2).only hds
  have d2 := pe2.only hes
  have dl := hq S2 H2 vs ds ws es d1 d2
  have qq := (T.wp_bind _ _ _).mp qq
  refine ⟨dl.len.trans (len ds es hds hes), W, S2, _, rfl, hcl, R2.dr, R2.dom, fun w => R2.drP.1 (R2.sp _ w), fun w => R2.drP.2 (R2.sp _ w), dl, T.wp_mono qq fun c qq v H' S' P' e ro ok => ?_⟩
  obtain ⟨e3, R3, ok3⟩ := R2.call e ro ok
  exact qq v H' S' _ ((e1.trans e2).trans e3) R3 ok3
theorem k_nil : PK X [] (TVs W rNil) := ⟨fun pos pins s σ H Q I h => pk_nil.run pos pins s σ H Q I (tvs_nil h)⟩
theorem k_cons {nm : Option Str} {kpos : Pos} (ha : PE X e (TV W ra)) (hr : PK X kws (TVs W rs)) : PK X (⟨nm, e, kpos⟩ :: kws) (TVs W (rCons ra rs)) := ⟨fun pos pins s σ H Q I h => (pk_cons ha hr).run pos pins s σ H Q I (tvs_cons h)⟩
variable {g : List Value → List Value → List Value} {gV : List V → List V → List V}
/-- keywords alone -/
theorem e_callK0 {n : Nat} {fn : Fn} {q : List D → List D → List D} (F : FnG X.prog X.w X.K X.mg X.base CX0 k f fd ps (spR X.K cls n fn)) (hcl : W.cls = cls) (hK : X.K = W.K) (hr : Room k X.A) (hg : NoG X.A) (hm : X.mg x = some (.ref f)) (hk : PySem.W.keepIn X.K (.ref f) = true) (hb : KBinds X.K fd ps ks g gV) (hq : PermOk W n gV q) (ha : PK X kws (TVs W rs2))
    (hn : ∀ en : En, (rs2 en).all fun b => ∀ ds, onlyV b.1 = some ds → (q [] ds).length = n) (hall : (backToKw pos (keywordEach kws X.env)).all (·.1.isSome) = true := by rfl) (hks : (backToKw pos (keywordEach kws X.env)).filterMap (·.1) = ks := by rfl) (gl : Gl X x := by rfl) (hdb : (x == ("__debug__" : Str)) = false := by decide)
    (hpl : ((backTo pos (starEach [] X.env)).any (·.1) || (backToKw pos (keywordEach kws X.env)).any (·.1.isNone)) = false := by rfl) : PE X (.Call (.Name x p) [] kws pos) (TV W (rCallK fn q rNil rs2)) :=
  pe_weak (pe_callGK0 F hr hg gl hm hk hb pass0 ha hall hks hdb hpl) fun σ H Q h => by
    rw [hK]
    have h := tv_callK (gV := gV) (rs := rNil) (n := n) hcl hq (fun en => show (rs2 en).all _ from T.all_mono (hn en) fun b hb ds es hd he => by cases hd; exact hb es he) h
    obtain ⟨S, P, en, R, w⟩ := h
    exact w [] H S P .refl R trivial
/-! methods of lists, texts -/
theorem m_join (hK : X.K = W.K) (ho : PE X o (TV W ra)) (he : PE X e (TV W re)) (hb : attributeBase o "join" X.env (eval o X.env) = eval o X.env := by rfl) (hf : few e X pos := by rfl) (hl : (apos.endLine == pos.line) = true := by rfl) (hs : starEach [e] X.env = (false, eval e X.env) :: starEach [] X.env := by rfl) (hp : (backTo pos (starEach [] X.env)).any (·.1) = false := by rfl) :
    PE X (.Call (.Attribute o "join" apos) [e] [] pos) (TV W (rStrM ra (rCons re rNil) fJoin)) := x_join hK ho he hb hf hl hs hp
theorem m_app (i : Nat) (hK : X.K = W.K) (ho : PE X o (tVar i)) (he : PE X e (TV W re)) (hb : attributeBase o "append" X.env (eval o X.env) = eval o X.env := by rfl) (hf : few e X pos := by rfl) (hl : (apos.endLine == pos.line) = true := by rfl) (hs : starEach [e] X.env = (false, eval e X.env) :: starEach [] X.env := by rfl) (hp : (backTo pos (starEach [] X.env)).any (·.1) = false := by rfl) :
    PE X (.Call (.Attribute o "append" apos) [e] [] pos) (TV W (rApp i re)) := x_app hK ho he hb hf hl hs hp
theorem m_popI (i : Nat) (hK : X.K = W.K) (ho : PE X o (tVar i)) (he : PE X e (TV W re)) (hb : attributeBase o "pop" X.env (eval o X.env) = eval o X.env := by rfl) (hf : few e X pos := by rfl) (hl : (apos.endLine == pos.line) = true := by rfl) (hs : starEach [e] X.env = (false, eval e X.env) :: starEach [] X.env := by rfl) (hp : (backTo pos (starEach [] X.env)).any (·.1) = false := by rfl) :
    PE X (.Call (.Attribute o "pop" apos) [e] [] pos) (TV W (rPopI i re)) := x_popI hK ho he hb hf hl hs hp
theorem m_pop0 (i : Nat) (hK : X.K = W.K) (ho : PE X o (tVar i)) (hb : attributeBase o "pop" X.env (eval o X.env) = eval o X.env := by rfl) (hl : (apos.endLine == pos.line) = true := by rfl) : PE X (.Call (.Attribute o "pop" apos) [] [] pos) (TV W (rPop0 i)) := x_pop0 hK ho hb hl
theorem m_clr (i : Nat) (hK : X.K = W.K) (ho : PE X o (tVar i)) (hb : attributeBase o "clear" X.env (eval o X.env) = eval o X.env := by rfl) (hl : (apos.endLine == pos.line) = true := by rfl) : PE X (.Call (.Attribute o "clear" apos) [] [] pos) (TV W (rClr i)) := x_clr hK ho hb hl
end
end Sx
set_option Elab.async false
set_option linter.all false
set_option maxRecDepth 100000
set_option maxHeartbeats 4000000
set_option autoImplicit false
namespace Sx
open PySem L2 PyProof.Rows
/-! ### how many different texts -/
def mStep (σ : List Str) (v : Str) : List Str := if σ.any (· == v) then σ else σ ++ [v]
def mets (xs : List Str) : List Str := xs.foldl mStep []
theorem mets_snoc (xs : List Str) (v : Str) : mets (xs ++ [v]) = mStep (mets xs) v := by
  unfold mets
  rw [List.foldl_append]
  rfl
theorem mStep_any (σ : List Str) (v k : Str) : (mStep σ v).any (· == k) = (σ.any (· == k) || decide (k = v)) := by
  unfold mStep
  split
  · rename_i h
    by_cases e : k = v
    · subst e; simp [h]
    · simp [e]
  · rw [List.any_append]
    by_cases e : k = v
    · subst e; simp
    · have : (v == k) = false := beq_eq_false_iff_ne.mpr fun z => e z.symm
      simp [this, e]
theorem mStep_len (σ : List Str) (v : Str) : (mStep σ v).length = if σ.any (· == v) then σ.length else σ.length + 1 := by
  unfold mStep; split <;> simp
theorem foldl_mStep_le : ∀ (xs σ : List Str), (xs.foldl mStep σ).length ≤ σ.length + xs.length
  | [], σ => Nat.le_refl _
  | x :: xs, σ => by
    have h := foldl_mStep_le xs (mStep σ x)
    have : (mStep σ x).length ≤ σ.length + 1 := by rw [mStep_len]; split <;> omega
    show (xs.foldl mStep (mStep σ x)).length ≤ _
    rw [List.length_cons]
    omega
theorem mets_le (xs : List Str) : (mets xs).length ≤ xs.length := by simpa [mets] using foldl_mStep_le xs []
section
variable {Pr : Program} {w : World} {A : Around} {R : Result → Shared → Prop} {I : Addr} {fp wr : List Addr} {G : Array GenState → Array GenState → Prop} {n : Nat} {Pv : Nat → Value → Prop} {St : Nat → Shared → Prop}
theorem take_snoc {xs : List Str} {i : Nat} (h : i < xs.length) : xs.take (i + 1) = xs.take i ++ [xs.getD i Str.empty] := by
  rw [List.take_succ, List.getElem?_eq_getElem h, List.getD_eq_getElem?_getD, List.getElem?_eq_getElem h]
  rfl
/-- the filling of a set by texts -/
theorem fillS (T : WalksS Pr w A.in1 I fp wr G n Pv St) (D0 : Addr) (out : D0 ∉ fp) (xs : List Str) (len : xs.length = n) (few : n < 4096) (at' : ∀ i v, Pv i v → ∃ t, v = .str (xs.getD i Str.empty) t) :
    ∀ (m i : Nat) (s : Shared), n - i = m → i ≤ n → St i s → s.heap.SetOf (strKind Pr w) D0 (fun y => (mets (xs.take i)).any (· == y)) (mets (xs.take i)).length →
      (∀ s2, Moved (D0 :: wr) G s s2 → s2.heap.SetOf (strKind Pr w) D0 (fun y => (mets xs).any (· == y)) (mets xs).length → R (.ok (.ret .none)) s2) → codeAny (model Pr w) A (.builtin "set.update.loop" ⟨[.ref D0, .ref I], []⟩) R s := by
  have notw : D0 ∉ wr := fun h => out (T.sub _ h)
  have keep : ∀ {s s2 : Shared} {S : Str → Bool} {c : Nat}, Moved wr G s s2 → s.heap.SetOf (strKind Pr w) D0 S c → s2.heap.SetOf (strKind Pr w) D0 S c := fun mv ⟨o, es, ep, tb, ho, z⟩ => ⟨o, es, ep, tb, mv.heap D0 _ notw ho, z⟩
  intro m
  induction m with
  | zero =>
    intro i s hm hi st hS fin
    obtain rfl : i = n := by omega
    refine codeAny_builtin (PyProof.Rows.F.entry_set_update_loop) ?_
    rw [Around.under_plainId PyProof.Rows.F.plain_set_update_loop]
    refine wpAny_bind (m := pyNext (.ref I)) (T.done s _ _ st fun s2 mv => wpAny_pure (fin s2 (mv.mono fun b hb => List.mem_cons_of_mem _ hb) ?_))
    rw [← len, List.take_length] at hS
    exact keep mv hS
  | succ m ih =>
    intro i s hm hi st hS fin
    have hlt : i < n := by omega
    refine codeAny_builtin (PyProof.Rows.F.entry_set_update_loop) ?_
    rw [Around.under_plainId PyProof.Rows.F.plain_set_update_loop]
    refine wpAny_bind (m := pyNext (.ref I)) (T.item i s _ _ hlt st fun v s2 hv st2 mv => ?_)
    obtain ⟨t, rfl⟩ := at' i v hv
    have room : (mets (xs.take i)).length + 1 < scanBound := by
      have h1 := mets_le (xs.take i)
      rw [List.length_take] at h1
      unfold scanBound
      omega
    have hS2 := keep mv hS
    refine wpAny_bind (m := holding _ (setAdd D0 _)) (wpAny_holding ?_)
    unfold setAdd
    refine wpAny_holding (wpAny_bind ((strKind Pr w).pyHash (k := xs.getD i Str.empty) (strKind_is _ _ _ _) (wpAny_setAddHashed_of (knd := strKind Pr w) (s := { s2 with toks := s2.toks + 1 }) (strKind_is _ _ _ _) rfl hS2 room fun h2 sb new => ?_)))
    have new2 : h2.SetOf (strKind Pr w) D0 (fun y => (mets (xs.take (i + 1))).any (· == y)) (mets (xs.take (i + 1))).length :=
      SetOf_congr new (fun y => by rw [take_snoc (by omega), mets_snoc, mStep_any]) (by rw [take_snoc (by omega), mets_snoc, mStep_len])
    refine wpAny_pure ⟨plainId_quiet PyProof.Rows.F.plain_set_update_loop _, ih (i + 1) _ (by omega) hlt (T.frame _ s2 _ _ st2 (Nat.le_succ _) fun b hb o e => (sb.2 b fun z => out (z ▸ hb)).trans e) new2 fun s3 mv3 S3 => fin s3 (Moved.trans T.gtrans ((mv.mono fun b hb => List.mem_cons_of_mem _ hb).then_heap (Nat.le_succ _) fun b o hb e => (sb.2 b fun z => hb (z ▸ List.mem_cons_self)).trans e) mv3) S3⟩
end
section
variable {Pr : Program} {w : World} {A : Around} {E : Value → Shared → Prop} {s : Shared}
/-- a list or a tuple, as set() reads it -/
structure Seqy (ty it : String) : Prop where
  s1 : isSubtype (.type ty) (.type "set") = pure false
  s2 : isSubtype (.type ty) (.type "frozenset") = pure false
  s3 : (Value.type ty == Value.type "dict") = false
theorem seqy_l : Seqy "list" "list_iterator" := ⟨PySem.F.sub_list_set, PySem.F.sub_list_frozenset, by decide⟩
theorem seqy_t : Seqy "tuple" "tuple_iterator" := ⟨PySem.F.sub_tuple_set, PySem.F.sub_tuple_frozenset, by decide⟩
abbrev fresh (led : Bool) : Obj := { cls := .type "set", dict := none, data := .set #[] 0 (.fresh 0 0 led) }
set_option maxHeartbeats 3200000 in
theorem call_setS {ty it : String} (Y : Seqy ty it) {l : Addr} {o : Obj} {items : Array Value} {nn : Nat} {xs : List Str} {Q : Value → Shared → Prop} (hh : A.handled = none) (ho : s.heap.get? l = some o) (hc : o.cls = .type ty) (hd : o.data = .seq items nn) (hi : StrsAre items.toList xs) (few : xs.length < 4096)
    (hit : ∀ {B : Around} {E' : Value → Shared → Prop} {z : Shared} {Q' : Value → Shared → Prop}, z.heap.get? l = some o → Q' (.ref z.heap.objs.size) { z with heap := z.heap.push { cls := .type it, data := .fields #[.ref l, .int 0 0] } } → wpAny (model Pr w) B (pyIter (.ref l)) Q' E' z)
    (walk : ∀ {B : Around}, B.handled = none → ∀ I : Addr, l ≠ I → ∃ St : Nat → Heap → Prop, PySem.Walks Pr w B I [I, l] [I] items.size (fun i v => items[i]? = some v) St ∧ ∀ h : Heap, h.get? I = some { cls := .type it, data := .fields #[.ref l, .int 0 0] } → h.get? l = some o → St 0 h)
    (q : ∀ (h2 : Heap) (tk : Nat), h2.SetOf (strKind Pr w) s.heap.objs.size (fun y => (mets xs).any (· == y)) (mets xs).length → (∀ b u, b < s.heap.objs.size → s.heap.get? b = some u → h2.get? b = some u) → Q (.ref s.heap.objs.size) { s with heap := h2, toks := tk }) :
    wpAny (model Pr w) A (call (.type "set") [.ref l]) Q E s := by
  have ⟨c0, tl0, mro0⟩ := PySem.F.called_set.mro
  have made0 := PySem.F.called_set.made
  have sub0 := PySem.F.called_set.sub
  have nt0 := PySem.F.called_set.notType
  have cc0 := PySem.F.called_set.canCreate
  have tc0 := PySem.F.typeCall_set_1 (.ref l)
  refine wpAny_call (codeAny_of_tree (show wpAny _ _ (callAny (.type "set") _) _ _ _ from wpAny_pure ⟨Code.quiet_builtin _ (by decide +kernel), codeAny_builtin PySem.F.entry_type_call ?_⟩))
  rw [Around.under_plain (weight_type_call_type "set" [Value.ref l] []) rfl]
  repeat (any_goals (first | wp_step | assumption))
  refine codeAny_mono (code_set_new_1 (.ref l) (E := E) (Q₁ := fun u z => ∃ led : Bool, u = .ref s.heap.objs.size ∧ z = { s with heap := s.heap.push (fresh led) }) fun led => ⟨led, rfl, rfl⟩) fun r z hr => ?_
  match r, hr with
  | .error e, hr => exact hr
  | .ok (.ret u), ⟨led, e1, e2⟩ =>
    subst e1; subst e2
    have g0 : (s.heap.push (fresh led)).get? s.heap.objs.size = some (fresh led) := Heap.get?_push_size _ rfl
    have ty0 : Shared.TypeIs { s with heap := s.heap.push (fresh led) } (.ref s.heap.objs.size) "set" := ⟨_, g0, rfl⟩
    have lk0 := PySem.F.called_set.init.lookup
    have bd0 := PySem.F.called_set.init.bind (.ref s.heap.objs.size)
    repeat (any_goals (first | wp_step | assumption))
    refine codeAny_mono (codeAny_call_builtin (R := wants (fun r z => r = .none ∧ ∃ h2 tk, z = { s with heap := h2, toks := tk } ∧ h2.SetOf (strKind Pr w) s.heap.objs.size (fun y => (mets xs).any (· == y)) (mets xs).length ∧ (∀ b u, b < s.heap.objs.size → s.heap.get? b = some u → h2.get? b = some u)) E)
      PySem.F.called_set.init.plain PySem.F.entry_set_init (check_set_init_1 ty0 ?_)) fun r2 z2 hr2 => ?_
    · obtain ⟨ocls, odict, odata, oslots⟩ := o
      simp only at hc hd
      subst hc; subst hd
      have gl := Heap.get?_push_of_some (fresh led) ho
      obtain ⟨y1, y2, y3⟩ := Y
      unfold Builtin.«set.__init__» noKeywords Builtin.Frozenset.updateFrom
      generalize hP : pyIter = P0
      wp_walk
      subst hP
      refine hit gl (wpAny_bind (wpAny_runValue ?_))
      have lo : l < s.heap.objs.size := Heap.lt_size ho
      obtain ⟨St, W, w0⟩ := walk (B := A.in1.in1.in1) (by simp [hh]) (s.heap.push (fresh led)).objs.size (by rw [Heap.size_push]; exact Nat.ne_of_lt (Nat.lt_succ_of_lt lo))
      refine fillS W.toS s.heap.objs.size (fun z => by
        rcases List.mem_cons.mp z with z | z
        · rw [Heap.size_push] at z; exact Nat.ne_of_lt (Nat.lt_succ_self _) z
        · exact Nat.ne_of_gt lo (List.mem_singleton.mp z)) xs (by rw [← StrsAre.len_eq hi, Array.length_toList]) (by rw [← Array.length_toList, StrsAre.len_eq hi]; exact few) (fun i v hv => SS.strs_at hi i v (by rw [Array.getElem?_toList]; exact hv)) (items.size - 0) 0 _ (by omega) (Nat.zero_le _) (w0 _ (Heap.get?_push_size _ rfl) (Heap.get?_push_of_some _ gl)) ?_ ?_
      · exact SetOf_congr ((setObjOf_fresh (knd := strKind Pr w) led).setOf (Heap.get?_push_of_some _ g0) (by unfold scanBound; omega)) (fun _ => rfl) rfl
      · rintro ⟨h2, g2, d2, tk2, os2⟩ mv S2
        obtain rfl : g2 = s.gens := mv.gens
        obtain rfl : d2 = s.drawn := mv.drawn
        obtain rfl : os2 = s.os := mv.os
        show wpAny _ _ _ _ _ _
        refine wpAny_pure (show wpAny _ _ (ret Value.none) _ _ _ from wpAny_pure ⟨rfl, h2, tk2, rfl, S2, fun b u hb e => mv.heap b u ?_ (Heap.get?_push_of_some _ (Heap.get?_push_of_some _ e))⟩)
        intro z
        rcases List.mem_cons.mp z with z | z
        · exact Nat.ne_of_lt hb z
        · rw [List.mem_singleton.mp z, Heap.size_push] at hb
          exact Nat.lt_irrefl _ (Nat.lt_trans hb (Nat.lt_succ_self _))
    · match r2, hr2 with
      | .error e, hr2 => exact hr2
      | .ok (.ret u), ⟨e1, h2, tk, e2, S2, k2⟩ =>
        subst e1; subst e2
        repeat (any_goals (first | wp_step | assumption))
        exact q _ _ S2 k2
end
end Sx
set_option Elab.async false
set_option linter.all false
set_option maxRecDepth 100000
set_option maxHeartbeats 4000000
set_option autoImplicit false
namespace Sx
open PySem L2 PyProof.Rows
section
variable {X : Cx} {W : Wd} {ra : Run}
def rLenS (K : PySem.W.Frag) : V → Hp → VK → Prop := fun x H Q => ∃ l, ∃ xs : List Str, x = .ref l ∧ (SqL K H l (xs.map V.str) ∨ SqT K H l (xs.map V.str)) ∧ xs.length < 4000 ∧ Q (.int (mets xs).length) H
def fLenS (d : D) : Option (Bool × D) := match d with
  | .lst ds => (strsOf ds).bind fun xs => if xs.length < 4000 then some (false, .int (mets xs).length) else none
  | .tup ds => (strsOf ds).bind fun xs => if xs.length < 4000 then some (false, .int (mets xs).length) else none
  | _ => none
theorem p_lenS : Pure1 W (rLenS W.K) fLenS := by
  intro S H x d c Q hd hx h r
  unfold fLenS at h
  split at h
  · obtain ⟨xs, hs, h⟩ := Option.bind_eq_some_iff.mp h
    split at h
    · cases h
      cases hx with
      | lst ha dl => 
        obtain rfl := dl.strs hs
        exact ⟨_, _, rfl, .inl (SqL.of ha), by assumption, r.int hd⟩
    · cases h
  · obtain ⟨xs, hs, h⟩ := Option.bind_eq_some_iff.mp h
    split at h
    · cases h
      cases hx with
      | tup ha dl => 
        obtain rfl := dl.strs hs
        exact ⟨_, _, rfl, .inr (tup_sq ha), by assumption, r.int hd⟩
    · cases h
  · cases h
theorem pe_lenS {a : Expr} {ta : TE} {p p2 q pos : Pos} (hc : X.calm = true) (hg : Gl X "len") (hm : X.mg "len" = none) (hg2 : Gl X "set") (hm2 : X.mg "set" = none) (ha : PE X a ta) (na : starEach [a] X.env = (false, eval a X.env) :: starEach [] X.env) :
    PE X (.Call (.Name "len" p) [.Call (.Name "set" p2) [a] [] q] [] pos) (fun σ H Q => ta σ H fun x H1 => rLenS X.K x H1 Q) := by
  refine ⟨fun pins s σ H Q I h => Call_ (ld_blt I hg hm boot_len (callWith_builtin1 (args_cons (Call_ (ld_blt I hg2 hm2 boot_set (callWith_type1 (args_cons (thn (ha.run pins s σ H _ I h) fun v s1 ⟨x, H1, I1, r1, l, xs, ex, hq, few, q1⟩ => args_nil ?_) na) na rfl))) rfl) rfl rfl))⟩
  subst ex
  cases r1
  have fin : ∀ (h2 : Heap) (tk : Nat), h2.SetOf (strKind X.prog X.w) s1.heap.objs.size (fun y => (mets xs).any (· == y)) (mets xs).length → (∀ b u, b < s1.heap.objs.size → s1.heap.get? b = some u → h2.get? b = some u) →
      wpAny (model X.prog X.w) X.A (spliced (backTo pos (starEach [] X.env))) (fun vs s₂ => wpAny (model X.prog X.w) X.A (call (.builtin "len") (Value.ref s1.heap.objs.size :: vs)) (EP X pins σ Q) X.xe s₂) X.xe { s1 with heap := h2, toks := tk } := fun h2 tk ⟨o, es, ep, t, ho, hex, hd, _, _, _, hf, hn⟩ k2 => by
    have I2 : Inv X pins σ H1 { s1 with heap := h2, toks := tk } := I1.kept fun b o e => k2 b o (Heap.lt_size e) e
    have := mets_le xs
    exact args_nil (call_len_set ho hex hd hf (by rw [hn]; omega) ⟨.int (mets xs).length, H1, I2.tok _, ⟨_, by rw [hn]⟩, q1⟩)
  rcases hq with hq | hq
  · obtain ⟨its, r, pl, hz⟩ := I1.list hq
    obtain ⟨o, ho, hc', nn, hd⟩ := pl.isList
    refine call_setS seqy_l (I1.ok.hd hc) ho hc' hd (by simpa using strsAre_of r) (by omega) (fun {B E' z Q'} g q' => wpAny_pyIter_list ⟨o, g, hc', nn, hd⟩ q') (fun {B} hB I hne => ⟨_, PySem.Walks.list hB I l hne its.toArray, fun h g1 g2 => ⟨⟨_, g1, rfl, rfl⟩, ⟨o, g2, hc', nn, hd⟩⟩⟩) fin
  · obtain ⟨its, r, ⟨o, ho, hc', nn, hd⟩, hz⟩ := I1.tuple hq
    refine call_setS seqy_t (I1.ok.hd hc) ho hc' hd (by simpa using strsAre_of r) (by omega) (fun {B E' z Q'} g q' => wpAny_pyIter_tuple ⟨o, g, hc', nn, hd⟩ q') (fun {B} hB I hne => ⟨_, PySem.Walks.tuple hB I l hne its.toArray, fun h g1 g2 => ⟨⟨_, g1, rfl, rfl⟩, ⟨o, g2, hc', nn, hd⟩⟩⟩) fin
theorem e_lenS {a : Expr} {p p2 q pos : Pos} (hK : X.K = W.K) (hm : X.mg "len" = none) (hm2 : X.mg "set" = none) (ha : PE X a (TV W ra)) (hc : X.calm = true := by rfl) (hg : Gl X "len" := by rfl) (hg2 : Gl X "set" := by rfl) (na : starEach [a] X.env = (false, eval a X.env) :: starEach [] X.env := by rfl) :
    PE X (.Call (.Name "len" p) [.Call (.Name "set" p2) [a] [] q] [] pos) (TV W (run1 ra fLenS)) := pe_weak (pe_lenS hc hg hm hg2 hm2 ha na) fun σ H Q h => by rw [hK]; exact tv1 p_lenS h
end
end Sx
set_option Elab.async false
set_option linter.all false
set_option maxRecDepth 100000
set_option maxHeartbeats 4000000
set_option autoImplicit false
namespace Sx
open PySem L2 PyProof.Rows
/-! ### repr -/
def shOk (p : PyData) : Bool := p.showable && !p.hasDict && p.leavesShort 1000 && decide (p.bulk ≤ 10000) && decide (p.depth ≤ 50)
def fRepr (ds : List D) : Option (Bool × D) := match ds with
  | [.lst xs] => (py (.lst xs)).bind fun p => if shOk p then some0 (.str p.shown) else none
  | [.tup xs] => (py (.tup xs)).bind fun p => if shOk p then some0 (.str p.shown) else none
  | _ => none
def rRepr (K : PySem.W.Frag) : List V → Hp → VK → Prop := fun vs H Q => ∃ a p, vs = [.ref a] ∧ Dp K H (.ref a) p ∧ shOk p = true ∧ Q (.str p.shown) H
theorem shOk_sz {p : PyData} (h : shOk p = true) : p.shown.length ≤ sizeLine := by
  unfold shOk at h
  simp only [Bool.and_eq_true, decide_eq_true_eq] at h
  have := PyData.shown_le_bulk 1000 (by decide) p h.1.1.2
  have h2 := h.1.2
  rw [sizeLine_eq]
  omega
section
variable {X : Cx} {W : Wd}
theorem cr_repr (hu : X.A.units + 64 < cLine) (hg : NoG X.A) : CallR X (.builtin "repr") (rRepr X.K) := by
  intro pins s σ H xs us Q I r h
  obtain ⟨a, p, rfl, hp, ok, q⟩ := h
  cases r with
  | cons r1 r2 =>
    cases r2
    cases r1
    obtain ⟨as, rd⟩ := Dp.reads I p _ _ hp rfl
    have ok' := ok
    unfold shOk at ok
    simp only [Bool.and_eq_true, Bool.not_eq_true', decide_eq_true_eq] at ok
    obtain ⟨⟨⟨⟨h1, h2⟩, h3⟩, h4⟩, h5⟩ := ok
    exact repr_of_reads' rd h1 (PyData.noDict_hsm h2) hg (by omega) (fun _ _ e => e) (fun h' u tk k => ⟨.str p.shown, H, I.kept k, ⟨_, rfl⟩, q⟩) (shOk_sz ok')
theorem p_repr : PureN W (rRepr W.K) fRepr := by
  intro S H vs ds c Q hd hv h r
  unfold fRepr at h
  split at h
  · obtain ⟨p, hp, h⟩ := Option.bind_eq_some_iff.mp h
    split at h
    · cases h
      match vs, hv with
      | [v], ⟨dv, _⟩ =>
        have := dv.dp hp
        cases dv with
        | lst ha dl => exact ⟨_, p, rfl, this, by assumption, r.str hd⟩
      | _ :: _ :: _, ⟨_, z⟩ => exact z.elim
      | [], z => exact z.elim
    · cases h
  · obtain ⟨p, hp, h⟩ := Option.bind_eq_some_iff.mp h
    split at h
    · cases h
      match vs, hv with
      | [v], ⟨dv, _⟩ =>
        have := dv.dp hp
        cases dv with
        | tup ha dl => exact ⟨_, p, rfl, this, by assumption, r.str hd⟩
      | _ :: _ :: _, ⟨_, z⟩ => exact z.elim
      | [], z => exact z.elim
    · cases h
  · cases h
end
end Sx
set_option Elab.async false
set_option linter.all false
set_option maxRecDepth 100000
set_option maxHeartbeats 4000000
set_option autoImplicit false
namespace Sx
open PySem L2
theorem bt_len : bootBuiltins "len" = some (.builtin "len") := by decide +kernel
theorem bt_all : bootBuiltins "all" = some (.builtin "all") := by decide +kernel
theorem bt_any : bootBuiltins "any" = some (.builtin "any") := by decide +kernel
theorem bt_isinstance : bootBuiltins "isinstance" = some (.builtin "isinstance") := by decide +kernel
theorem bt_sorted : bootBuiltins "sorted" = some (.builtin "sorted") := by decide +kernel
theorem bt_min : bootBuiltins "min" = some (.builtin "min") := by decide +kernel
theorem bt_repr : bootBuiltins "repr" = some (.builtin "repr") := by decide +kernel
theorem bt_abs : bootBuiltins "abs" = some (.builtin "abs") := by decide +kernel
theorem bt_list : bootBuiltins "list" = some (.type "list") := by decide +kernel
theorem bt_tuple : bootBuiltins "tuple" = some (.type "tuple") := by decide +kernel
theorem bt_dict : bootBuiltins "dict" = some (.type "dict") := by decide +kernel
theorem bt_int : bootBuiltins "int" = some (.type "int") := by decide +kernel
theorem bt_str : bootBuiltins "str" = some (.type "str") := by decide +kernel
theorem bt_bool : bootBuiltins "bool" = some (.type "bool") := by decide +kernel
/-- two keywords, exchanged -/
def sw10 {α : Type} (us ws : List α) : List α := match us, ws with
  | [], [a, b] => [b, a]
  | _, _ => []
theorem pm10 {W : Wd} : PermOk W 2 sw10 sw10 := by
  intro S H vs ds ws es h g
  cases h with
  | cons => exact .nil
  | nil =>
    cases g with
    | nil => exact .nil
    | cons t1 d1 r =>
      cases r with
      | nil => exact .nil
      | cons t2 d2 r2 =>
        cases r2 with
        | nil => exact .cons t2 d2 (.cons t1 d1 .nil)
        | cons => exact .nil
theorem q10_len {rs : Runs} (h : LenR rs 2) : ∀ en : En, (rs en).all fun b => ∀ ds, onlyV b.1 = some ds → (sw10 [] ds).length = 2 := fun en => T.all_mono (h en) fun a ha ds e => by
  have := (onlyV_len e).trans ha
  match ds, this with
  | [a, b], _ => rfl
section
variable {K : PySem.W.Frag}
theorem kb10 {x qual p1 p2 : Str} {st : Stmt} {f : Addr} {fd : FuncData} (F : Fun K x qual st f fd)
    (h : ∀ (kV doc pm : Value) (an : Option Addr) (cdv ct a b : Value), bindArgs (PySem.W.fnOf x qual (defArgs st) (defBody st) (defScope st) .none kV doc pm an cdv ct) ⟨[], [(p2, a), (p1, b)]⟩ = pure [(p1, b), (p2, a)]) : KBinds K fd [p1, p2] [p2, p1] sw10 sw10 := by
  obtain ⟨oc, od, kV, doc, pm, an, cdv, ct, osl, rfl, lk, hcd⟩ := F.ex
  refine ⟨fun s us ws kin hl => ?_, fun {vs us zs ws} r q => ?_⟩
  · match us, ws, hl with
    | [], [a, b], _ => exact .of_eq (h kV doc pm an cdv ct a b)
  · cases r with
    | cons => exact .nil
    | nil =>
      cases q with
      | nil => exact .nil
      | cons t1 r =>
        cases r with
        | nil => exact .nil
        | cons t2 r2 =>
          cases r2 with
          | nil => exact .cons t2 (.cons t1 .nil)
          | cons => exact .nil
end
end Sx
set_option Elab.async false
set_option linter.all false
set_option maxRecDepth 100000
set_option maxHeartbeats 4000000
set_option autoImplicit false
namespace Sx
open PySem L2
/-! ### the draws -/
def f_w_take : Fn := fun ds => match ds with
  | [.drw, .int n] => if 0 < n ∧ n ≤ 1073741824 then .ch n.toNat fun i => .ret (false, .int i) else .fail
  | _ => .fail
section
variable (K : PySem.W.Frag)
def tIxc (i : Nat) (k : Int) : TE := tOp (rIxL K) (tVar i) (tC (.int k))
def tInt (t : TE) : TE := tCB (fun xs H Q => (∃ i, xs = [V.int i] ∧ Q (V.int i) H) ∨ ∃ k, xs = [V.bl k] ∧ Q (V.int (if k = true then 1 else 0)) H) (tCons t tNil)
def tLenQ (t : TE) : TE := tCB (fun xs H Q => ∃ p ys, xs = [V.ref p] ∧ (SqL K H p ys ∨ SqT K H p ys) ∧ Q (V.int ys.length) H) (tCons t tNil)
def tAdd2 (a b : TE) : TE := tOp (rI0 fun i j => V.int (i + j)) a b
def tMod2 (a b : TE) : TE := tOp (rI (fun _ j => 0 < j) fun i j => V.int (i % j)) a b
def tMul2 (a b : TE) : TE := tOp (rI CMul fun i j => V.int (i * j)) a b
def tTake1 : TS := tIfS (tTest (tOp (rI0 fun i j => V.bl (decide (j ≤ i))) (tVar 4) (tOp (rI CPow fun i j => V.int (i ^ j.toNat)) (tC (V.int 10)) (tC (V.int 18)))))
    (tSeq (tAsg (tOp (rI CDivW fun i j => V.int (i / j)) (tVar 4) (tVar 1)) (gSub (tVar 2) (tVar 3) rSetL)) (tRet (tMod2 (tInt (tVar 4)) (tVar 1)))) tNext
def tTake2 : TS := tSeq (tAsg (tAdd2 (tIxc K 0 1) (tC (.int 1))) (gSub (tVar 0) (tC (.int 1)) rSetL)) (tSeq (tAsg (tAdd2 (tIxc K 0 3) (tC (.int 1))) (gSub (tVar 0) (tC (.int 3)) rSetL))
    (tSeq (tAsg (tMod2 (tInt (tAdd2 (tAdd2 (tAdd2 (tMul2 (tIxc K 0 2) (tC (.int 48271))) (tVar 4)) (tMul2 (tC (.int 7919)) (tIxc K 0 3))) (tC (.int 12345)))) (tC (.int 2147483647))) (gSub (tVar 0) (tC (.int 2)) rSetL))
      (tRet (tMod2 (tOp (rI CDiv fun i j => V.int (i / j)) (tMod2 (tInt (tMul2 (tIxc K 0 2) (tIxc K 0 2))) (tC (.int 2147483629))) (tC (.int 16))) (tVar 1)))))
def tTake : TS := tSeq (tAsg (tIxc K 0 0) (gName 2)) (tSeq (tAsg (tMod2 (tInt (tIxc K 0 1)) (tLenQ K (tVar 2))) (gName 3)) (tSeq (tAsg (tOp (rIxL K) (tVar 2) (tVar 3)) (gName 4)) (tSeq tTake1 (tTake2 K))))
end
theorem ixc {K : PySem.W.Frag} {σ : St} {H : Hp} {Q : VK} {i : Nat} {a : Addr} {xs : List V} {k : Int} {v : V} (h : σ[i]? = some (some (.ref a))) (ha : H a = some (.lst xs)) (hv : atI xs k = some v) (q : Q v H) : tIxc K i k σ H Q :=
  ⟨_, h, a, xs, k, v, rfl, rfl, SqL.of ha, hv, q⟩
theorem ix_nat {α : Type} {xs : List α} {k : Int} {v : α} (h0 : 0 ≤ k) (h : xs[k.toNat]? = some v) : atI xs k = some v ∧ ixN xs.length k = some k.toNat := by
  have hl := (List.getElem?_eq_some_iff.mp h).1
  have e : ixN xs.length k = some k.toNat := by
    unfold ixN
    rw [if_pos h0, if_pos (by omega)]
  exact ⟨by unfold atI; rw [e]; exact h, e⟩
theorem take_sem {K : PySem.W.Frag} {cls : Nat → Addr} {vs : List V} {H : Hp} {Q : VK} {E : XK} {N : List Str} (hN : N.length = 5) (h : spR K cls 2 f_w_take vs H Q E) : tTake K { nx := fun _ H' => Q .non H', rt := Q } (L2.start N vs) H := by
  obtain ⟨hl, W, S, ds, hK, hc, dr, dom, n1, n2, dl, wpq⟩ := h
  -- the arguments
  have key : ∃ n : Int, ds = [.drw, .int n] ∧ 0 < n ∧ n ≤ 1073741824 ∧ ∀ i : Nat, (i : Int) < n → ∀ v H' S' P', Ext S (Pall W H) H S' P' H' → RetOk W S' P' H' → ROk W S' P' H' v (false, .int i) → Q v H' := by
    unfold f_w_take at wpq
    split at wpq
    · rename_i n
      split at wpq
      · rename_i hn
        exact ⟨n, rfl, hn.1, hn.2, fun i hi => wpq i (by omega)⟩
      · exact wpq.elim
    · exact wpq.elim
  obtain ⟨n, rfl, hn0, hn1, q⟩ := key
  obtain ⟨v0, v1, rfl, d0, d1⟩ : ∃ v0 v1, vs = [v0, v1] ∧ Dv W S H v0 .drw ∧ Dv W S H v1 (.int n) := by
    cases dl with
    | cons t a r =>
      cases r with
      | cons t2 b r2 => cases r2; exact ⟨_, _, rfl, a, b⟩
  cases d0
  cases d1
  obtain ⟨ne, ns, i, j, k, hda, hdb, hns, hlen, hpos⟩ := dr
  have st : L2.start N [V.ref W.da, V.int n] = [some (.ref W.da), some (.int n), none, none, none] := by
    unfold L2.start
    rw [hN]
    rfl
  rw [st]
  -- the end
  have fin : ∀ (H' : Hp) (ns' : List Int) (a b c r : Int), H' W.da = some (.lst [.ref W.db, .int a, .int b, .int c]) → H' W.db = some (.lst (ns'.map V.int)) → ns'.length = ns.length → (∀ m ∈ ns', 0 ≤ m) → (∀ x, x ≠ W.da → x ≠ W.db → H' x = H x) → 0 ≤ r → r < n → Q (.int r) H' := by
    intro H' ns' a b c r g1 g2 g3 g4 g5 g6 g7
    have er : r = ((r.toNat : Nat) : Int) := by omega
    rw [er]
    have inP : ∀ x, S x → Pall W H x := fun x s => ⟨dom x s, fun z => n1 (z ▸ s), fun z => n2 (z ▸ s)⟩
    refine q r.toNat (by omega) _ H' S (Pall W H) ⟨fun _ h => h, fun _ h => h, fun x hx => g5 x hx.2.1 hx.2.2, fun _ h => .inl h⟩ ⟨inP, fun x s => ?_, ⟨ne, ns', a, b, c, g1, g2, fun z => ?_, by omega, g4⟩, ⟨fun z => z.2.1 rfl, fun z => z.2.2 rfl⟩⟩ ⟨.int _, fun _ => trivial, fun z => by cases z⟩
    · have p := inP x s
      rw [g5 x p.2.1 p.2.2]
      exact dom x s
    · subst z
      exact hns (List.eq_nil_of_length_eq_zero g3.symm)
  have hlen0 : 0 < ns.length := List.length_pos_iff.mpr hns
  have ml : (ns.map V.int).length = ns.length := List.length_map ..
  generalize hm : i % (((ns.map V.int).length : Nat) : Int) = m
  have hm0 : 0 ≤ m := by rw [← hm]; exact Int.emod_nonneg _ (by omega)
  have hm1 : m < ns.length := by rw [← hm]; have := Int.emod_lt_of_pos i (b := (((ns.map V.int).length : Nat) : Int)) (by omega); omega
  obtain ⟨x, hx⟩ : ∃ x, ns[m.toNat]? = some x := ⟨_, List.getElem?_eq_getElem (by omega)⟩
  have hx0 : 0 ≤ x := hpos x (List.mem_of_getElem? hx)
  have hxv : (ns.map V.int)[m.toNat]? = some (.int x) := by rw [List.getElem?_map, hx]; rfl
  obtain ⟨at1, ix1⟩ := ix_nat hm0 hxv
  refine ixc (i := 0) rfl hda (v := .ref W.db) rfl ?_
  refine ixc (i := 0) rfl hda (v := .int i) rfl (.inl ⟨i, rfl, ?_⟩)
  refine ⟨.ref W.db, rfl, W.db, ns.map V.int, rfl, .inl (SqL.of hdb), i, _, rfl, rfl, by omega, ?_⟩
  show gName 3 (.int (i % (((ns.map V.int).length : Nat) : Int))) _ H _
  rw [hm]
  refine ⟨.ref W.db, rfl, .int m, rfl, W.db, _, m, .int x, rfl, rfl, SqL.of hdb, at1, ?_⟩
  refine ⟨.int x, rfl, 10, 18, rfl, rfl, ⟨by decide, by decide, by decide⟩, x, _, rfl, rfl, _, rfl, ?_⟩
  generalize decide ((10 : Int) ^ (18 : Int).toNat ≤ x) = big
  cases big
  case true =>
    refine ⟨.int x, rfl, .int n, rfl, x, n, rfl, rfl, ⟨hn0, ?_⟩, .ref W.db, rfl, .int m, rfl, W.db, _, m, m.toNat, rfl, rfl, hdb, ix1, ?_⟩
    · have : n.natAbs < 2 ^ 31 := by omega
      have := PySem.Flt.log2_lt_of (n := n.natAbs) (k := 31) (by decide) this
      omega
    · refine ⟨.int x, rfl, .inl ⟨x, rfl, .int n, rfl, x, n, rfl, rfl, hn0, ?_⟩⟩
      refine fin _ (ns.set m.toNat (x / n)) i j k (x % n) (by rw [upd_ne ne]; exact hda) (by rw [upd_same, List.map_set]) (List.length_set ..) (fun y hy => ?_) (fun y h1 h2 => upd_ne h2) (Int.emod_nonneg _ (by omega)) (Int.emod_lt_of_pos _ hn0)
      rcases List.mem_or_eq_of_mem_set hy with hy | rfl
      · exact hpos y hy
      · exact Int.ediv_nonneg hx0 (by omega)
  case false =>
    refine ixc (i := 0) rfl hda (v := .int i) rfl ⟨i, 1, rfl, rfl, .ref W.da, rfl, W.da, _, 1, 1, rfl, rfl, hda, rfl, ?_⟩
    refine ixc (i := 0) rfl upd_same (v := .int k) rfl ⟨k, 1, rfl, rfl, .ref W.da, rfl, W.da, _, 3, 3, rfl, rfl, upd_same, rfl, ?_⟩
    refine ixc (i := 0) rfl upd_same (v := .int j) rfl ⟨j, 48271, rfl, rfl, .inr ⟨by decide, by decide⟩, .int x, rfl, _, x, rfl, rfl, ?_⟩
    refine ixc (i := 0) rfl upd_same (v := .int (k + 1)) rfl ⟨7919, k + 1, rfl, rfl, .inl ⟨by decide, by decide⟩, _, _, rfl, rfl, _, _, rfl, rfl, .inl ⟨_, rfl, _, 2147483647, rfl, rfl, (by decide : (0 : Int) < 2147483647), .ref W.da, rfl, W.da, _, 2, 2, rfl, rfl, upd_same, rfl, ?_⟩⟩
    generalize hz : (j * 48271 + x + 7919 * (k + 1) + 12345) % (2147483647 : Int) = z
    have z0 : 0 ≤ z := by rw [← hz]; exact Int.emod_nonneg _ (by decide)
    have z1 : z < 2147483647 := by rw [← hz]; exact Int.emod_lt_of_pos _ (by decide)
    have hz' : atI ((([V.ref W.db, V.int i, V.int j, V.int k].set 1 (.int (i + 1))).set 3 (.int (k + 1))).set 2 (.int ((j * 48271 + x + 7919 * (k + 1) + 12345) % (2147483647 : Int)))) 2 = some (V.int z) := by rw [← hz]; rfl
    refine ixc (i := 0) rfl upd_same (v := .int z) hz' (ixc (i := 0) rfl upd_same (v := .int z) hz' ⟨z, z, rfl, rfl, .inl ⟨by omega, by omega⟩, .inl ⟨_, rfl, _, 2147483629, rfl, rfl, (by decide : (0 : Int) < 2147483629), _, 16, rfl, rfl, ⟨by decide, by decide⟩, .int n, rfl, _, n, rfl, rfl, hn0, ?_⟩⟩)
    refine fin _ ns (i + 1) z (k + 1) _ (by rw [← hz]; exact upd_same) ?_ rfl hpos (fun y h1 h2 => by rw [upd_ne h1, upd_ne h1, upd_ne h1]) (Int.emod_nonneg _ (by omega)) (Int.emod_lt_of_pos _ hn0)
    rw [upd_ne ne.symm, upd_ne ne.symm, upd_ne ne.symm]
    exact hdb
end Sx
set_option Elab.async false
set_option linter.all false
set_option maxRecDepth 100000
set_option maxHeartbeats 4000000
set_option autoImplicit false
namespace Sx
open PySem L2
/-- the promise of the draws' begin -/
def spBegin (K : PySem.W.Frag) : Sp := fun vs H Q _ => ∃ (a : Addr) (ns : List Int), vs = [V.ref a] ∧ SqL K H a (ns.map V.int) ∧ ns.length ≤ 63 ∧
  ∀ (da db : Addr) (ms : List Int) (H' : Hp), H da = none → H db = none → da ≠ db → ms ≠ [] → ms.length ≤ 100 → (∀ m ∈ ms, 0 ≤ m) → (∀ b o, H b = some o → H' b = some o) → H' da = some (.lst [.ref db, .int 0, .int 1, .int 0]) → H' db = some (.lst (ms.map V.int)) → Q (.ref da) H'
def tBegin (K : PySem.W.Frag) : TS := tRet (tLst (tCons (tOrT K (tLc (iList K (tSl (rSlL K) (tVar 0) tNoPart (tPart (tC (V.int 63))))) (gName 1) tYes (tCB (fun xs H Q => ∃ i, xs = [V.int i] ∧ Q (V.int (if i < 0 then -i else i)) H) (tCons (tVar 1) tNil)) [1])
  (tLst (tCons (tC (V.int 7)) tNil))) (tCons (tC (V.int 0)) (tCons (tC (V.int 1)) (tCons (tC (V.int 0)) tNil)))))
def iabs (i : Int) : Int := if i < 0 then -i else i
theorem iabs_nn (i : Int) : 0 ≤ iabs i := by unfold iabs; split <;> omega
theorem small_line {n : Nat} (h : n ≤ 4096) : n < sizeLine := by rw [sizeLine_eq]; omega
theorem begin_sem {K : PySem.W.Frag} {vs : List V} {H : Hp} {Q : VK} {E : XK} {N : List Str} (hN : N.length = 2) (h : spBegin K vs H Q E) : tBegin K { nx := fun _ H' => Q .non H', rt := Q } (L2.start N vs) H := by
  obtain ⟨a, ns, rfl, ha, hlen, k⟩ := h
  have st : L2.start N [V.ref a] = [some (.ref a), none] := by unfold L2.start; rw [hN]; rfl
  rw [st]
  obtain ⟨zs, hzs, hz⟩ : ∃ zs : List Int, cutV (ns.map V.int) none (some 63) = zs.map V.int ∧ zs.length ≤ 63 := by
    refine ⟨(ns.drop (HT.sIx (ns.map V.int).length 0 none)).take (HT.sIx (ns.map V.int).length (ns.map V.int).length (some 63) - HT.sIx (ns.map V.int).length 0 none), ?_, ?_⟩
    · unfold cutV
      rw [List.map_take, List.map_drop]
    · rw [List.length_take, List.length_drop]; omega
  -- the last step, for a list of numbers at b
  have fin : ∀ (b : Addr) (ms : List Int) (H2 : Hp), H b = none → ms ≠ [] → ms.length ≤ 100 → (∀ m ∈ ms, 0 ≤ m) → (∀ c o, H c = some o → H2 c = some o) → H2 b = some (.lst (ms.map V.int)) →
      [V.ref b, .int 0, .int 1, .int 0].length ≤ sizeLine ∧ ∀ p, H2 p = none → Q (.ref p) (upd H2 p (.lst [V.ref b, .int 0, .int 1, .int 0])) := by
    intro b ms H2 hb h1 h2 h3 h4 h5
    refine ⟨Nat.le_of_lt (small_line (by simp)), fun p hp => ?_⟩
    have np : p ≠ b := fun z => by rw [z, h5] at hp; cases hp
    refine k p b ms _ ?_ hb np h1 h2 h3 (fun c o e => ?_) upd_same (by rw [upd_ne np.symm]; exact h5)
    · cases e : H p with
      | none => rfl
      | some o => rw [h4 p o e] at hp; cases hp
    · rw [upd_ne (ne_of_none (h4 c o e) hp)]; exact h4 c o e
  refine ⟨.ref a, rfl, 63, rfl, a, _, rfl, ha, fun p hp => ⟨p, rfl, ⟨_, SqL.of upd_same⟩, fun Da hD => ?_⟩⟩
  rw [hzs]
  rw [hzs] at hD
  have npD : p ≠ Da := fun z => by rw [z, upd_same] at hD; cases hD
  have hD0 : H Da = none := by rw [upd_ne npD.symm] at hD; exact hD
  refine lc_list (K := K) (a := p) (xs := zs.map V.int) (fun i G => G p = some (.lst (zs.map V.int)) ∧ (∀ c o, H c = some o → G c = some o) ∧ G Da = some (.lst (((zs.take i).map iabs).map V.int)))
    ⟨by rw [upd_ne npD]; exact upd_same, fun c o e => by rw [upd_ne (ne_of_none e hD0), upd_ne (ne_of_none e hp)]; exact e, upd_same⟩ (fun i G _ g => SqL.of g.1) ?_ ?_
  · rintro i x G hx ⟨g1, g2, g3⟩
    obtain ⟨y, hy, rfl⟩ : ∃ y, zs[i]? = some y ∧ x = V.int y := by
      rw [List.getElem?_map] at hx
      cases e : zs[i]? with
      | none => rw [e] at hx; cases hx
      | some y => rw [e] at hx; exact ⟨y, rfl, (Option.some.inj hx).symm⟩
    refine ⟨rfl, V.int y, rfl, y, rfl, ((zs.take i).map iabs).map V.int, g3, small_line (by simp; omega), by rw [upd_ne npD]; exact g1, fun c o e => by rw [upd_ne (ne_of_none e hD0)]; exact g2 c o e, ?_⟩
    rw [upd_same, List.take_succ, hy]
    simp [iabs]
  · rintro G ⟨g1, g2, g3⟩
    rw [List.length_map, List.take_length] at g3
    refine ⟨!(zs.map iabs).isEmpty, .inl ⟨_, SqL.of g3, by simp⟩, ?_⟩
    cases zs with
    | nil => 
      refine ⟨Nat.le_of_lt (small_line (by simp)), fun q hq => ?_⟩
      have nq : H q = none := by
        cases e : H q with
        | none => rfl
        | some o => rw [g2 q o e] at hq; cases hq
      exact fin q [7] _ nq (by simp) (by simp) (fun m hm => by simp at hm; omega) (fun c o e => by rw [upd_ne (ne_of_none e nq)]; exact g2 c o e) upd_same
    | cons z zs =>
      exact fin Da ((z :: zs).map iabs) G hD0 (by simp) (by simp at hz ⊢; omega) (fun m hm => by obtain ⟨y, _, rfl⟩ := List.mem_map.mp hm; exact iabs_nn y) g2 g3
/-! ### the law -/
def lawEn (n m : Nat) : En := [some (.fz, .scr m), some (.fz, .drw)] ++ List.replicate (n - 2) none
def Yes (r : Fl × En) : Prop := ∃ f, flOf r.1 = some (f, .bl true)
def spLaw (K : PySem.W.Frag) (n : Nat) (run : RunS) : Sp := fun vs H Q _ => ∃ (a : Addr) (ns : List Int), vs = [V.ref a] ∧ SqL K H a (ns.map V.int) ∧ ns.length ≤ 63 ∧ (run (lawEn n ns.length)).wp Yes ∧ ∀ H', Q (.bl true) H'
def TVX (K : PySem.W.Frag) (cls : Nat → Addr) (run : RunS) : TS := fun D σ H => ∃ W : Wd, W.K = K ∧ W.cls = cls ∧ TVS W run D σ H
theorem law_rest {X : Cx} {sts : List Stmt} {K : PySem.W.Frag} {cls : Nat → Addr} {run : RunS} (h : ∀ W : Wd, W.K = K → W.cls = cls → PSs X sts (TVS W run)) : PSs X sts (TVX K cls run) :=
  ⟨fun pins s σ H D I ⟨W, hK, hc, q⟩ => (h W hK hc).run pins s σ H D I q⟩
theorem law_sem {K : PySem.W.Frag} {cls : Nat → Addr} {run : RunS} {vs : List V} {H : Hp} {Q : VK} {E : XK} {N : List Str} (hN : 2 ≤ N.length) (h : spLaw K N.length run vs H Q E) :
    tSeq (tAsg (tCall (spBegin K) [] E0 (tCons (tVar 0) tNil)) (gName 1)) (TVX K cls run) { nx := fun _ H' => Q .non H', rt := Q } (L2.start N vs) H := by
  obtain ⟨a, ns, rfl, ha, hlen, hr, hq⟩ := h
  have st : L2.start N [V.ref a] = [some (.ref a), none] ++ List.replicate (N.length - 2) none := by
    unfold L2.start
    obtain ⟨m, e⟩ : ∃ m, N.length = m + 2 := ⟨N.length - 2, by omega⟩
    rw [e]
    show [some (V.ref a)] ++ List.replicate (m + 1) none = _
    rw [List.replicate_succ]
    rfl
  rw [st]
  refine ⟨.ref a, rfl, a, ns, rfl, ha, hlen, fun da db ms H' h1 h2 h3 h4 h5 h6 h7 h8 h9 => ?_⟩
  refine ⟨⟨K, da, db, cls⟩, rfl, rfl, fun b => b = a ∧ ∃ o, H b = some o, fun b => b = a ∧ ∃ o, H b = some o, lawEn N.length ns.length, ?_, ?_⟩
  · have scr : Dv ⟨K, da, db, cls⟩ (fun b => b = a ∧ ∃ o, H b = some o) H' (.ref a) (.scr ns.length) := by
      have e : ns.length = (ns.map V.int).length := (List.length_map ..).symm
      rw [e]
      rcases ha with ha | ha
      · obtain ⟨o, ho⟩ : ∃ o, H a = some o := by
          rcases ha with ha | ⟨o, ha⟩
          · exact ⟨_, ha⟩
          · exact ⟨_, ha⟩
        exact .scr (.inl ⟨⟨rfl, o, ho⟩, SqL.at (by rw [ho]; exact h7 a o ho) (.inl ha)⟩)
      · exact .scr (.inr fun G => .inr ha)
    refine ⟨fun _ h => h, fun b ⟨_, o, e⟩ => ⟨o, h7 b o e⟩, fun i f d e => ?_, fun i j f g d d' v e1 e2 e3 => ?_, ?_, ⟨h3, ms, 0, 1, 0, h8, h9, h4, h5, h6⟩, ⟨(fun ⟨_, o, e⟩ => by rw [h1] at e; cases e), (fun ⟨_, o, e⟩ => by rw [h2] at e; cases e)⟩⟩
    · match i with
      | 0 => cases e; exact ⟨.ref a, rfl, scr, fun _ => trivial, fun z => absurd rfl z⟩
      | 1 => cases e; exact ⟨.ref da, rfl, .drw, fun _ => trivial, fun z => absurd rfl z⟩
      | i + 2 => 
        have : (List.replicate (N.length - 2) (none : Slot))[i]? = some (some (f, d)) := e
        have := List.eq_of_mem_replicate (List.mem_of_getElem? this)
        cases this
    · match i with
      | 0 => cases e1; exact absurd rfl e3
      | 1 => cases e1; exact absurd rfl e3
      | i + 2 => 
        have : (List.replicate (N.length - 2) (none : Slot))[i]? = some (some (f, d)) := e1
        have := List.eq_of_mem_replicate (List.mem_of_getElem? this)
        cases this
    · simp [lawEn]
  · refine T.wp_mono hr fun r ⟨f, e⟩ => ?_
    obtain ⟨fl, en⟩ := r
    cases fl with
    | nx => cases e
    | bk => cases e
    | ct => cases e
    | rt c =>
      cases e
      intro v H2 S2 P2 _ _ ok
      rw [dv_bl ok.1]
      exact hq _
theorem law_ok {Pr : Program} {w : World} {K : PySem.W.Frag} {mg : Str → Option Value} {base : Heap} {cls : Nat → Addr} {x qual : Str} {st s0 : Stmt} {rest : List Stmt} {f : Addr} {fd : FuncData} {N : List Str} {k : Nat} {run : RunS} {p : Str} (F : Fun K x qual st f fd) (Sc : FnScope N [p] (defScope st)) (hN : 2 ≤ N.length) (hs : defBody st = s0 :: rest)
    (h0 : ∀ (cdv : Value) (A : Around) (outer : List PySem.Env) (s : Shared) (H : Hp) (E : XK), Room k (A.deeper (PyProof.Rows.envOfC qual (defScope st) s.heap.objs.size f cdv)) → NoG (A.deeper (PyProof.Rows.envOfC qual (defScope st) s.heap.objs.size f cdv)) → PS (cxOf CX0 Pr w K mg base N qual (defScope st) f cdv A outer s H E).nox s0 (tAsg (tCall (spBegin K) [] E0 (tCons (tVar 0) tNil)) (gName 1)))
    (hb : ∀ (cdv : Value) (A : Around) (outer : List PySem.Env) (s : Shared) (H : Hp) (E : XK), Room k (A.deeper (PyProof.Rows.envOfC qual (defScope st) s.heap.objs.size f cdv)) → NoG (A.deeper (PyProof.Rows.envOfC qual (defScope st) s.heap.objs.size f cdv)) → ∀ W : Wd, W.K = K → W.cls = cls → PSs (cxOf CX0 Pr w K mg base N qual (defScope st) f cdv A outer s H E).nox rest (TVS W run)) :
    FnG Pr w K mg base CX0 (k + 1) f fd [p] (spLaw K N.length run) := by
  refine fnG_of F Sc (fun vs H Q E h => by obtain ⟨a, ns, rfl, _⟩ := h; rfl) fun cdv A outer s H vs Q E hr hg h => ?_
  refine ⟨_, ?_, law_sem (cls := cls) hN h⟩
  rw [hs]
  exact (pss_cons (h0 cdv A outer s H E hr hg) (law_rest (hb cdv A outer s H E hr hg))).nox
def headS (st : Stmt) : Stmt := (defBody st).headD (.Pass ⟨0, 0, 0, 0⟩)
def restS (st : Stmt) : List Stmt := (defBody st).tail
end Sx
set_option Elab.async false
set_option linter.all false
set_option maxRecDepth 100000
set_option maxHeartbeats 4000000
set_option autoImplicit false
namespace Sx
open PySem L2
/-! ### plain data: whole numbers, texts, lists and tuples of them -/
mutual
def sp : PyData → Bool
  | .int _ => true
  | .str _ => true
  | .list xs => spL xs
  | .tuple xs => spL xs
  | _ => false
def spL : List PyData → Bool
  | [] => true
  | x :: xs => sp x && spL xs
end
mutual
theorem eqv_sp : ∀ (p q : PyData), sp p = true → sp q = true → (PyData.eqv p q = true ↔ p = q)
  | .int i, .int j, _, _ => by simp [PyData.eqv]
  | .str i, .str j, _, _ => by simp [PyData.eqv]
  | .list xs, .list ys, h, g => by
    rw [sp] at h g
    rw [PyData.eqv, PyData.list.injEq]
    exact eqvL_sp xs ys h g
  | .tuple xs, .tuple ys, h, g => by
    rw [sp] at h g
    rw [PyData.eqv, PyData.tuple.injEq]
    exact eqvL_sp xs ys h g
  | .int _, .str _, _, _ => by simp [PyData.eqv]
  | .int _, .list _, _, _ => by simp [PyData.eqv]
  | .int _, .tuple _, _, _ => by simp [PyData.eqv]
  | .str _, .int _, _, _ => by simp [PyData.eqv]
  | .str _, .list _, _, _ => by simp [PyData.eqv]
  | .str _, .tuple _, _, _ => by simp [PyData.eqv]
  | .list _, .int _, _, _ => by simp [PyData.eqv]
  | .list _, .str _, _, _ => by simp [PyData.eqv]
  | .list _, .tuple _, _, _ => by simp [PyData.eqv]
  | .tuple _, .int _, _, _ => by simp [PyData.eqv]
  | .tuple _, .str _, _, _ => by simp [PyData.eqv]
  | .tuple _, .list _, _, _ => by simp [PyData.eqv]
  | .none, _, h, _ => by simp [sp] at h
  | .bool _, _, h, _ => by simp [sp] at h
  | .dict _, _, h, _ => by simp [sp] at h
  | .int _, .none, _, h => by simp [sp] at h
  | .int _, .bool _, _, h => by simp [sp] at h
  | .int _, .dict _, _, h => by simp [sp] at h
  | .str _, .none, _, h => by simp [sp] at h
  | .str _, .bool _, _, h => by simp [sp] at h
  | .str _, .dict _, _, h => by simp [sp] at h
  | .list _, .none, _, h => by simp [sp] at h
  | .list _, .bool _, _, h => by simp [sp] at h
  | .list _, .dict _, _, h => by simp [sp] at h
  | .tuple _, .none, _, h => by simp [sp] at h
  | .tuple _, .bool _, _, h => by simp [sp] at h
  | .tuple _, .dict _, _, h => by simp [sp] at h
theorem eqvL_sp : ∀ (xs ys : List PyData), spL xs = true → spL ys = true → (PyData.eqvAll xs ys = true ↔ xs = ys)
  | [], [], _, _ => by simp [PyData.eqvAll]
  | x :: xs, y :: ys, h, g => by
    rw [spL, Bool.and_eq_true] at h g
    rw [PyData.eqvAll, Bool.and_eq_true, List.cons.injEq, eqv_sp x y h.1 g.1, eqvL_sp xs ys h.2 g.2]
  | [], _ :: _, _, _ => by simp [PyData.eqvAll]
  | _ :: _, [], _, _ => by simp [PyData.eqvAll]
end
mutual
theorem py_inj : ∀ (x y : D) (p : PyData), py x = some p → py y = some p → x = y
  | .non, y, p, h, g => by
    cases h
    cases y <;> simp [py, Option.bind_eq_some_iff] at g <;> rfl
  | .bl b, y, p, h, g => by
    cases h
    cases y <;> simp [py, Option.bind_eq_some_iff] at g <;> simp [g]
  | .int b, y, p, h, g => by
    cases h
    cases y <;> simp [py, Option.bind_eq_some_iff] at g <;> simp [g]
  | .str b, y, p, h, g => by
    cases h
    cases y <;> simp [py, Option.bind_eq_some_iff] at g <;> simp [g]
  | .lst xs, y, p, h, g => by
    rw [py] at h
    obtain ⟨ps, h1, h2⟩ := Option.bind_eq_some_iff.mp h
    cases h2
    cases y <;> simp [py, Option.bind_eq_some_iff] at g
    rw [pyL_inj xs _ ps h1 g]
  | .tup xs, y, p, h, g => by
    rw [py] at h
    obtain ⟨ps, h1, h2⟩ := Option.bind_eq_some_iff.mp h
    cases h2
    cases y <;> simp [py, Option.bind_eq_some_iff] at g
    rw [pyL_inj xs _ ps h1 g]
  | .dK _, _, _, h, _ => by simp [py] at h
  | .dT _, _, _, h, _ => by simp [py] at h
  | .obj _ _, _, _, h, _ => by simp [py] at h
  | .scr _, _, _, h, _ => by simp [py] at h
  | .drw, _, _, h, _ => by simp [py] at h
  | .ty _, _, _, h, _ => by simp [py] at h
  | .cl _, _, _, h, _ => by simp [py] at h
theorem pyL_inj : ∀ (xs ys : List D) (ps : List PyData), pyL xs = some ps → pyL ys = some ps → xs = ys
  | [], ys, ps, h, g => by
    cases h
    cases ys with
    | nil => rfl
    | cons y ys => rw [pyL] at g; simp [Option.bind_eq_some_iff] at g
  | x :: xs, ys, ps, h, g => by
    rw [pyL] at h
    obtain ⟨p, h1, h⟩ := Option.bind_eq_some_iff.mp h
    obtain ⟨qs, h2, h⟩ := Option.bind_eq_some_iff.mp h
    cases h
    cases ys with
    | nil => cases g
    | cons y ys =>
      rw [pyL] at g
      obtain ⟨p', g1, g⟩ := Option.bind_eq_some_iff.mp g
      obtain ⟨qs', g2, g⟩ := Option.bind_eq_some_iff.mp g
      cases g
      rw [py_inj x y p h1 g1, pyL_inj xs ys qs h2 g2]
end
/-- plain data of depth at most n -/
def Pd (n : Nat) (d : D) : Prop := ∃ p, py d = some p ∧ sp p = true ∧ p.depth ≤ n
def PdL (n : Nat) (ds : List D) : Prop := ∃ ps, pyL ds = some ps ∧ spL ps = true ∧ PyData.depthAll ps ≤ n
theorem Pd.int (i : Int) (n : Nat) : Pd n (.int i) := ⟨_, rfl, rfl, by simp [PyData.depth]⟩
theorem Pd.str (x : Str) (n : Nat) : Pd n (.str x) := ⟨_, rfl, rfl, by simp [PyData.depth]⟩
theorem PdL.of {n : Nat} : ∀ {ds : List D}, (∀ d ∈ ds, Pd n d) → PdL n ds
  | [], _ => ⟨[], rfl, rfl, by simp [PyData.depthAll]⟩
  | d :: ds, h => by
    obtain ⟨p, h1, h2, h3⟩ := h d List.mem_cons_self
    obtain ⟨ps, g1, g2, g3⟩ := PdL.of fun d hd => h d (List.mem_cons_of_mem _ hd)
    refine ⟨p :: ps, by rw [pyL, h1, g1]; rfl, by rw [spL, h2, g2]; rfl, ?_⟩
    simp only [PyData.depthAll]
    omega
theorem PdL.each {n : Nat} : ∀ {ds : List D}, PdL n ds → ∀ d ∈ ds, Pd n d
  | [], _, d, hd => by simp at hd
  | e :: ds, ⟨ps, g1, g2, g3⟩, d, hd => by
    rw [pyL] at g1
    obtain ⟨p, h1, g1⟩ := Option.bind_eq_some_iff.mp g1
    obtain ⟨qs, h2, g1⟩ := Option.bind_eq_some_iff.mp g1
    cases g1
    rw [spL, Bool.and_eq_true] at g2
    simp only [PyData.depthAll] at g3
    rcases List.mem_cons.mp hd with rfl | hd
    · exact ⟨p, h1, g2.1, by omega⟩
    · exact PdL.each ⟨qs, h2, g2.2, by omega⟩ d hd
theorem Pd.lst {n : Nat} {ds : List D} (h : ∀ d ∈ ds, Pd n d) : Pd (n + 1) (.lst ds) := by
  obtain ⟨ps, h1, h2, h3⟩ := PdL.of h
  exact ⟨.list ps, by rw [py, h1]; rfl, h2, by simp only [PyData.depth]; omega⟩
theorem Pd.tup {n : Nat} {ds : List D} (h : ∀ d ∈ ds, Pd n d) : Pd (n + 1) (.tup ds) := by
  obtain ⟨ps, h1, h2, h3⟩ := PdL.of h
  exact ⟨.tuple ps, by rw [py, h1]; rfl, h2, by simp only [PyData.depth]; omega⟩
theorem Pd.mono {n m : Nat} {d : D} (h : Pd n d) (hm : n ≤ m) : Pd m d := by
  obtain ⟨p, h1, h2, h3⟩ := h
  exact ⟨p, h1, h2, Nat.le_trans h3 hm⟩
/-! ### the rules by plain data -/
theorem eqv_pd {n m : Nat} {x y : D} {p q : PyData} (hx : py x = some p) (sx : sp p = true) (hy : py y = some q) (sy : sp q = true) : PyData.eqv p q = true ↔ x = y :=
  (eqv_sp p q sx sy).trans ⟨fun e => py_inj x y p hx (by rw [hy, e]), fun e => by subst e; exact Option.some.inj (hx.symm.trans hy)⟩
open Classical in
theorem fEq_pd {n m : Nat} {x y : D} (hx : Pd n x) (hy : Pd m y) (hn : n ≤ 60) : fEq x y = some0 (.bl (decide (x = y))) := by
  obtain ⟨p, h1, h2, h3⟩ := hx
  obtain ⟨q, g1, g2, g3⟩ := hy
  unfold fEq
  rw [h1, g1]
  show (if p.depth ≤ 60 then _ else _) = _
  rw [if_pos (by omega)]
  congr 2
  rw [Bool.eq_iff_iff, eqv_pd (n := n) (m := m) h1 h2 g1 g2, decide_eq_true_eq]
open Classical in
theorem fNe_pd {n m : Nat} {x y : D} (hx : Pd n x) (hy : Pd m y) (hn : n ≤ 60) : fNe x y = some0 (.bl (decide (x ≠ y))) := by
  obtain ⟨p, h1, h2, h3⟩ := hx
  obtain ⟨q, g1, g2, g3⟩ := hy
  unfold fNe
  rw [h1, g1]
  show (if p.depth ≤ 60 then _ else _) = _
  rw [if_pos (by omega)]
  congr 2
  rw [Bool.eq_iff_iff, decide_eq_true_eq, Bool.not_eq_true', ← Bool.not_eq_true, eqv_pd (n := n) (m := m) h1 h2 g1 g2]
open Classical in
theorem any_pd {n : Nat} {x : D} {p : PyData} (h1 : py x = some p) (h2 : sp p = true) : ∀ {ds : List D} {ps : List PyData}, pyL ds = some ps → spL ps = true → (ps.any fun z => PyData.eqv z p) = decide (x ∈ ds)
  | [], ps, g, _ => by cases g; simp
  | d :: ds, ps, g, s => by
    rw [pyL] at g
    obtain ⟨q, e1, g⟩ := Option.bind_eq_some_iff.mp g
    obtain ⟨qs, e2, g⟩ := Option.bind_eq_some_iff.mp g
    cases g
    rw [spL, Bool.and_eq_true] at s
    rw [List.any_cons, any_pd (n := n) h1 h2 e2 s.2, Bool.eq_iff_iff, Bool.or_eq_true, eqv_pd (n := n) (m := n) e1 s.1 h1 h2, decide_eq_true_eq, decide_eq_true_eq, List.mem_cons]
    exact or_congr eq_comm Iff.rfl
open Classical in
theorem fIn_lst {n m : Nat} {x : D} {ds : List D} (neg : Bool) (hx : Pd n x) (hy : ∀ d ∈ ds, Pd m d) (hn : n ≤ 60) : fInG neg x (.lst ds) = some0 (.bl (if neg then decide (x ∉ ds) else decide (x ∈ ds))) := by
  obtain ⟨p, h1, h2, h3⟩ := hx
  obtain ⟨ps, g1, g2, g3⟩ := PdL.of hy
  have : fInG neg x (.lst ds) = (py x).bind fun p => (pyL ds).bind fun ps => if p.depth ≤ 60 then some0 (.bl (if neg then !ps.any fun z => PyData.eqv z p else ps.any fun z => PyData.eqv z p)) else none := by
    unfold fInG
    cases x <;> rfl
  rw [this, h1, g1]
  show (if p.depth ≤ 60 then _ else _) = _
  rw [if_pos (by omega), any_pd (n := n) h1 h2 g1 g2]
  cases neg <;> simp
open Classical in
theorem fIn_tup {n m : Nat} {x : D} {ds : List D} (neg : Bool) (hx : Pd n x) (hy : ∀ d ∈ ds, Pd m d) (hn : n ≤ 60) : fInG neg x (.tup ds) = some0 (.bl (if neg then decide (x ∉ ds) else decide (x ∈ ds))) := by
  obtain ⟨p, h1, h2, h3⟩ := hx
  obtain ⟨ps, g1, g2, g3⟩ := PdL.of hy
  have : fInG neg x (.tup ds) = (py x).bind fun p => (pyL ds).bind fun ps => if p.depth ≤ 60 then some0 (.bl (if neg then !ps.any fun z => PyData.eqv z p else ps.any fun z => PyData.eqv z p)) else none := by
    unfold fInG
    cases x <;> rfl
  rw [this, h1, g1]
  show (if p.depth ≤ 60 then _ else _) = _
  rw [if_pos (by omega), any_pd (n := n) h1 h2 g1 g2]
  cases neg <;> simp
theorem fIn_sign {c : Nat} {z : Str} (neg : Bool) : fInG neg (.str ⟨#[c]⟩) (.str z) = some0 (.bl (if neg then !decide (c ∈ z.cps.toList) else decide (c ∈ z.cps.toList))) := rfl
theorem fLe_int (i j : Int) : fLe (.int i) (.int j) = some0 (.bl (decide (i ≤ j))) := by
  show some0 (.bl (!PySem.W.dataLt (.int j) (.int i))) = _
  rw [PySem.W.dataLt_int, ← decide_not]
  congr 2
  exact decide_eq_decide.mpr Int.not_lt
theorem fLt_int (i j : Int) : fLt (.int i) (.int j) = some0 (.bl (decide (i < j))) := by
  show some0 (.bl (PySem.W.dataLt (.int i) (.int j))) = _
  rw [PySem.W.dataLt_int]
theorem fLt_str (i j : Str) : fLt (.str i) (.str j) = some0 (.bl (decide (i.cps.toList < j.cps.toList))) := by
  show some0 (.bl (PySem.W.dataLt (.str i) (.str j))) = _
  rw [PySem.W.dataLt_str]
end Sx
set_option Elab.async false
set_option linter.all false
set_option maxRecDepth 100000
set_option maxHeartbeats 4000000
set_option autoImplicit false
namespace Sx
open PySem L2
/-! ### runs that draw nothing -/
theorem rLcL_pure {t : Tg} {rt : RunT} {re : Run} {vs : List Nat} {e0 : En} (p : D → Bool) (y : D → D) : ∀ (ds : List D) (acc : List D),
    (∀ d ∈ ds, ∃ e2 e3, t d e0 = some e2 ∧ rt e2 = .ret (p d, e3) ∧ (p d = false → wip e3 vs = e0) ∧ (p d = true → ∃ o e4, re e3 = .ret (o, e4) ∧ valO o = some (y d) ∧ wip e4 vs = e0)) →
    rLcL t rt re vs ds e0 acc = .ret (acc ++ (ds.filter p).map y, e0)
  | [], acc, _ => by simp [rLcL]
  | d :: ds, acc, h => by
    obtain ⟨e2, e3, h1, h2, h3, h4⟩ := h d List.mem_cons_self
    have ih := fun acc => rLcL_pure (t := t) (rt := rt) (re := re) (vs := vs) (e0 := e0) p y ds acc fun d hd => h d (List.mem_cons_of_mem _ hd)
    rw [rLcL, h1]
    show (rt e2).bind _ = _
    rw [h2]
    cases hp : p d with
    | false =>
      show rLcL t rt re vs ds (wip e3 vs) acc = _
      rw [h3 hp, ih, List.filter_cons, hp]
      rfl
    | true =>
      obtain ⟨o, e4, g1, g2, g3⟩ := h4 hp
      show (re e3).bind _ = _
      rw [g1]
      show (T.ofOpt (valO o)).bind _ = _
      rw [g2]
      show rLcL t rt re vs ds (wip e4 vs) (acc ++ [y d]) = _
      rw [g3, ih, List.filter_cons, hp]
      simp
theorem rLc_pure {ri : RunI} {l : Option Nat} {t : Tg} {rt : RunT} {re : Run} {vs : List Nat} {en en1 : En} {ds : List D} (p : D → Bool) (y : D → D) (hi : ri en = .ret (ds, en1)) (hl : ds.length ≤ 4096)
    (h : ∀ d ∈ ds, ∃ e2 e3, t d (wip en1 vs) = some e2 ∧ rt e2 = .ret (p d, e3) ∧ (p d = false → wip e3 vs = wip en1 vs) ∧ (p d = true → ∃ o e4, re e3 = .ret (o, e4) ∧ valO o = some (y d) ∧ wip e4 vs = wip en1 vs)) :
    rLc ri l t rt re vs en = .ret (.fr (.lst ((ds.filter p).map y)), unl l (back (wip en1 vs) en1 vs)) := by
  unfold rLc
  rw [hi]
  show (if ds.length ≤ 4096 then _ else _) = _
  rw [if_pos hl, rLcL_pure p y ds [] h]
  rfl
theorem rLcL_map {α : Type} {g : α → D} {t : Tg} {rt : RunT} {re : Run} {vs : List Nat} {e0 : En} (p : α → Bool) (y : α → D) : ∀ (xs : List α) (acc : List D),
    (∀ d ∈ xs, ∃ e2 e3, t (g d) e0 = some e2 ∧ rt e2 = .ret (p d, e3) ∧ (p d = false → wip e3 vs = e0) ∧ (p d = true → ∃ o e4, re e3 = .ret (o, e4) ∧ valO o = some (y d) ∧ wip e4 vs = e0)) →
    rLcL t rt re vs (xs.map g) e0 acc = .ret (acc ++ (xs.filter p).map y, e0)
  | [], acc, _ => by simp [rLcL]
  | d :: ds, acc, h => by
    obtain ⟨e2, e3, h1, h2, h3, h4⟩ := h d List.mem_cons_self
    have ih := fun acc => rLcL_map (g := g) (t := t) (rt := rt) (re := re) (vs := vs) (e0 := e0) p y ds acc fun d hd => h d (List.mem_cons_of_mem _ hd)
    rw [List.map_cons, rLcL, h1]
    show (rt e2).bind _ = _
    rw [h2]
    cases hp : p d with
    | false =>
      show rLcL t rt re vs (ds.map g) (wip e3 vs) acc = _
      rw [h3 hp, ih, List.filter_cons, hp]
      rfl
    | true =>
      obtain ⟨o, e4, g1, g2, g3⟩ := h4 hp
      show (re e3).bind _ = _
      rw [g1]
      show (T.ofOpt (valO o)).bind _ = _
      rw [g2]
      show rLcL t rt re vs (ds.map g) (wip e4 vs) (acc ++ [y d]) = _
      rw [g3, ih, List.filter_cons, hp]
      simp
theorem rLc_map {α : Type} {g : α → D} {ri : RunI} {l : Option Nat} {t : Tg} {rt : RunT} {re : Run} {vs : List Nat} {en en1 : En} {xs : List α} (p : α → Bool) (y : α → D) (hi : ri en = .ret (xs.map g, en1)) (hl : xs.length ≤ 4096)
    (h : ∀ d ∈ xs, ∃ e2 e3, t (g d) (wip en1 vs) = some e2 ∧ rt e2 = .ret (p d, e3) ∧ (p d = false → wip e3 vs = wip en1 vs) ∧ (p d = true → ∃ o e4, re e3 = .ret (o, e4) ∧ valO o = some (y d) ∧ wip e4 vs = wip en1 vs)) :
    rLc ri l t rt re vs en = .ret (.fr (.lst ((xs.filter p).map y)), unl l (back (wip en1 vs) en1 vs)) := by
  unfold rLc
  rw [hi]
  show (if (xs.map g).length ≤ 4096 then _ else _) = _
  rw [if_pos (by rw [List.length_map]; exact hl), rLcL_map p y xs [] h]
  rfl
end Sx
set_option Elab.async false
set_option linter.all false
set_option maxRecDepth 100000
set_option maxHeartbeats 4000000
set_option autoImplicit false
namespace Sx
open PySem L2
/-! ### runs that draw: one step each -/
section
variable {en e1 : En} {ra rb : Run} {rs : Runs} {a b : RunS} {f : Fn} {i n : Nat}
theorem wp_fn {run : RunS} {ds : List D} {Q : Bool × D → Prop} (h : (run (en0 n ds)).wp fun r => ∃ c, flOf r.1 = some c ∧ Q c) : (runFn n run ds).wp Q :=
  (T.wp_bind _ _ _).mpr (T.wp_mono h fun r ⟨c, e, q⟩ => by rw [e]; exact q)
theorem wp_seq {Q : Fl × En → Prop} (h : (a en).wp fun r => (∃ e, r = (.nx, e) ∧ (b e).wp Q) ∨ (r.1 ≠ .nx ∧ Q r)) : (sSeq a b en).wp Q :=
  (T.wp_bind _ _ _).mpr (T.wp_mono h fun r hr => by
    rcases hr with ⟨e, rfl, q⟩ | ⟨ne, q⟩
    · exact q
    · obtain ⟨fl, e⟩ := r
      cases fl with
      | nx => exact absurd rfl ne
      | bk => exact q
      | ct => exact q
      | rt c => exact q)
theorem wp_set {Q : Fl × En → Prop} (h : (ra en).wp fun x => ∃ e, putO i x = some e ∧ Q (.nx, e)) : (sSet i ra en).wp Q :=
  (T.wp_bind _ _ _).mpr (T.wp_mono h fun r ⟨e, h1, q⟩ => by rw [h1]; exact q)
theorem wp_ret {Q : Fl × En → Prop} (h : (ra en).wp fun x => ∃ c, retO x.1 = some c ∧ Q (.rt c, x.2)) : (sRet ra en).wp Q :=
  (T.wp_bind _ _ _).mpr (T.wp_mono h fun r ⟨e, h1, q⟩ => by rw [h1]; exact q)
theorem wp_drop {Q : Fl × En → Prop} (h : (ra en).wp fun x => Q (.nx, x.2)) : (sDrop ra en).wp Q :=
  (T.wp_bind _ _ _).mpr h
theorem wp_cons {Q : List Op × En → Prop} (h : (ra en).wp fun x => (rs x.2).wp fun y => Q (x.1.fz :: y.1, y.2)) : (rCons ra rs en).wp Q :=
  (T.wp_bind _ _ _).mpr (T.wp_mono h fun r q => (T.wp_bind _ _ _).mpr q)
theorem wp_call {Q : Op × En → Prop} (h : (rs en).wp fun x => ∃ ds, onlyV x.1 = some ds ∧ (f ds).wp fun c => Q (mkO c, x.2)) : (rCall f rs en).wp Q :=
  (T.wp_bind _ _ _).mpr (T.wp_mono h fun r ⟨ds, h1, q⟩ => by
    show ((T.ofOpt (onlyV r.1)).bind _).wp Q
    rw [h1]
    show ((f ds).bind fun c => T.ret (mkO c, r.2)).wp Q
    exact (T.wp_bind (f ds) (fun c => T.ret (mkO c, r.2)) Q).mpr q)
theorem wp_disp {c : List D → Option (Bool × D)} {Q : Op × En → Prop} (h : (rs en).wp fun x => ∃ r, (onlyV x.1).bind c = some r ∧ Q (mkO r, x.2)) : (rDisp c rs en).wp Q :=
  (T.wp_bind _ _ _).mpr (T.wp_mono h fun r ⟨d, h1, q⟩ => by
    show (ret1 ((onlyV r.1).bind c) r.2).wp Q
    rw [h1]
    exact q)
theorem wp_runN {g : List D → Option (Bool × D)} {Q : Op × En → Prop} (h : (rs en).wp fun x => ∃ r, (frcs x.2 x.1).bind g = some r ∧ Q (mkO r, x.2)) : (runN rs g en).wp Q :=
  (T.wp_bind _ _ _).mpr (T.wp_mono h fun r ⟨d, h1, q⟩ => by
    show (ret1 _ r.2).wp Q
    rw [h1]
    exact q)
theorem wp_eq {α : Type} {t : T α} {x : α} {Q : α → Prop} (h : t = .ret x) (q : Q x) : t.wp Q := by rw [h]; exact q
end
end Sx
set_option Elab.async false
set_option linter.all false
set_option maxRecDepth 100000
set_option maxHeartbeats 4000000
set_option autoImplicit false
namespace Sx
open PySem L2
/-! ### a call that is lent what names own: its result is plain, and nothing of it stays -/
def flat : D → Bool
  | .non => true
  | .bl _ => true
  | .int _ => true
  | .str _ => true
  | _ => false
def rLend (f : Fn) (rs : Runs) : Run := fun en => (rs en).bind fun a => (T.ofOpt (frcs a.2 a.1)).bind fun ds => (f ds).bind fun c => if flat c.2 then .ret (.v c.2, a.2) else .fail
section
variable {W : Wd} {S P S' P' : Addr → Prop} {en : En} {σ : St} {H H' : Hp} {X : Cx} {v : V} {c : Bool × D} {d : D}
theorem flat_tin (h : flat d = true) (dv : Dv W S H v d) : Dz W S' H' v d := by
  cases dv <;> first | cases h | skip
  · exact ⟨trivial, .non⟩
  · exact ⟨trivial, .bl _⟩
  · exact ⟨trivial, .int _⟩
  · exact ⟨trivial, .str _⟩
/-- behind such a call all is as it was -/
theorem Rel.lent {S2 : Addr → Prop} (R : Rel W S P en σ H) (e : Ext S2 (Pall W H) H S' P' H') (ro : RetOk W S' P' H') :
    Ext S P H S P H' ∧ Rel W S P en σ H' := by
  have inA : ∀ a, P a → Pall W H a := fun a h => ⟨R.pd a h, fun z => R.drP.1 (z ▸ h), fun z => R.drP.2 (z ▸ h)⟩
  have hA : ∀ a, Pall W H a → H' a = H a := e.h
  refine ⟨⟨fun _ h => h, fun _ h => h, fun a h => hA a (inA a h), fun _ h => .inl h⟩, ⟨R.sp, fun a h => by obtain ⟨o, q⟩ := R.pd a h; exact ⟨o, (hA a (inA a h)).trans q⟩, fun i f d q => ?_, R.inj, R.len, ro.dr, R.drP⟩⟩
  obtain ⟨v, hv, dv, t, ow⟩ := R.slot i f d q
  refine ⟨v, hv, dv.mono (fun _ h => h) (fun a h => hA a (inA a (R.sp a h))) ?_, t, fun z => ?_⟩
  · by_cases hf : f = .fz
    · exact (t hf).mono fun a h => hA a (inA a (R.sp a h))
    · obtain ⟨p, o, ev, _, _, _, h1, h2, h3⟩ := ow hf
      subst ev
      have : H' p = H p := hA p ⟨⟨o, h3⟩, h1, h2⟩
      cases d <;> first | exact trivial | exact this
  · obtain ⟨p, o, ev, hs, hq, hl, h1, h2, h3⟩ := ow z
    exact ⟨p, o, ev, hs, hq, hl, h1, h2, (hA p ⟨⟨o, h3⟩, h1, h2⟩).trans h3⟩
/-- what is lent, and what is frozen -/
def lentS (W : Wd) (S : Addr → Prop) (H : Hp) : Addr → Prop := fun a => S a ∨ (a ≠ W.da ∧ a ≠ W.db ∧ ∃ o, H a = some o)
theorem Pend.lent {o : Op} (R : Rel W S P en σ H) (h : Pend W S σ H v o) (q : frc en o = some d) : Dz W (lentS W S H) H v d := by
  have dv := h.now R q
  have up : Tin (lentS W S H) v d := by
    cases o with
    | v d' => cases q; exact h.1.mono fun a s => .inl s
    | fr d => exact h.elim
    | b i =>
      cases e : en[i]? with
      | none => simp only [frc, e] at q; cases q
      | some s =>
        cases s with
        | none => simp only [frc, e] at q; cases q
        | some fd =>
          obtain ⟨f, d'⟩ := fd
          simp only [frc, e] at q
          cases q
          obtain ⟨v', e', dv', t, ow⟩ := R.slot i f d e
          have h' : σ[i]? = some (some v) := h
          rw [h'] at e'
          cases e'
          by_cases hf : f = .fz
          · exact (t hf).mono fun a s => .inl s
          · obtain ⟨p, o, ev, _, _, _, h1, h2, h3⟩ := ow hf
            subst ev
            have : lentS W S H p := .inr ⟨h1, h2, o, h3⟩
            cases d <;> first | exact trivial | exact this
  exact ⟨up, dv.mono (fun a s => .inl s) (fun _ _ => rfl) (by cases v <;> cases d <;> first | exact trivial | exact rfl)⟩
theorem PendL.lent (R : Rel W S P en σ H) : ∀ {vs : List V} {os : List Op} {ds : List D}, PendL W S σ H vs os → frcs en os = some ds → DvL W (lentS W S H) H vs ds
  | [], [], ds, _, q => by cases q; exact .nil
  | v :: vs, o :: os, ds, h, q => by
    obtain ⟨d, h1, q⟩ := Option.bind_eq_some_iff.mp q
    obtain ⟨ds', h2, q⟩ := Option.bind_eq_some_iff.mp q
    cases q
    have z := Pend.lent R h.1 h1
    exact .cons z.1 z.2 (PendL.lent R h.2 h2)
  | [], _ :: _, _, h, _ => h.elim
  | _ :: _, [], _, h, _ => h.elim
theorem frcs_len : ∀ {os : List Op} {ds : List D}, frcs en os = some ds → ds.length = os.length
  | [], ds, h => by cases h; rfl
  | o :: os, ds, h => by
    obtain ⟨d, e1, h⟩ := Option.bind_eq_some_iff.mp h
    obtain ⟨es, e, h⟩ := Option.bind_eq_some_iff.mp h
    cases h
    simp [frcs_len e]
theorem tv_lend {n : Nat} {f : Fn} {rs : Runs} {cls : Nat → Addr} (hcl : W.cls = cls) {Q : VK} (hn : LenR rs n) (h : TV W (rLend f rs) σ H Q) : tCall (spR W.K cls n f) [] E0 (TVs W rs) σ H Q := by
  obtain ⟨S, P, en, R, w⟩ := h
  have w := T.wp_all ((T.wp_bind _ _ _).mp w) (hn en)
  refine ⟨S, P, en, R, T.wp_mono w fun r ⟨q, len⟩ vs H1 S1 P1 e1 R1 pe => ?_⟩
  obtain ⟨ds, hds, q⟩ := T.wp_ofOpt ((T.wp_bind _ _ _).mp q)
  have dl := PendL.lent R1 pe hds
  have q := (T.wp_bind _ _ _).mp q
  rw [List.append_nil]
  refine ⟨dl.len.trans ((frcs_len hds).trans len), W, lentS W S1 H1, ds, rfl, hcl, R1.dr, fun a h => h.elim (R1.dom a) fun z => z.2.2, fun w => w.elim (fun w => R1.drP.1 (R1.sp _ w)) fun z => z.1 rfl, fun w => w.elim (fun w => R1.drP.2 (R1.sp _ w)) fun z => z.2.1 rfl, dl, T.wp_mono q fun c q v H' S' P' e ro ok => ?_⟩
  obtain ⟨e2, R2⟩ := R1.lent e ro
  cases hf : flat c.2 with
  | false =>
    rw [hf] at q
    exact q.elim
  | true =>
    rw [hf] at q
    exact q v H' S1 P1 (e1.trans e2) R2 (flat_tin hf ok.1)
end
instance {f : Fn} {rs : Runs} [g : ShRuns rs] : ShRun (rLend f rs) := ⟨fun en => all_seq (g.sh en) fun _ => all_of fun _ _ => T.all_bind (T.all_triv fun _ => by
  split
  · exact LkSub.refl _
  · trivial)⟩
section
variable {W : Wd} {X : Cx} {e : Expr} {es : List Expr} {rs : Runs} {k : Nat} {x : Str} {p pos : Pos}
theorem e_lend {f : Addr} {fd : FuncData} {ps : List Str} {n : Nat} {fn : Fn} {cls : Nat → Addr} (F : FnG X.prog X.w X.K X.mg X.base CX0 k f fd ps (spR X.K cls n fn)) (hcl : W.cls = cls) (hK : X.K = W.K) (hr : Room k X.A) (hg : NoG X.A) (hm : X.mg x = some (.ref f)) (hk : PySem.W.keepIn X.K (.ref f) = true)
    (hb : Binds X.K fd ps []) (ha : PA X (e :: es) (TVs W rs)) (hn : LenR rs n) (gl : Gl X x := by rfl) (hdb : (x == ("__debug__" : Str)) = false := by decide)
    (he : starEach (e :: es) X.env = (false, eval e X.env) :: starEach es X.env := by rfl) (hpl : (backTo pos (starEach es X.env)).any (·.1) = false := by rfl) : PE X (.Call (.Name x p) (e :: es) [] pos) (TV W (rLend fn rs)) :=
  pe_weak (pe_callG F hr hg gl hm hk hb .nil pass0 ha hdb he hpl) fun _ _ _ h => by rw [hK]; exact tv_lend hcl hn h
end
end Sx
set_option Elab.async false
set_option linter.all false
set_option maxRecDepth 100000
set_option maxHeartbeats 4000000
set_option autoImplicit false
namespace Sx
open PySem L2 PyProof.Rows
/-! ### objects of own classes, by defs that know that no repr runs -/
section
variable {X : Cx} {CX : CXT} {k : Nat} {f C p g : Addr} {fd : FuncData} {ps : List Str} {sp : Sp} {dvs : List V} {ds : List Value} {E : XK} {x m : Str} {q pos apos : Pos} {e o : Expr} {es : List Expr} {ta : TE} {t : TA}
/-- the callee, its arguments filled up -/
theorem runD {pins : List (Addr × Obj)} {σ : L2.St} {H : Hp} {s : Shared} {Q : VK} {us : List Value} {vs : List V} (F : FnG X.prog X.w X.K X.mg X.base CX k f fd ps sp) (hr : Room k X.A) (hg : NoG X.A) (hb : Binds X.K fd ps ds) (hd : Vals dvs ds) (hx : Passes CX X E)
    (I : Inv X pins σ H s) (r : Vals vs us) (h : sp (vs ++ dvs) H Q E) : wpAny (model X.prog X.w) X.A (PySem.call (.ref f) us) (EP X pins σ Q) X.xe s := by
  have r2 : Vals (vs ++ dvs) (us ++ ds) := r.append hd
  exact runG (kw := []) F hr hg hx I (hb s us I.kIn (by rw [← r2.length]; exact F.len _ _ _ _ h)) r2 h
theorem pe_methG {pl : Sem Bool} (he : PE X o ta) (c : Cls X.K C) (hm : Meth X.K C m f) (F : FnG X.prog X.w X.K X.mg X.base CX k f fd ps sp) (hr : Room k X.A) (hg : NoG X.A) (hb : Binds X.K fd ps ds) (hd : Vals dvs ds) (hx : Passes CX X E) (ha : PA X (e :: es) t)
    (h1 : starEach (e :: es) X.env = (false, eval e X.env) :: starEach es X.env := by rfl) (h2 : (backTo pos (starEach es X.env)).any (·.1) = false := by rfl)
    (h3 : eval (.Call (.Attribute o m apos) (e :: es) [] pos) X.env = (do
      let y ← eval o X.env
      standAt apos.atName
      let (z, first) ← holding [y] (getMethod y m pl)
      callWith pos z first (backTo pos (starEach (e :: es) X.env)) (backToKw pos (keywordEach [] X.env))) := by rfl) :
    PE X (.Call (.Attribute o m apos) (e :: es) [] pos) (tMeth C m sp dvs E ta t) := ⟨fun pins s σ H Q I h => by
  refine PySem.W.methodCall_KW (pl := pl) (thn (he.run pins s σ H _ I h) fun u s1 ⟨y, H1, I1, ry, a, dx, fs, ey, ea, l, w⟩ => ?_) h3
  subst ey
  cases (show u = Value.ref a from ry)
  refine getmeth_ok I1 ea c hm l (PySem.W.callWith_K (first := [.ref a]) (h₀ := X.base) I.ok.mod.kin hm.kp (thn (ha.run pos pins s1 σ H1 _ I1 w) fun us s2 ⟨vs, H2, I2, r, w2⟩ => ⟨I2.kIn, ?_⟩) h1 h2)
  exact runD (us := .ref a :: us) (vs := .ref a :: vs) F hr hg hb hd hx I2 (.cons rfl r) w2⟩
theorem pe_methG0 {pl : Sem Bool} (he : PE X o ta) (c : Cls X.K C) (hm : Meth X.K C m f) (F : FnG X.prog X.w X.K X.mg X.base CX k f fd ps sp) (hr : Room k X.A) (hg : NoG X.A) (hb : Binds X.K fd ps ds) (hd : Vals dvs ds) (hx : Passes CX X E)
    (h3 : eval (.Call (.Attribute o m apos) [] [] pos) X.env = (do
      let y ← eval o X.env
      standAt apos.atName
      let (z, first) ← holding [y] (getMethod y m pl)
      callWith pos z first (backTo pos (starEach [] X.env)) (backToKw pos (keywordEach [] X.env))) := by rfl) :
    PE X (.Call (.Attribute o m apos) [] [] pos) (tMeth C m sp dvs E ta tNil) := ⟨fun pins s σ H Q I h => by
  refine PySem.W.methodCall_KW (pl := pl) (thn (he.run pins s σ H _ I h) fun u s1 ⟨y, H1, I1, ry, a, dx, fs, ey, ea, l, w⟩ => ?_) h3
  subst ey
  cases (show u = Value.ref a from ry)
  exact getmeth_ok I1 ea c hm l (PySem.W.callWith_K0 (first := [.ref a]) I1.kIn hm.kp (runD (us := [.ref a]) (vs := [.ref a]) F hr hg hb hd hx I1 (.cons rfl .nil) w))⟩
/-- C(..) -/
theorem runMake {pins : List (Addr × Obj)} {σ : L2.St} {H : Hp} {s : Shared} {Q : VK} {us : List Value} {vs : List V} (M : Mk X.K C f) (F : FnG X.prog X.w X.K X.mg X.base CX k f fd ps sp) (hr : Room (k + 1) X.A) (hg : NoG X.A) (hb : Binds X.K fd ps ds) (hd : Vals dvs ds)
    (hx : Passes CX X E) (I : Inv X pins σ H s) (r : Vals vs us) (h : ∀ y dx, H y = none → H dx = none → dx ≠ y → sp (.ref y :: (vs ++ dvs)) (upd (upd H dx (.own y)) y (.ins C dx [])) (fun v H2 => v = .non ∧ Q (.ref y) H2) E) :
    wpAny (model X.prog X.w) X.A (PySem.call (.ref C) us) (EP X pins σ Q) X.xe s := by
  have w := h (s.heap.objs.size + 1) s.heap.objs.size (I.hok.fresh (Nat.le_succ _)) (I.hok.fresh (Nat.le_refl _)) (Nat.ne_of_lt (Nat.lt_succ_self _))
  have I2 := Inv.made (C := C) I
  have r2 : Vals (V.ref (s.heap.objs.size + 1) :: (vs ++ dvs)) (Value.ref (s.heap.objs.size + 1) :: (us ++ ds)) := .cons rfl (r.append hd)
  have hl : (Value.ref (s.heap.objs.size + 1) :: us ++ ds).length = ps.length := by
    have z := F.len _ _ _ _ w
    rw [r2.length] at z
    exact z
  refine wpAny_call (make_map (f := f) I.kIn M.makes M.init (beq_iff_eq.mp M.fn) (codeAny_mono (F.go (hr.make C us []) hg (I2.env0.make C us []) (hb _ (Value.ref (s.heap.objs.size + 1) :: us) I2.kIn hl) r2 w) fun fl s' z => ?_))
  cases fl with
  | error er => exact hx pins σ _ _ er s' I2 z
  | ok fl => cases fl with
    | ret u =>
      obtain ⟨v, H', I3, rv, ev, w3⟩ := I2.after z
      subst ev
      exact ⟨rv, ⟨V.ref (s.heap.objs.size + 1), H', I3, rfl, w3⟩⟩
    | _ => exact False.elim z
theorem pe_makeG (M : Mk X.K C f) (F : FnG X.prog X.w X.K X.mg X.base CX k f fd ps sp) (hr : Room (k + 1) X.A) (hg : NoG X.A) (gl : Gl X x) (hm : X.mg x = some (.ref C)) (hb : Binds X.K fd ps ds) (hd : Vals dvs ds) (hx : Passes CX X E)
    (ha : PA X (e :: es) t) (hdb : (x == ("__debug__" : Str)) = false := by decide) (h1 : starEach (e :: es) X.env = (false, eval e X.env) :: starEach es X.env := by rfl) (h2 : (backTo pos (starEach es X.env)).any (·.1) = false := by rfl) :
    PE X (.Call (.Name x q) (e :: es) [] pos) (tMake C sp dvs E t) := ⟨fun pins s σ H Q I h =>
  wpAny_Call_Name_kw (ld_glob I gl hm (PySem.W.callWith_K (h₀ := X.base) I.ok.mod.kin M.kp (thn (ha.run pos pins s σ H _ I h) fun us s1 ⟨vs, H1, I1, r, w⟩ => ⟨I1.kIn, runMake M F hr hg hb hd hx I1 r w⟩) h1 h2) hdb)⟩
/-- a property -/
theorem getpropG {a dx : Addr} {fs : List (Str × V)} {y : Str} {pins : List (Addr × Obj)} {σ : L2.St} {H : Hp} {s : Shared} {Q : VK} {b : Bool} {E' : Value → Shared → Prop} (I : Inv X pins σ H s) (ea : H a = some (.ins C dx fs)) (c : Cls X.K C) (hp : PropOf X.K C y p g)
    (F : FnG X.prog X.w X.K X.mg X.base CX k g fd ps sp) (hr : Room (k + 1) X.A) (hg : NoG X.A) (hb : Binds X.K fd ps ds) (hd : Vals dvs ds) (hx : Passes CX X.nox E) (h : sp (.ref a :: dvs) H Q E) :
    wpAny (model X.prog X.w) X.A (getAttr (.ref a) y b) (EP X pins σ Q) E' s := by
  obtain ⟨mA, O, _, _, _, _⟩ := ins_get I.hok ea
  obtain ⟨od, J, _⟩ := O.look
  obtain ⟨rest, hrec⟩ := hp.rec_
  have hl : ([Value.ref a] ++ ds).length = ps.length := by
    have z := F.len _ _ _ _ h
    rw [← z]
    exact congrArg Nat.succ hd.length.symm
  have hc : (PySem.W.clsIn X.K C).isSome = true := by
    obtain ⟨cd, hc, _⟩ := PySem.W.any_some c.hd
    rw [hc]
    rfl
  have pg := PySem.W.plainGet_of (c.get y)
  refine PySem.W.get_bind I.kIn J pg.1 (PySem.W.findObj_data hc hp.at_ hp.get hp.tak) pg.2 (wpAny_call (PySem.W.prop_get (s := { s with toks := s.toks + 1 }) I.kIn hrec ?_))
  refine codeAny_mono (F.go (A := X.A.in1) (vs := V.ref a :: dvs) (us := Value.ref a :: ds) hr.in1 hg (I.tok (s.toks + 1)).env0.in1 (hb _ [.ref a] (I.tok (s.toks + 1)).kIn hl) (.cons rfl hd) h) fun fl s' z => ?_
  cases fl with
  | error er => exact False.elim (hx pins σ H { s with toks := s.toks + 1 } er s' ((I.tok (s.toks + 1)).wish _) z)
  | ok fl => cases fl with
    | ret u =>
      obtain ⟨v, H', I3, rv, w3⟩ := (I.tok (s.toks + 1)).after z
      show wpAny _ _ (handedOut u) _ _ _
      rw [PySem.W.handedOut_of (handed_of rv)]
      exact wpAny_pure ⟨v, H', I3, rv, w3⟩
    | _ => exact False.elim z
theorem pe_propG {y : Str} (he : PE X e ta) (c : Cls X.K C) (hp : PropOf X.K C y p g) (F : FnG X.prog X.w X.K X.mg X.base CX k g fd ps sp) (hr : Room (k + 1) X.A) (hg : NoG X.A) (hb : Binds X.K fd ps ds) (hd : Vals dvs ds) (hx : Passes CX X.nox E)
    (hab : attributeBase e y X.env (eval e X.env) = eval e X.env := by rfl) : PE X (.Attribute e y pos) (tProp C sp dvs E ta) := ⟨fun pins s σ H Q I h => attr_of hab (thn (he.run pins s σ H _ I h) fun u s1 ⟨z, H1, I1, rz, a, dx, fs, ez, ea, w⟩ => by
  subst ez
  cases (show u = Value.ref a from rz)
  exact getpropG I1 ea c hp F hr hg hb hd hx w)⟩
/-- len(o) by an own __len__ -/
def rLenO (C : Addr) (sp : Sp) : List V → Hp → VK → Prop := fun vs H Q => ∃ a dx fs, vs = [.ref a] ∧ H a = some (.ins C dx fs) ∧ sp [.ref a] H (fun v H' => ∃ n : Nat, v = .int n ∧ n < 4611686018427387904 ∧ Q (.int n) H') E0
theorem cr_lenO (hs : PySem.W.findIn X.K (.ref C) "__len__" = some (some (.ref f))) (hf : PySem.W.isFn X.K (.ref f) = true) (F : FnG X.prog X.w X.K X.mg X.base CX0 k f fd ps sp) (hr : Room (k + 1) X.A) (hg : NoG X.A) (hb : Binds X.K fd ps []) : CallR X (.builtin "len") (rLenO C sp) := by
  intro pins s σ H xs us Q I r h
  obtain ⟨a, dx, fs, rfl, ea, w⟩ := h
  obtain ⟨u, rfl, ru⟩ := vals1 r
  cases (show u = Value.ref a from ru)
  obtain ⟨mA, O, _, _, _, _⟩ := ins_get I.hok ea
  obtain ⟨od, J, _⟩ := O.look
  obtain ⟨m, hF⟩ := I.fr
  refine PySem.W.len_K hF I.ok.mod.kin J hs hf (wpAny_call ?_)
  have hl : ([Value.ref a] ++ []).length = ps.length := (F.len _ _ _ _ w)
  refine codeAny_mono (F.go (A := X.A.in1) (vs := [V.ref a]) (us := [Value.ref a]) hr.in1 hg I.env0.in1 (hb s [.ref a] I.kIn hl) (.cons rfl .nil) w) fun fl s' z => ?_
  cases fl with
  | error er => exact z.elim
  | ok fl => cases fl with
    | ret u =>
      obtain ⟨v, H', I3, rv, n, ev, hn, w3⟩ := I.after z
      subst ev
      obtain ⟨tk, eu⟩ := (show ∃ t, u = Value.int n t from rv)
      cases eu
      exact ⟨⟨by omega, by omega⟩, .int n, H', I3.tok _, ⟨_, rfl⟩, w3⟩
    | _ => exact False.elim z
/-- x == y by an own __eq__ -/
def rEqO (C : Addr) (sp : Sp) : R2 := fun x y H Q => ∃ a dx fs, x = .ref a ∧ H a = some (.ins C dx fs) ∧ sp [.ref a, y] H (fun v H' => (∃ b, v = .bl b) ∧ Q v H') E0
end
end Sx
set_option Elab.async false
set_option linter.all false
set_option maxRecDepth 100000
set_option maxHeartbeats 4000000
set_option autoImplicit false
namespace Sx
open PySem L2 PyProof.Rows
section
variable {W : Wd} {S P S' P' : Addr → Prop} {H H' : Hp} {en : En} {σ : L2.St} {v : V} {d : D}
/-! ### fields -/
theorem DvP.get {f : Str} : ∀ {fs : List (Str × V)} {ds : List (Str × D)}, DvP W S H fs ds → (∀ d, ds.lookup f = some d → ∃ v, fs.lookup f = some v ∧ Dz W S H v d) ∧ (ds.lookup f = none → fs.lookup f = none)
  | [], _, h => by
    cases h
    exact ⟨fun d e => (by cases e), fun _ => rfl⟩
  | (k, v) :: fs, _, h => by
    cases h with
    | cons t dv r =>
      obtain ⟨h1, h2⟩ := DvP.get (f := f) r
      rw [List.lookup_cons, List.lookup_cons]
      cases hk : f == k with
      | true => exact ⟨fun d e => (by cases e; exact ⟨v, rfl, t, dv⟩), fun e => (by cases e)⟩
      | false => exact ⟨h1, h2⟩
theorem DvP.put {f : Str} {y : D} (hz : Dz W S H v y) : ∀ {fs : List (Str × V)} {ds : List (Str × D)}, DvP W S H fs ds → ds.lookup f = none → DvP W S H (putF f v fs) (ds ++ [(f, y)])
  | [], _, h, _ => by
    cases h
    exact .cons hz.1 hz.2 .nil
  | (k, x) :: fs, _, h, hn => by
    cases h with
    | cons t dv r =>
      rw [List.lookup_cons] at hn
      cases hk : f == k with
      | true => rw [hk] at hn; cases hn
      | false =>
        rw [hk] at hn
        have ne : ¬ k = f := fun e => by rw [e] at hk; simp at hk
        show DvP W S H (if k = f then _ else _) _
        rw [if_neg ne]
        exact .cons t dv (DvP.put hz r hn)
theorem DvP.len : ∀ {fs : List (Str × V)} {ds : List (Str × D)}, DvP W S H fs ds → fs.length = ds.length
  | [], _, h => by cases h; rfl
  | (k, x) :: fs, _, h => by
    cases h with
    | cons _ _ r => simp [DvP.len r]
def clsN (c0 : Nat) : D → Option (List (Str × D))
  | .obj c fs => if c = c0 then some fs else none
  | _ => none
theorem clsN_some {c0 : Nat} {fs : List (Str × D)} (h : clsN c0 d = some fs) : d = .obj c0 fs := by
  unfold clsN at h
  split at h
  · split at h
    · rename_i e; cases h; rw [e]
    · cases h
  · cases h
theorem Dv.obj_at {c0 : Nat} {fs : List (Str × D)} (h : Dv W S H v (.obj c0 fs)) : ∃ a dx fv, v = .ref a ∧ H a = some (.ins (W.cls c0) dx fv) ∧ DvP W S H fv fs := by
  cases h with
  | obj ha dp => exact ⟨_, _, _, rfl, ha, dp⟩
def fFld (c0 : Nat) (f : Str) (d : D) : Option (Bool × D) := (clsN c0 d).bind fun fs => (fs.lookup f).map fun x => (false, x)
theorem p_fld {c0 : Nat} {f : Str} (c : Cls W.K (W.cls c0)) (n : NoAttr W.K (W.cls c0) f) : Pure1 W (fun x H Q => ∃ a C dx fs v, x = .ref a ∧ H a = some (.ins C dx fs) ∧ Cls W.K C ∧ NoAttr W.K C f ∧ fs.lookup f = some v ∧ Q v H) (fFld c0 f) := by
  intro S H x d r Q hd hx h q
  obtain ⟨fs, e1, h⟩ := Option.bind_eq_some_iff.mp h
  obtain ⟨y, e2, rfl⟩ := Option.map_eq_some_iff.mp h
  cases clsN_some e1
  obtain ⟨a, dx, fv, rfl, ha, dp⟩ := hx.obj_at
  obtain ⟨v, e3, dz⟩ := (dp.get (f := f)).1 y e2
  exact ⟨a, _, dx, fv, v, rfl, ha, c, n, e3, q.old hd dz⟩
theorem e_fld {X : Cx} {c0 : Nat} {f : Str} {e : Expr} {pos : Pos} {ra : Run} (hK : X.K = W.K) (c : Cls W.K (W.cls c0)) (n : NoAttr W.K (W.cls c0) f) (ha : PE X e (TV W ra)) (hb : attributeBase e f X.env (eval e X.env) = eval e X.env := by rfl) : PE X (.Attribute e f pos) (TV W (run1 ra (fFld c0 f))) :=
  pe_weak (pe_fld ha hb) fun _ _ _ h => by rw [hK]; exact tv1 (p_fld c n) h
/-! ### methods, properties -/
def rMeth (c0 : Nat) (m : Str) (f : Fn) (ro : Run) (rs : Runs) : Run := fun en => (ro en).bind fun o => match o.1.fz with
  | .v d => if ((clsN c0 d).map fun fs => (fs.lookup m).isNone) = some true then (rs o.2).bind fun a => (T.ofOpt (onlyV a.1)).bind fun ds => (f (d :: ds)).bind fun c => .ret (mkO c, a.2) else .fail
  | _ => .fail
def rProp (c0 : Nat) (f : Fn) (ro : Run) : Run := fun en => (ro en).bind fun o => match o.1.fz with
  | .v d => if (clsN c0 d).isSome then (f [d]).bind fun c => .ret (mkO c, o.2) else .fail
  | _ => .fail
theorem tv_meth {c0 n : Nat} {m : Str} {f : Fn} {ro : Run} {rs : Runs} {cls : Nat → Addr} {Q : VK} (hcl : W.cls = cls) (hn : LenR rs n) (h : TV W (rMeth c0 m f ro rs) σ H Q) : tMeth (W.cls c0) m (spR W.K cls (n + 1) f) [] E0 (TV W ro) (TVs W rs) σ H Q := by
  obtain ⟨S, P, en, R, w⟩ := h
  refine TV.use R w fun o v H1 S1 P1 e1 R1 pe q => ?_
  generalize ho : o.1.fz = o' at pe q
  cases o' with
  | fr d => exact pe.elim
  | b i => exact q.elim
  | v d =>
    have q : (if ((clsN c0 d).map fun fs => (fs.lookup m).isNone) = some true then _ else _ : T (Op × En)).wp _ := q
    by_cases hc : ((clsN c0 d).map fun fs => (fs.lookup m).isNone) = some true
    · rw [if_pos hc] at q
      obtain ⟨fs, e2, e3⟩ := Option.map_eq_some_iff.mp hc
      cases clsN_some e2
      obtain ⟨a, dx, fv, rfl, ha, dp⟩ := pe.2.obj_at
      refine ⟨a, dx, fv, rfl, ha, (dp.get (f := m)).2 (Option.isNone_iff_eq_none.mp e3), S1, P1, o.2, R1, ?_⟩
      have q := T.wp_all ((T.wp_bind _ _ _).mp q) (hn o.2)
      refine T.wp_mono q fun r ⟨q, len⟩ vs H2 S2 P2 e4 R2 pe2 => ?_
      obtain ⟨ds, hds, q⟩ := T.wp_ofOpt ((T.wp_bind _ _ _).mp q)
      have dl := pe2.only hds
      have q := (T.wp_bind _ _ _).mp q
      have dz := R1.top e4 pe
      rw [List.append_nil]
      refine ⟨by rw [List.length_cons, dl.len, onlyV_len hds, len], W, S2, .obj c0 fs :: ds, rfl, hcl, R2.dr, R2.dom, fun w => R2.drP.1 (R2.sp _ w), fun w => R2.drP.2 (R2.sp _ w), .cons dz.1 dz.2 dl, T.wp_mono q fun c q v H' S' P' e ro ok => ?_⟩
      obtain ⟨e5, R5, ok5⟩ := R2.call e ro ok
      exact q v H' S' _ (e1.trans (e4.trans e5)) R5 ok5
    · rw [if_neg hc] at q
      exact q.elim
theorem tv_prop {c0 : Nat} {f : Fn} {ro : Run} {cls : Nat → Addr} {Q : VK} (hcl : W.cls = cls) (h : TV W (rProp c0 f ro) σ H Q) : tProp (W.cls c0) (spR W.K cls 1 f) [] E0 (TV W ro) σ H Q := by
  obtain ⟨S, P, en, R, w⟩ := h
  refine TV.use R w fun o v H1 S1 P1 e1 R1 pe q => ?_
  generalize ho : o.1.fz = o' at pe q
  cases o' with
  | fr d => exact pe.elim
  | b i => exact q.elim
  | v d =>
    have q : (if (clsN c0 d).isSome then _ else _ : T (Op × En)).wp _ := q
    by_cases hc : (clsN c0 d).isSome = true
    · rw [if_pos hc] at q
      obtain ⟨fs, e2⟩ := Option.isSome_iff_exists.mp hc
      cases clsN_some e2
      obtain ⟨a, dx, fv, rfl, ha, dp⟩ := pe.2.obj_at
      have q := (T.wp_bind _ _ _).mp q
      refine ⟨a, dx, fv, rfl, ha, rfl, W, S1, [.obj c0 fs], rfl, hcl, R1.dr, R1.dom, fun w => R1.drP.1 (R1.sp _ w), fun w => R1.drP.2 (R1.sp _ w), .cons pe.1 pe.2 .nil, T.wp_mono q fun c q v H' S' P' e ro ok => ?_⟩
      obtain ⟨e5, R5, ok5⟩ := R1.call e ro ok
      exact q v H' S' _ (e1.trans e5) R5 ok5
    · rw [if_neg hc] at q
      exact q.elim
/-! ### __init__: its statements leave all names as they are -/
abbrev RunK := En → T En
def TSt (W : Wd) (run : RunK) : TS := fun D σ H => ∃ S P en, Rel W S P en σ H ∧ (run en).wp fun e => ∀ H' S' P', Ext S P H S' P' H' → Rel W S' P' e σ H' → D.nx σ H'
def kNx : RunK := fun en => .ret en
def kSeq (a b : RunK) : RunK := fun en => (a en).bind b
/-- if t: raise .. -/
def kGd (rt : RunT) : RunK := fun en => (rt en).bind fun b => if b.1 then .fail else .ret b.2
/-- self.f = e -/
def kFld (i c0 : Nat) (f : Str) (re : Run) : RunK := fun en => (re en).bind fun o => (T.ofOpt (valO o.1)).bind fun y => match o.2[i]? with
  | some (some (.ow, d)) => (T.ofOpt (clsN c0 d)).bind fun fs => if fs.length < 900 ∧ fs.lookup f = none then .ret (o.2.set i (some (.ow, .obj c0 (fs ++ [(f, y)])))) else .fail
  | _ => .fail
variable {X : Cx}
theorem kk_nil : PSs X [] (TSt W kNx) := pss_weak pss_nil fun D σ H h => by
  obtain ⟨S, P, en, R, w⟩ := h
  exact w H S P .refl R
theorem kk_cons {st : Stmt} {sts : List Stmt} {a b : RunK} (h1 : PS X st (TSt W a)) (h2 : PSs X sts (TSt W b)) : PSs X (st :: sts) (TSt W (kSeq a b)) := pss_weak (pss_cons h1 h2) fun D σ H h => by
  obtain ⟨S, P, en, R, w⟩ := h
  refine ⟨S, P, en, R, T.wp_mono ((T.wp_bind _ _ _).mp w) fun e q H' S' P' e1 R1 => ?_⟩
  exact ⟨S', P', e, R1, T.wp_mono q fun e2 q H2 S2 P2 e3 R2 => q H2 S2 P2 (e1.trans e3) R2⟩
theorem kk_gd {c : Expr} {a : List Stmt} {pos : Pos} {rt : RunT} (hc : PT X c (TVT W rt)) : PS X (.If c a [] pos) (TSt W (kGd rt)) := ps_weak (ps_if hc pss_never pss_nil) fun D σ H h => by
  obtain ⟨S, P, en, R, w⟩ := h
  refine ⟨S, P, en, R, T.wp_mono ((T.wp_bind _ _ _).mp w) fun r q H' S' P' e R' => ?_⟩
  obtain ⟨b, e2⟩ := r
  cases b with
  | true => exact q.elim
  | false => exact q H' S' P' e R'
theorem kk_fld {i c0 : Nat} {f : Str} {x : Str} {e : Expr} {pos p1 p2 : Pos} {re : Run} (hK : X.K = W.K) (c : Cls W.K (W.cls c0)) (n : NoAttr W.K (W.cls c0) f) (hN : X.N[i]? = some x) (hx : Vis X.env.scope x) (he : PE X e (TV W re)) (hd : (x == ("__debug__" : Str)) = false := by decide) (hcd : (x == ("__classdict__" : Str)) = false := by decide)
    (hs : swapsWith e (some (.Attribute (.Name x p1) f p2)) pos.line X.env = pure false := by rfl) : PS X (.Assign [.Attribute (.Name x p1) f p2] e pos) (TSt W (kFld i c0 f re)) := ps_weak (ps_fld (pe_var (i := i) hN hx hd hcd) he hs) fun D σ H h => by
  obtain ⟨S, P, en, R, w⟩ := h
  refine ⟨S, P, en, R, T.wp_mono ((T.wp_bind _ _ _).mp w) fun o q v H1 S1 P1 e1 R1 ok => ?_⟩
  obtain ⟨y, hy, q⟩ := T.wp_ofOpt ((T.wp_bind _ _ _).mp q)
  obtain ⟨S2, P2, e2, R2, dz⟩ := ok.valz R1 hy
  cases hs : o.2[i]? with
  | none => rw [hs] at q; exact q.elim
  | some sl =>
    cases sl with
    | none => rw [hs] at q; exact q.elim
    | some fd =>
      obtain ⟨fg, d⟩ := fd
      cases fg with
      | fz => rw [hs] at q; exact q.elim
      | lk => rw [hs] at q; exact q.elim
      | ow =>
        rw [hs] at q
        obtain ⟨fs, hf, q3⟩ := T.wp_ofOpt ((T.wp_bind _ _ _).mp q)
        by_cases hc : fs.length < 900 ∧ fs.lookup f = none
        · rw [if_pos hc] at q3
          cases clsN_some hf
          obtain ⟨u, hu, du, _, ow⟩ := R2.slot i .ow _ hs
          obtain ⟨a, dx, fv, rfl, ha, dp⟩ := du.obj_at
          obtain ⟨p', _, ep, nS, _⟩ := ow (by decide)
          cases ep
          refine ⟨.ref a, hu, a, _, dx, fv, rfl, ha, by rw [hK]; exact c, by rw [hK]; exact n, by rw [dp.len]; omega, ?_⟩
          have keep : ∀ b, S2 b → upd H1 a (.ins (W.cls c0) dx (putF f v fv)) b = H1 b := fun b h => upd_ne fun e => nS (e ▸ h)
          have dp2 := DvP.put dz dp hc.2
          obtain ⟨e3, R3⟩ := R2.mut (u := .ins (W.cls c0) dx (putF f v fv)) (d' := .obj c0 (fs ++ [(f, y)])) hs hu (.obj upd_same (dp2.mono (fun _ h => h) keep))
          exact q3 _ S2 P2 (e1.trans (e2.trans e3)) R3
        · rw [if_neg hc] at q3
          exact q3.elim
def enI (N c0 : Nat) (ds : List D) : En := some (.ow, .obj c0 []) :: (ds.map (fun d => some (.fz, d)) ++ List.replicate (N - 1 - ds.length) none)
/-- the promise of an __init__ -/
def spI (K : PySem.W.Frag) (cls : Nat → Addr) (n N c0 : Nat) (run : RunK) : Sp := fun vs H Q _ => ∃ y dx ws W S ds, vs = .ref y :: ws ∧ ws.length = n ∧ W.K = K ∧ W.cls = cls ∧ DrawOk W H ∧ DomS S H ∧ ¬ S W.da ∧ ¬ S W.db ∧ DvL W S H ws ds ∧ H y = some (.ins (cls c0) dx []) ∧ ¬ S y ∧ y ≠ W.da ∧ y ≠ W.db ∧
  (run (enI N c0 ds)).wp fun e => ∀ H' S' P', Ext S (fun a => Pall W H a ∧ a ≠ y) H S' P' H' → Rel W S' P' e (some (.ref y) :: (ws.map some ++ List.replicate (N - 1 - n) none)) H' → Q .non H'
theorem enI_get {N c0 : Nat} {ds : List D} {i : Nat} {f : Fg} {d : D} (h : (enI N c0 ds)[i]? = some (some (f, d))) : (i = 0 ∧ f = .ow ∧ d = .obj c0 []) ∨ ∃ j, i = j + 1 ∧ f = .fz ∧ ds[j]? = some d := by
  cases i with
  | zero => cases h; exact .inl ⟨rfl, rfl, rfl⟩
  | succ j =>
    refine .inr ⟨j, rfl, ?_⟩
    have h : (ds.map (fun d => (some (Fg.fz, d) : Slot)) ++ List.replicate (N - 1 - ds.length) none)[j]? = some (some (f, d)) := h
    by_cases hl : j < ds.length
    · rw [List.getElem?_append_left (by simpa using hl), List.getElem?_map] at h
      cases e : ds[j]? with
      | none => rw [e] at h; cases h
      | some x => rw [e] at h; cases h; exact ⟨rfl, rfl⟩
    · rw [List.getElem?_append_right (by simpa using hl)] at h
      have := List.eq_of_mem_replicate (List.mem_of_getElem? h)
      cases this
theorem fnI_ok {Pr : Program} {w : World} {K : PySem.W.Frag} {mg : Str → Option Value} {base : Heap} {cls : Nat → Addr} {x qual : Str} {st : Stmt} {f : Addr} {fd : FuncData} {N ps : List Str} {k c0 n : Nat} {run : RunK} (F : Fun K x qual st f fd) (Sc : FnScope N ps (defScope st)) (hn : ps.length = n + 1)
    (hb : ∀ (cdv : Value) (A : Around) (outer : List PySem.Env) (s : Shared) (H : Hp) (E : XK), Room k (A.deeper (envOfC qual (defScope st) s.heap.objs.size f cdv)) → NoG (A.deeper (envOfC qual (defScope st) s.heap.objs.size f cdv)) → ∀ W : Wd, W.K = K → W.cls = cls →
      PSs (cxOf CX0 Pr w K mg base N qual (defScope st) f cdv A outer s H E).nox (defBody st) (TSt W run)) : FnG Pr w K mg base CX0 (k + 1) f fd ps (spI K cls n N.length c0 run) := by
  refine fnG_of F Sc (fun vs H Q E h => by obtain ⟨y, dx, ws, W, S, ds, rfl, hl, _⟩ := h; rw [hn, List.length_cons, hl]) fun cdv A outer s H vs Q E hr hg h => ?_
  obtain ⟨y, dx, ws, W, S, ds, rfl, hl, hK, hc, dr, dom, n1, n2, dl, hy, nS, m1, m2, wpq⟩ := h
  have len : ds.length = n := dl.len.symm.trans hl
  have st0 : L2.start N (.ref y :: ws) = some (.ref y) :: (ws.map some ++ List.replicate (N.length - 1 - n) none) := by
    unfold L2.start
    rw [List.map_cons, List.length_cons, hl]
    show some (V.ref y) :: (ws.map some ++ List.replicate (N.length - (n + 1)) none) = _
    congr 3
    omega
  refine ⟨_, (hb cdv A outer s H E hr hg W hK hc).nox, S, (fun a => Pall W H a ∧ a ≠ y), enI N.length c0 ds, ?_, ?_⟩
  · rw [st0]
    refine ⟨fun a h => ⟨⟨dom a h, fun z => n1 (z ▸ h), fun z => n2 (z ▸ h)⟩, fun z => nS (z ▸ h)⟩, fun a h => h.1.1, fun i f d e => ?_, fun i j f g d e v h1 h2 h3 h4 _ _ => ?_, ?_, dr, ⟨fun h => h.1.2.1 rfl, fun h => h.1.2.2 rfl⟩⟩
    · rcases enI_get e with ⟨rfl, rfl, rfl⟩ | ⟨j, rfl, rfl, hd⟩
      · exact ⟨.ref y, rfl, .obj (by rw [hc]; exact hy) .nil, (fun z => by cases z), fun _ => ⟨y, _, rfl, nS, fun _ h => h.2 rfl, (fun z => by cases z), m1, m2, hy⟩⟩
      · obtain ⟨v, hv, dz⟩ := (dl.at (i := j)).2 d hd
        refine ⟨v, ?_, dz.2, fun _ => dz.1, fun z => absurd rfl z⟩
        show (ws.map some ++ List.replicate (N.length - 1 - n) none)[j]? = _
        rw [List.getElem?_append_left (by simpa using lt_of_get hv), List.getElem?_map, hv]
        rfl
    · rcases enI_get h1 with ⟨rfl, _⟩ | ⟨_, _, z, _⟩
      · rcases enI_get h2 with ⟨rfl, _⟩ | ⟨_, _, z, _⟩
        · rfl
        · exact absurd z h4
      · exact absurd z h3
    · unfold enI
      simp only [List.length_cons, List.length_append, List.length_map, List.length_replicate, len, hl]
  · rw [st0]
    exact wpq
/-- a new object, handed out -/
def rMake (N c0 : Nat) (run : RunK) (rs : Runs) : Run := fun en => (rs en).bind fun a => (T.ofOpt (onlyV a.1)).bind fun ds => (run (enI N c0 ds)).bind fun (e : En) => match (e[(0 : Nat)]? : Option Slot) with
  | some (some (.ow, d)) => .ret (.fr d, a.2)
  | _ => .fail
theorem tv_make {n N c0 : Nat} {run : RunK} {rs : Runs} {cls : Nat → Addr} {Q : VK} (hcl : W.cls = cls) (hn : LenR rs n) (h : TV W (rMake N c0 run rs) σ H Q) : tMake (cls c0) (spI W.K cls n N c0 run) [] E0 (TVs W rs) σ H Q := by
  obtain ⟨S, P, en, R, w⟩ := h
  have w := T.wp_all ((T.wp_bind _ _ _).mp w) (hn en)
  refine ⟨S, P, en, R, T.wp_mono w fun r ⟨q, len⟩ vs H1 S1 P1 e1 R1 pe y dx hy hdx ne => ?_⟩
  obtain ⟨ds, hds, q⟩ := T.wp_ofOpt ((T.wp_bind _ _ _).mp q)
  have dl := pe.only hds
  have q := (T.wp_bind _ _ _).mp q
  have old : ∀ a o, H1 a = some o → upd (upd H1 dx (.own y)) y (.ins (cls c0) dx []) a = some o := fun a o e => by
    rw [upd_ne (ne_of_none e hy), upd_ne (ne_of_none e hdx)]; exact e
  have oldS : ∀ a, S1 a → upd (upd H1 dx (.own y)) y (.ins (cls c0) dx []) a = H1 a := fun a s => by
    obtain ⟨o, e⟩ := R1.dom a s
    rw [e]; exact old a o e
  have nS : ¬ S1 y := fun s => by obtain ⟨o, e⟩ := R1.dom y s; rw [hy] at e; cases e
  obtain ⟨⟨oa, ea⟩, ⟨ob, eb⟩⟩ := R1.dr.at
  have na : y ≠ W.da := fun z => by rw [z, ea] at hy; cases hy
  have nb : y ≠ W.db := fun z => by rw [z, eb] at hy; cases hy
  rw [List.append_nil]
  refine ⟨y, dx, vs, W, S1, ds, rfl, by rw [dl.len, onlyV_len hds, len], rfl, hcl, ?_, fun a s => by obtain ⟨o, e⟩ := R1.dom a s; exact ⟨o, old a o e⟩, fun w => R1.drP.1 (R1.sp _ w), fun w => R1.drP.2 (R1.sp _ w), dl.mono (fun _ h => h) oldS, upd_same, nS, na, nb, T.wp_mono q fun e q H' S' P' ex R' => ⟨rfl, ?_⟩⟩
  · obtain ⟨nd, ns, i, j, k, h1, h2, h3⟩ := R1.dr
    exact ⟨nd, ns, i, j, k, old _ _ h1, old _ _ h2, h3⟩
  · cases hs : e[0]? with
    | none => rw [hs] at q; exact q.elim
    | some sl =>
      cases sl with
      | none => rw [hs] at q; exact q.elim
      | some fd =>
        obtain ⟨fg, d⟩ := fd
        cases fg with
        | fz => rw [hs] at q; exact q.elim
        | lk => rw [hs] at q; exact q.elim
        | ow =>
          rw [hs] at q
          obtain ⟨u, hu, du, _, ow⟩ := R'.slot 0 .ow d hs
          cases hu
          obtain ⟨p', o', ep, n1, n2, _, n3, n4, n5⟩ := ow (by decide)
          cases ep
          have toP : ∀ a, Pall W H1 a → Pall W (upd (upd H1 dx (.own y)) y (.ins (cls c0) dx [])) a ∧ a ≠ y := fun a ⟨⟨o, e⟩, h1, h2⟩ => ⟨⟨⟨o, old a o e⟩, h1, h2⟩, ne_of_none e hy⟩
          have ex2 : Ext S1 (Pall W H1) H1 S' P' H' := ⟨ex.s, fun a h => ex.p a (toP a h), fun a h => (ex.h a (toP a h)).trans (by obtain ⟨⟨o, e⟩, _⟩ := h; rw [e]; exact old a o e), fun a h => (ex.n a h).imp id fun z w => z (toP a w)⟩
          obtain ⟨e5, R5, ok5⟩ := R1.call ex2 ⟨R'.sp, R'.dom, R'.dr, R'.drP⟩ (v := .ref y) (c := (true, d)) ⟨du, (fun z => by cases z), fun _ => ⟨y, o', rfl, n2 rfl, n3, n4, n5⟩⟩
          exact q _ H' S' _ (e1.trans e5) R5 ok5
end
end Sx
set_option Elab.async false
set_option linter.all false
set_option maxRecDepth 100000
set_option maxHeartbeats 4000000
set_option autoImplicit false
namespace Sx
open PySem L2 PyProof.Rows
section
variable {W : Wd} {S P S' P' : Addr → Prop} {H H' : Hp} {en : En} {σ : L2.St} {v : V} {d : D} {X : Cx} {k n c0 : Nat} {f C p g : Addr} {fd : FuncData} {ps : List Str} {fn : Fn} {cls : Nat → Addr} {x m : Str} {q pos apos : Pos} {e o : Expr} {es : List Expr} {ro ra rb : Run} {rs : Runs}
theorem e_meth {pl : Sem Bool} (F : FnG X.prog X.w X.K X.mg X.base CX0 k f fd ps (spR X.K cls (n + 1) fn)) (c : Cls X.K (cls c0)) (hm : Meth X.K (cls c0) m f) (hcl : W.cls = cls) (hK : X.K = W.K) (hr : Room k X.A) (hg : NoG X.A) (hb : Binds X.K fd ps []) (ho : PE X o (TV W ro)) (ha : PA X (e :: es) (TVs W rs)) (hn : LenR rs n)
    (h1 : starEach (e :: es) X.env = (false, eval e X.env) :: starEach es X.env := by rfl) (h2 : (backTo pos (starEach es X.env)).any (·.1) = false := by rfl)
    (h3 : eval (.Call (.Attribute o m apos) (e :: es) [] pos) X.env = (do
      let y ← eval o X.env
      standAt apos.atName
      let (z, first) ← holding [y] (getMethod y m pl)
      callWith pos z first (backTo pos (starEach (e :: es) X.env)) (backToKw pos (keywordEach [] X.env))) := by rfl) : PE X (.Call (.Attribute o m apos) (e :: es) [] pos) (TV W (rMeth c0 m fn ro rs)) := by
  subst hcl
  exact pe_weak (pe_methG (pl := pl) ho c hm F hr hg hb .nil pass0 ha h1 h2 h3) fun _ _ _ h => by rw [hK]; exact tv_meth rfl hn h
theorem e_prop {y : Str} (F : FnG X.prog X.w X.K X.mg X.base CX0 k g fd ps (spR X.K cls 1 fn)) (c : Cls X.K (cls c0)) (hp : PropOf X.K (cls c0) y p g) (hcl : W.cls = cls) (hK : X.K = W.K) (hr : Room (k + 1) X.A) (hg : NoG X.A) (hb : Binds X.K fd ps []) (ho : PE X e (TV W ro))
    (hab : attributeBase e y X.env (eval e X.env) = eval e X.env := by rfl) : PE X (.Attribute e y pos) (TV W (rProp c0 fn ro)) := by
  subst hcl
  exact pe_weak (pe_propG ho c hp F hr hg hb .nil pass0 hab) fun _ _ _ h => by rw [hK]; exact tv_prop rfl h
theorem e_make {N : Nat} {run : RunK} (M : Mk X.K (cls c0) f) (F : FnG X.prog X.w X.K X.mg X.base CX0 k f fd ps (spI X.K cls n N c0 run)) (hcl : W.cls = cls) (hK : X.K = W.K) (hr : Room (k + 1) X.A) (hg : NoG X.A) (hm : X.mg x = some (.ref (cls c0))) (hb : Binds X.K fd ps []) (ha : PA X (e :: es) (TVs W rs)) (hn : LenR rs n)
    (gl : Gl X x := by rfl) (hdb : (x == ("__debug__" : Str)) = false := by decide) (h1 : starEach (e :: es) X.env = (false, eval e X.env) :: starEach es X.env := by rfl) (h2 : (backTo pos (starEach es X.env)).any (·.1) = false := by rfl) :
    PE X (.Call (.Name x q) (e :: es) [] pos) (TV W (rMake N c0 run rs)) :=
  pe_weak (pe_makeG M F hr hg gl hm hb .nil pass0 ha hdb h1 h2) fun _ _ _ h => by rw [hK]; exact tv_make hcl hn h
instance [h : ShRun ro] [t : ShRuns rs] : ShRun (rMeth c0 m fn ro rs) := ⟨fun en => all_seq (h.sh en) fun o => by
  split
  · split
    · exact all_seq (t.sh _) fun _ => all_of fun _ _ => T.all_bind (T.all_triv fun _ => LkSub.refl _)
    · trivial
  · trivial⟩
instance [h : ShRun ro] : ShRun (rProp c0 fn ro) := ⟨fun en => all_seq (h.sh en) fun o => by
  split
  · split
    · exact T.all_bind (T.all_triv fun _ => LkSub.refl _)
    · trivial
  · trivial⟩
instance {N : Nat} {run : RunK} [t : ShRuns rs] : ShRun (rMake N c0 run rs) := ⟨fun en => all_seq (t.sh en) fun _ => all_of fun _ _ => T.all_bind (T.all_triv fun _ => by
  split
  · exact LkSub.refl _
  · trivial)⟩
/-! a class by its name, isinstance of it -/
theorem e_cl {c0 : Nat} (hm : X.mg x = some (.ref (W.cls c0))) (gl : Gl X x := by rfl) (hd : (x == ("__debug__" : Str)) = false := by decide) : PE X (.Name x pos) (TV W (rC (.cl c0))) := pe_weak (pe_glob gl hm (v := .ref (W.cls c0)) rfl hd) fun σ H Q h => by
  obtain ⟨S, P, en, R, w⟩ := h
  exact w _ H S P .refl R ⟨trivial, .cl c0⟩
def fIsC (c0 : Nat) (ds : List D) : Option (Bool × D) := match ds with
  | [.obj c _, .cl c'] => if c = c0 ∧ c' = c0 then some0 (.bl true) else none
  | _ => none
theorem p_isC (c0 : Nat) : PureN W (fun xs H Q => ∃ a dx fs, xs = [.ref a, .ref (W.cls c0)] ∧ H a = some (.ins (W.cls c0) dx fs) ∧ Q (.bl true) H) (fIsC c0) := by
  intro S H vs ds c Q hd h hf r
  unfold fIsC at hf
  split at hf
  · split at hf
    · rename_i e
      obtain ⟨rfl, rfl⟩ := e
      obtain ⟨v, u, rfl, dv, du⟩ := h.two
      cases hf
      obtain ⟨a, dx, fv, rfl, ha, dp⟩ := dv.obj_at
      cases du
      exact ⟨a, dx, fv, rfl, ha, r.bl hd⟩
    · cases hf
  · cases hf
/-! len by an own __len__ -/
def rLenOb (c0 : Nat) (f : Fn) (ro : Run) : Run := fun en => (ro en).bind fun o => match o.1.fz with
  | .v d => if (clsN c0 d).isSome then (f [d]).bind fun c => match c.2 with
      | .int i => if 0 ≤ i ∧ i < 4611686018427387904 then .ret (.v (.int i), o.2) else .fail
      | _ => .fail
    else .fail
  | _ => .fail
theorem tv_lenO {Q : VK} (hcl : W.cls = cls) (h : TV W (rLenOb c0 fn ro) σ H Q) : TVs W (rCons ro rNil) σ H fun vs H1 => rLenO (W.cls c0) (spR W.K cls 1 fn) vs H1 Q := by
  obtain ⟨S, P, en, R, w⟩ := h
  refine ⟨S, P, en, R, (T.wp_bind _ _ _).mpr (T.wp_mono ((T.wp_bind _ _ _).mp w) fun o q => ?_)⟩
  intro vs H1 S1 P1 e1 R1 pe
  obtain ⟨v, rfl⟩ : ∃ v, vs = [v] := by
    match vs, pe with
    | [v], _ => exact ⟨v, rfl⟩
  have pe : Pend W S1 σ H1 v o.1.fz := pe.1
  generalize ho : o.1.fz = o' at pe q
  cases o' with
  | fr d => exact pe.elim
  | b i => exact q.elim
  | v d =>
    have q : (if (clsN c0 d).isSome then _ else _ : T (Op × En)).wp _ := q
    by_cases hc : (clsN c0 d).isSome = true
    · rw [if_pos hc] at q
      obtain ⟨fs, e2⟩ := Option.isSome_iff_exists.mp hc
      cases clsN_some e2
      obtain ⟨a, dx, fv, rfl, ha, dp⟩ := pe.2.obj_at
      refine ⟨a, dx, fv, rfl, ha, rfl, W, S1, [.obj c0 fs], rfl, hcl, R1.dr, R1.dom, fun w => R1.drP.1 (R1.sp _ w), fun w => R1.drP.2 (R1.sp _ w), .cons pe.1 pe.2 .nil, T.wp_mono ((T.wp_bind _ _ _).mp q) fun c q v H' S' P' e ro ok => ?_⟩
      obtain ⟨e5, R5, ok5⟩ := R1.call e ro ok
      obtain ⟨fl, d⟩ := c
      cases d with
      | int i =>
        have q : (if 0 ≤ i ∧ i < 4611686018427387904 then _ else _ : T (Op × En)).wp _ := q
        by_cases hi : 0 ≤ i ∧ i < 4611686018427387904
        · rw [if_pos hi] at q
          have dv := ok.1
          cases dv
          refine ⟨i.toNat, by rw [Int.toNat_of_nonneg hi.1], by omega, ?_⟩
          rw [Int.toNat_of_nonneg hi.1]
          exact q _ H' S' _ (e1.trans e5) R5 ⟨trivial, .int i⟩
        · rw [if_neg hi] at q
          exact q.elim
      | _ => exact q.elim
    · rw [if_neg hc] at q
      exact q.elim
theorem e_lenO (hs : PySem.W.findIn X.K (.ref (cls c0)) "__len__" = some (some (.ref f))) (hf : PySem.W.isFn X.K (.ref f) = true) (F : FnG X.prog X.w X.K X.mg X.base CX0 k f fd ps (spR X.K cls 1 fn)) (hcl : W.cls = cls) (hK : X.K = W.K) (hr : Room (k + 1) X.A) (hg : NoG X.A) (hb : Binds X.K fd ps []) (hm : X.mg "len" = none) (hv : bootBuiltins "len" = some (.builtin "len"))
    (ho : PE X e (TV W ro)) (hg2 : Gl X "len" := by rfl) (he : starEach [e] X.env = (false, eval e X.env) :: starEach [] X.env := by rfl) : PE X (.Call (.Name "len" q) [e] [] pos) (TV W (rLenOb c0 fn ro)) := by
  subst hcl
  exact pe_weak (pe_callB (cr_lenO hs hf F hr hg hb) hg2 hm hv (a_cons ho a_nil he) (by decide) (by decide) he rfl) fun _ _ _ h => by rw [hK]; exact tv_lenO rfl h
instance [h : ShRun ro] : ShRun (rLenOb c0 fn ro) := ⟨fun en => all_seq (h.sh en) fun o => by
  split
  · split
    · refine T.all_bind (T.all_triv fun c => ?_)
      split
      · split
        · exact LkSub.refl _
        · trivial
      · trivial
    · trivial
  · trivial⟩
/-! == by an own __eq__ -/
def rEqI (C : Addr) (sp : Sp) : R2 := fun x y H Q => ∃ a b dx dy fs gs, x = .ref a ∧ y = .ref b ∧ H a = some (.ins C dx fs) ∧ H b = some (.ins C dy gs) ∧ sp [.ref a, .ref b] H (fun v H' => (∃ b, v = .bl b) ∧ Q v H') E0
theorem op_eqI {sp : Sp} (hs : PySem.W.findIn X.K (.ref C) "__eq__" = some (some (.ref f))) (hf : PySem.W.isFn X.K (.ref f) = true) (F : FnG X.prog X.w X.K X.mg X.base CX0 k f fd ps sp) (hr : Room k X.A) (hg : NoG X.A) (hb : Binds X.K fd ps []) : OpR X (compareOp .Eq) (rEqI C sp) := by
  intro pins s σ H x y v u Q I rx ry h
  obtain ⟨a, b, dx, dy, fs, gs, rfl, rfl, ha, hb', w⟩ := h
  cases (show v = Value.ref a from rx)
  cases (show u = Value.ref b from ry)
  obtain ⟨mA, O, _⟩ := ins_get I.hok ha
  obtain ⟨mB, O2, _⟩ := ins_get I.hok hb'
  obtain ⟨od, J, _⟩ := O.look
  obtain ⟨od2, J2, _⟩ := O2.look
  obtain ⟨m, hF⟩ := I.fr
  show wpAny (model X.prog X.w) X.A (richCompare .Eq (.ref a) (.ref b)) (EP X pins σ Q) X.xe s
  refine PySem.W.cmp_K (op := .Eq) (tb := .ref C) hr.units0 hF I.ok.mod.kin J J2.type (by simp [PySem.W.notFirst]) hs hf (wpAny_call ?_)
  have hl := F.len _ _ _ _ w
  have bd := hb s [.ref a, .ref b] I.kIn (by simpa using hl)
  refine codeAny_mono (F.go (A := X.A) (vs := [V.ref a, V.ref b]) (us := [Value.ref a, Value.ref b]) hr hg I.env0 bd (.cons rfl (.cons rfl .nil)) w) fun fl s' z => ?_
  cases fl with
  | error er => exact z.elim
  | ok fl => cases fl with
    | ret u =>
      obtain ⟨v, H', I3, rv, ⟨t, ev⟩, w3⟩ := I.after z
      subst ev
      cases (show u = Value.bool t from rv)
      exact ⟨.bl t, H', I3, rfl, w3⟩
    | _ => exact False.elim z
/-- == of two such objects, or of plain data -/
def rEqU (c0 : Nat) (f : Fn) (ra rb : Run) : Run := fun en => (ra en).bind fun a => (rb a.2).bind fun b => match a.1.fz, b.1.fz with
  | .v (.obj c fs), .v (.obj c' gs) => if c = c0 ∧ c' = c0 then (f [.obj c fs, .obj c' gs]).bind fun r => (match r.2 with
      | .bl k => .ret (.v (.bl k), b.2)
      | _ => .fail) else .fail
  | _, _ => ret1 ((frc b.2 a.1.fz).bind fun x => (frc b.2 b.1.fz).bind fun y => fEq x y) b.2
end
end Sx
set_option Elab.async false
set_option linter.all false
set_option maxRecDepth 100000
set_option maxHeartbeats 4000000
set_option autoImplicit false
namespace Sx
open PySem L2 PyProof.Rows
/-! ### dicts whose keys are texts and whole numbers -/
def keyOf : D → Option Key
  | .str s => some (.inr s)
  | .int i => some (.inl i)
  | _ => none
def kD : Key → D
  | .inl i => .int i
  | .inr s => .str s
def valD (ds : List (Key × D)) (k : Key) : Option D := (ds.find? fun kv => decide (kv.1 = k)).map (·.2)
def putD (ds : List (Key × D)) (k : Key) (d : D) : List (Key × D) := if (ds.any fun kv => decide (kv.1 = k)) = true then ds.map (fun kv => if kv.1 = k then (kv.1, d) else kv) else ds ++ [(k, d)]
section
variable {W : Wd} {S P S' P' : Addr → Prop} {H H' : Hp} {en : En} {σ : L2.St} {v : V} {d : D} {X : Cx}
theorem keyOf_v {k : Key} (h : Dv W S H v d) (e : keyOf d = some k) : v = kV k := by
  unfold keyOf at e
  split at e
  · cases e; cases h; rfl
  · cases e; cases h; rfl
  · cases e
theorem kD_dv (k : Key) : Dz W S H (kV k) (kD k) := by
  cases k with
  | inl i => exact ⟨trivial, .int i⟩
  | inr s => exact ⟨trivial, .str s⟩
theorem DvP.keys : ∀ {vs : List (Key × V)} {ds : List (Key × D)}, DvP W S H vs ds → vs.map (·.1) = ds.map (·.1)
  | [], _, h => by cases h; rfl
  | (k, x) :: vs, _, h => by
    cases h with
    | cons _ _ r => rw [List.map_cons, List.map_cons, DvP.keys r]
theorem DvP.lenK : ∀ {vs : List (Key × V)} {ds : List (Key × D)}, DvP W S H vs ds → vs.length = ds.length
  | [], _, h => by cases h; rfl
  | (k, x) :: vs, _, h => by
    cases h with
    | cons _ _ r => rw [List.length_cons, List.length_cons, DvP.lenK r]
theorem DvP.val {k : Key} : ∀ {vs : List (Key × V)} {ds : List (Key × D)}, DvP W S H vs ds → (∀ d, valD ds k = some d → ∃ v, valV vs k = some v ∧ Dz W S H v d) ∧ (valD ds k = none → valV vs k = none)
  | [], _, h => by
    cases h
    exact ⟨fun d e => (by cases e), fun _ => rfl⟩
  | (j, x) :: vs, _, h => by
    cases h with
    | @cons _ _ _ _ dd ds t dv r =>
      obtain ⟨h1, h2⟩ := DvP.val (k := k) r
      by_cases hj : j = k
      · rw [valV_pos (p := (j, x)) hj]
        have : valD ((j, dd) :: ds) k = some dd := by simp [valD, List.find?_cons, hj]
        rw [this]
        exact ⟨fun d e => (by cases e; exact ⟨x, rfl, t, dv⟩), fun e => (by cases e)⟩
      · rw [valV_neg (p := (j, x)) hj]
        have : valD ((j, dd) :: ds) k = valD ds k := by simp [valD, List.find?_cons, hj]
        rw [this]
        exact ⟨h1, h2⟩
theorem DvP.any {k : Key} {vs : List (Key × V)} {ds : List (Key × D)} (h : DvP W S H vs ds) : (vs.any fun kv => decide (kv.1 = k)) = ds.any fun kv => decide (kv.1 = k) := by
  have e1 : (vs.any fun kv => decide (kv.1 = k)) = (vs.map (·.1)).any fun j => decide (j = k) := by rw [List.any_map]; rfl
  have e2 : (ds.any fun kv => decide (kv.1 = k)) = (ds.map (·.1)).any fun j => decide (j = k) := by rw [List.any_map]; rfl
  rw [e1, e2, h.keys]
theorem DvP.mapK {k : Key} (hz : Dz W S H v d) : ∀ {vs : List (Key × V)} {ds : List (Key × D)}, DvP W S H vs ds → DvP W S H (vs.map fun kv => if kv.1 = k then (kv.1, v) else kv) (ds.map fun kv => if kv.1 = k then (kv.1, d) else kv)
  | [], _, h => by cases h; exact .nil
  | (j, x) :: vs, _, h => by
    cases h with
    | cons t dv r =>
      rw [List.map_cons, List.map_cons]
      by_cases hj : j = k
      · simp only [hj, if_true]
        exact .cons hz.1 hz.2 (DvP.mapK hz r)
      · simp only [hj, if_false]
        exact .cons t dv (DvP.mapK hz r)
theorem DvP.app {κ : Type} : ∀ {vs us : List (κ × V)} {ds es : List (κ × D)}, DvP W S H vs ds → DvP W S H us es → DvP W S H (vs ++ us) (ds ++ es)
  | _, _, _, _, .nil, g => g
  | _, _, _, _, .cons t dv r, g => .cons t dv (DvP.app r g)
theorem DvP.putK {k : Key} {vs : List (Key × V)} {ds : List (Key × D)} (hz : Dz W S H v d) (h : DvP W S H vs ds) : DvP W S H (putK vs k v) (putD ds k d) := by
  unfold L2.putK putD
  rw [h.any (k := k)]
  split
  · exact h.mapK hz
  · exact h.app (.cons hz.1 hz.2 .nil)
theorem Dv.dK_at {ds : List (Key × D)} (h : Dv W S H v (.dK ds)) : ∃ a vs, v = .ref a ∧ Rd H a (.dK vs) ∧ DvP W S H vs ds := by
  cases h with
  | dK ha dp => exact ⟨_, _, rfl, ha, dp⟩
/-! in, not in -/
def rInD (f : Bool → Bool) : R2 := fun y x H Q => ∃ a o, x = .ref a ∧ DGet H a y o ∧ Q (.bl (f o.isSome)) H
theorem op_inD (hu : X.A.units + 1 < cLine) : OpR X (compareOp .In) (rInD id) := by
  intro pins s σ H y x u v Q I ry rx h
  obtain ⟨a, o, rfl, g, q⟩ := h
  cases (show v = Value.ref a from rx)
  exact d_in hu I g ry fun s' I' => ⟨.bl o.isSome, H, I', rfl, q⟩
theorem op_ninD (hu : X.A.units + 1 < cLine) : OpR X (compareOp .NotIn) (rInD not) := by
  intro pins s σ H y x u v Q I ry rx h
  obtain ⟨a, o, rfl, g, q⟩ := h
  cases (show v = Value.ref a from rx)
  exact d_notIn hu I g ry fun s' I' => ⟨.bl (!o.isSome), H, I', rfl, q⟩
def fInDG (f : Bool → Bool) (x y : D) : Option (Bool × D) := match y with
  | .dK ds => (keyOf x).map fun k => (false, .bl (f (valD ds k).isSome))
  | _ => none
theorem p_inD (f : Bool → Bool) : Pure2 W (rInD f) (fInDG f) := by
  intro S H x y d e c Q hd hx hy h r
  unfold fInDG at h
  split at h
  · rename_i ds
    obtain ⟨k, hk, rfl⟩ := Option.map_eq_some_iff.mp h
    obtain ⟨a, vs, rfl, ha, dp⟩ := hy.dK_at
    obtain ⟨h1, h2⟩ := dp.val (k := k)
    refine ⟨a, valV vs k, rfl, .inl ⟨vs, k, ha, keyOf_v hx hk, rfl⟩, ?_⟩
    have : (valV vs k).isSome = (valD ds k).isSome := by
      cases e : valD ds k with
      | none => rw [h2 e]; rfl
      | some d => obtain ⟨v, hv, _⟩ := h1 d e; rw [hv]; rfl
    rw [this]
    exact r.bl hd
  · cases h
/-! d[k] -/
def rIxD : R2 := fun x y H Q => ∃ a v, x = .ref a ∧ DGet H a y (some v) ∧ Q v H
theorem ix_dict (hu : X.A.units + 1 < cLine) : IxR X rIxD := by
  intro value slice pins s σ H x y v u Q I rx ry h hs
  obtain ⟨a, z, rfl, g, q⟩ := h
  cases (show v = Value.ref a from rx)
  have hT := dict_typeIs I g
  unfold subscriptTail
  refine wpAny_bind ?_
  rw [getitemInPython_of_ne hT.not_modules]
  refine wpAny_bind (wpAny_specialOf hT PySem.F.slot_dict_getitem.lookup ?_)
  have fin : wpAny (model X.prog X.w) X.A (subscripted slice false (.ref a) u) (fun r s₃ => wpAny (model X.prog X.w) X.A (letTemporaryGo value (.ref a) r >>= fun _ => pure r) (EP X pins σ Q) X.xe s₃) X.xe s := by
    rw [hs]
    exact wpAny_operating (d_getItem hu I g ry fun w' s3 I3 rw' => wpAny_bind (wpAny_letTemporaryGo (wpAny_pure ⟨z, H, I3, rw', q⟩)))
  first
    | exact wpAny_pure (wpAny_bind fin)
    | exact wpAny_bind (wpAny_pure (wpAny_bind fin))
    | exact wpAny_bind fin
def fIxD (x y : D) : Option (Bool × D) := match x with
  | .dK ds => (keyOf y).bind fun k => (valD ds k).map fun d => (false, d)
  | _ => none
theorem p_ixD : Pure2 W rIxD fIxD := by
  intro S H x y d e c Q hd hx hy h r
  unfold fIxD at h
  split at h
  · obtain ⟨k, hk, h⟩ := Option.bind_eq_some_iff.mp h
    obtain ⟨z, hz, rfl⟩ := Option.map_eq_some_iff.mp h
    obtain ⟨a, vs, rfl, ha, dp⟩ := hx.dK_at
    obtain ⟨v, hv, dz⟩ := (dp.val (k := k)).1 z hz
    exact ⟨a, v, rfl, .inl ⟨vs, k, ha, keyOf_v hy hk, hv.symm⟩, r.old hd dz⟩
  · cases h
/-! len, list, tuple, sorted of a dict -/
def rLenD : List V → Hp → VK → Prop := fun xs H Q => ∃ a kvs, xs = [V.ref a] ∧ Rd H a (.dK kvs) ∧ Q (.int kvs.length) H
theorem cr_lenD : CallR X (.builtin "len") rLenD := by
  intro pins s σ H xs us Q I r h
  obtain ⟨a, kvs, rfl, ha, q⟩ := h
  obtain ⟨u, rfl, ru⟩ := vals1 r
  cases (show u = Value.ref a from ru)
  exact d_len I ha fun t s' I' => ⟨.int kvs.length, H, I', ⟨t, rfl⟩, q⟩
def fLenD (ds : List D) : Option (Bool × D) := match ds with
  | [.dK kvs] => some0 (.int kvs.length)
  | _ => none
theorem p_lenD : PureN W rLenD fLenD := by
  intro S H vs ds c Q hd h hf r
  unfold fLenD at hf
  split at hf
  · cases hf
    obtain ⟨v, rfl, dv⟩ := h.one
    obtain ⟨a, ws, rfl, ha, dp⟩ := dv.dK_at
    refine ⟨a, ws, rfl, ha, ?_⟩
    rw [dp.lenK]
    exact r.int hd
  · cases hf
theorem keysL : ∀ {vs : List (Key × V)} {ds : List (Key × D)}, DvP W S H vs ds → DvL W S H (vs.map fun kv => kV kv.1) (ds.map fun kv => kD kv.1)
  | [], _, h => by cases h; exact .nil
  | (k, x) :: vs, _, h => by
    cases h with
    | cons _ _ r =>
      have z : Dz W S H (kV k) (kD k) := kD_dv k
      exact .cons z.1 z.2 (keysL r)
def fListD (ds : List D) : Option (Bool × D) := match ds with
  | [.dK kvs] => some1 (.lst (kvs.map fun kv => kD kv.1))
  | _ => none
theorem p_listD : PureN W (fun xs H Q => ∃ (a : Addr) (kvs : List (Key × V)), xs = [.ref a] ∧ Rd H a (.dK kvs) ∧ ∀ p, H p = none → Q (.ref p) (upd H p (.lst (kvs.map fun kv => kV kv.1)))) fListD := by
  intro S H vs ds c Q hd h hf r
  unfold fListD at hf
  split at hf
  · cases hf
    obtain ⟨v, rfl, dv⟩ := h.one
    obtain ⟨a, ws, rfl, ha, dp⟩ := dv.dK_at
    exact ⟨a, ws, rfl, ha, PRes.lst hd (keysL dp) r⟩
  · cases hf
end
/-! tuple(d) -/
section
variable {prog : Program} {w : World} {A : Around} {E : Value → Shared → Prop} {s : Shared} {r d : Addr} {n : Nat} {P : Nat → Value → Prop} {OK : Heap → Prop}
theorem code_tupleD {Q₁ : Value → Shared → Prop} (K : PySem.W.KdlSrc prog w "dict" r d n P OK) (hh : A.handled = none) (hok : OK s.heap) (hn : n ≤ sizeLine)
    (h : ∀ (h' : Heap) (tk : Nat) (acc : Array Value), (∀ b o, s.heap.get? b = some o → h'.get? b = some o) → ItemsOf P acc n →
      Q₁ (.ref h'.objs.size) { s with heap := h'.push { cls := .type "tuple", data := .seq acc }, toks := tk }) :
    codeAny (model prog w) A (.call (.builtin "tuple.__new__") ⟨[.type "tuple", .ref r], []⟩) (wants Q₁ E) s := by
  refine codeAny_of_tree ?_
  show wpAny _ A.in1 (do checkBuiltinCall "tuple.__new__" ⟨[.type "tuple", .ref r], []⟩; again (.builtin "tuple.__new__" ⟨[.type "tuple", .ref r], []⟩)) _ _ s
  refine wpAny_bind (wpAny_of_eq (F.newCall_tuple_1 _) (wpAny_pure ⟨plainId_quiet F.plain_tuple_new _, codeAny_builtin F.entry_tuple_new ?_⟩))
  rw [Around.under_plainId F.plain_tuple_new _]
  have a1 := sub_tuple_self
  have a2 := init_tuple_lookup
  have a3 := madeHere_tuple
  have a4 : s.TypeIs (.ref r) "dict" := K.type _ hok
  have a5 : A.in1.handled = none := hh
  wp_walk using wpAny_typeOf a4, PySem.W.kdu_collect (A := A.in1) K a5 hok hn
  intro h' tk acc hk hacc
  show wpAny _ _ (Builtin.Tuple.tupleExact acc.toList.toArray >>= fun v => ret v) _ _ _
  unfold Builtin.Tuple.tupleExact
  refine wpAny_bind (wpAny_newObj_type ?_ (by show acc.toList.toArray.size ≤ sizeLine; simp only [Array.toArray_toList]; rw [hacc.1]; exact hn))
  refine wpAny_pure ?_
  have e : acc.toList.toArray = acc := by simp
  rw [e]
  exact h h' tk acc hk hacc
theorem call_tupleD {Q : Value → Shared → Prop} (K : PySem.W.KdlSrc prog w "dict" r d n P OK) (hh : A.handled = none) (hok : OK s.heap) (hn : n ≤ sizeLine)
    (h : ∀ (h' : Heap) (tk : Nat) (acc : Array Value), (∀ b o, s.heap.get? b = some o → h'.get? b = some o) → ItemsOf P acc n →
      Q (.ref h'.objs.size) { s with heap := h'.push { cls := .type "tuple", data := .seq acc }, toks := tk }) :
    wpAny (model prog w) A (PySem.call (.type "tuple") [.ref r]) Q E s := by
  refine callType_codes (Q₁ := fun obj s₁ => s₁.TypeIs obj "tuple" ∧ Q obj s₁) F.called_tuple (F.typeCall_tuple_1 _) F.entry_object_init
    (code_tupleD (A := A.in1) K hh hok hn fun h' tk acc hk hacc => ⟨⟨_, Heap.get?_push_size _ rfl, rfl⟩, h h' tk acc hk hacc⟩) fun obj s₁ z => ?_
  exact ⟨z.1, F.args_object_init_2 obj _, object_init_meets F.called_tuple.init.lookup F.called_tuple.made (by decide) prog w A.in1 _ s₁ ⟨z.1, rfl, z.2⟩⟩
end
section
variable {W : Wd} {S : Addr → Prop} {H : Hp} {X : Cx}
def rTupD : List V → Hp → VK → Prop := fun xs H Q => ∃ (a : Addr) (kvs : List (Key × V)), xs = [.ref a] ∧ Rd H a (.dK kvs) ∧ ∀ p, H p = none → Q (.ref p) (upd H p (.tup (kvs.map fun kv => kV kv.1)))
theorem cr_tupleD (hc : X.calm = true) : CallR X (.type "tuple") rTupD := by
  intro pins s σ H xs us Q I r q
  obtain ⟨a, kvs, rfl, hd, q⟩ := q
  obtain ⟨u, rfl, rx⟩ := vals1 r
  cases (show u = Value.ref a from rx)
  obtain ⟨z, lo, vs, rel, dd⟩ := dk_rd I.hok hd
  obtain ⟨ep, hat⟩ := dd.dictAt
  have ek : (kvs.map fun kv => kV kv.1) = vs.map fun p => kV p.1 := by
    have e := congrArg (List.map kV) rel.keys
    rw [List.map_map, List.map_map] at e
    exact e
  refine call_tupleD (PySem.W.kdl_dict (knd := mixKind X.prog X.w) (kvs := vs) (ep := ep) lo) (I.ok.hd hc) hat (by rw [← rel.length]; exact z) fun h' tk acc hk hacc => ?_
  have hv : Vals (vs.map fun p => kV p.1) acc.toList := keys_at (by rw [Array.length_toList]; exact hacc.1) fun j v e => hacc.2 j v (by rw [← Array.getElem?_toList]; exact e)
  have I1 : Inv X pins σ H { s with heap := h', toks := tk } := I.kept hk
  refine ⟨.ref h'.objs.size, upd H h'.objs.size (.tup (kvs.map fun kv => kV kv.1)), I1.laid (t' := tk) (fun b o e => Heap.get?_push_of_some _ e) (Nat.le_refl _)
    (show ObjOk X.prog X.w _ _ _ (.tup (kvs.map fun kv => kV kv.1)) from ⟨by rw [List.length_map]; exact z, acc.toList, by rw [ek]; exact hv, ?_⟩), rfl, q _ (I1.hok.fresh (Nat.le_refl _))⟩
  have := IsTup.new h' acc
  simpa using this
def fTupleD (ds : List D) : Option (Bool × D) := match ds with
  | [.dK kvs] => some0 (.tup (kvs.map fun kv => kD kv.1))
  | _ => none
theorem p_tupleD : PureN W rTupD fTupleD := by
  intro S H vs ds c Q hd h hf r
  unfold fTupleD at hf
  split at hf
  · cases hf
    obtain ⟨v, rfl, dv⟩ := h.one
    obtain ⟨a, ws, rfl, ha, dp⟩ := dv.dK_at
    exact ⟨a, ws, rfl, ha, PRes.tup hd (keysL dp) r⟩
  · cases hf
end
end Sx
set_option Elab.async false
set_option linter.all false
set_option maxRecDepth 100000
set_option maxHeartbeats 4000000
set_option autoImplicit false
namespace Sx
open PySem L2
/-! texts in order -/
def Sl (xs : List Str) : List D := xs.map D.str
def Lt (a b : Str) : Prop := a.cps.toList < b.cps.toList
/-! order -/
theorem Lt.irr (a : Str) : ¬ Lt a a := List.lt_irrefl _
theorem Lt.trans {a b c : Str} (h : Lt a b) (g : Lt b c) : Lt a c := List.lt_trans h g
theorem Lt.tri {a b : Str} (h : ¬ Lt a b) (g : ¬ Lt b a) : a = b := PySem.W.str_of_cps (List.le_antisymm (List.not_lt.mp g) (List.not_lt.mp h))
instance (a b : Str) : Decidable (Lt a b) := inferInstanceAs (Decidable (_ < _))
def leS (a b : Str) : Bool := !decide (Lt b a)
def srt (xs : List Str) : List Str := xs.mergeSort leS
theorem leS_trans (a b c : Str) (h : leS a b = true) (g : leS b c = true) : leS a c = true := by
  unfold leS at *
  simp only [Bool.not_eq_true', decide_eq_false_iff_not] at *
  intro z
  by_cases e : Lt b a
  · exact h e
  · by_cases e2 : Lt a b
    · exact g (Lt.trans z e2)
    · have := Lt.tri e e2
      subst this
      exact g z
theorem leS_total (a b : Str) : (leS a b || leS b a) = true := by
  unfold leS
  rw [Bool.or_eq_true, Bool.not_eq_true', Bool.not_eq_true', decide_eq_false_iff_not, decide_eq_false_iff_not]
  by_cases e : Lt b a
  · exact .inr fun z => Lt.irr _ (Lt.trans z e)
  · exact .inl e
theorem srt_mem {x : Str} {xs : List Str} : x ∈ srt xs ↔ x ∈ xs := List.mem_mergeSort
theorem srt_perm (xs : List Str) : (srt xs).Perm xs := List.mergeSort_perm xs leS
theorem srt_lt {xs : List Str} (h : xs.Nodup) : (srt xs).Pairwise Lt := by
  have so := List.pairwise_mergeSort (le := leS) leS_trans leS_total xs
  have nd : (srt xs).Nodup := (srt_perm xs).nodup_iff.mpr h
  refine (so.and nd).imp fun {a b} ⟨h1, h2⟩ => ?_
  unfold leS at h1
  simp only [Bool.not_eq_true', decide_eq_false_iff_not] at h1
  exact Classical.byContradiction fun z => h2 (Lt.tri z h1)
theorem lt_unique : ∀ {l m : List Str}, l.Pairwise Lt → m.Pairwise Lt → (∀ x, x ∈ l ↔ x ∈ m) → l = m
  | [], [], _, _, _ => rfl
  | [], y :: m, _, _, h => by have := (h y).mpr List.mem_cons_self; simp at this
  | x :: l, [], _, _, h => by have := (h x).mp List.mem_cons_self; simp at this
  | x :: l, y :: m, hl, hm, h => by
    obtain ⟨l1, l2⟩ := List.pairwise_cons.mp hl
    obtain ⟨m1, m2⟩ := List.pairwise_cons.mp hm
    have e : x = y := by
      rcases List.mem_cons.mp ((h x).mp List.mem_cons_self) with e | hx
      · exact e
      · rcases List.mem_cons.mp ((h y).mpr List.mem_cons_self) with e | hy
        · exact e.symm
        · exact absurd (Lt.trans (m1 x hx) (l1 y hy)) (Lt.irr _)
    subst e
    rw [lt_unique l2 m2 fun z => ⟨fun hz => ?_, fun hz => ?_⟩]
    · rcases List.mem_cons.mp ((h z).mp (List.mem_cons_of_mem _ hz)) with e | hz'
      · exact absurd (e ▸ l1 z hz) (Lt.irr _)
      · exact hz'
    · rcases List.mem_cons.mp ((h z).mpr (List.mem_cons_of_mem _ hz)) with e | hz'
      · exact absurd (e ▸ m1 z hz) (Lt.irr _)
      · exact hz'
theorem srt_of_lt {xs : List Str} (h : xs.Pairwise Lt) : srt xs = xs := by
  have nd : xs.Nodup := h.imp fun {a b} l => by rintro rfl; exact Lt.irr _ l
  exact lt_unique (srt_lt nd) h fun x => srt_mem
theorem leD_str (a b : Str) : leD (.str a) (.str b) = leS a b := by
  show (!PySem.W.dataLt (.str b) (.str a)) = _
  rw [PySem.W.dataLt_str]
  rfl
theorem pyL_Sl (xs : List Str) : pyL (Sl xs) = some (xs.map PyData.str) := by
  induction xs with
  | nil => rfl
  | cons x xs ih => show (pyL (Sl xs)).bind _ = _; rw [ih]; rfl
theorem sorted_Sl {xs : List Str} (h : xs.length ≤ 4096) : fSorted [.lst (Sl xs)] = some1 (.lst (Sl (srt xs))) := by
  have e : (Sl xs).mergeSort leD = Sl (srt xs) := by
    unfold srt Sl
    exact (List.map_mergeSort fun a _ b _ => (leD_str a b).symm).symm
  have so : sortOk (xs.map PyData.str) = true := by
    unfold sortOk pairsAll
    simp only [Bool.and_eq_true, Bool.or_eq_true, List.all_eq_true, List.mem_map]
    refine ⟨⟨?_, ?_⟩, .inr ?_⟩
    · rintro p ⟨x, _, rfl⟩; rfl
    · rintro p ⟨x, _, rfl⟩ q ⟨y, _, rfl⟩; rfl
    · rintro p ⟨x, _, rfl⟩; rfl
  unfold fSorted
  have len : (Sl xs).length ≤ 4096 := by unfold Sl; rw [List.length_map]; exact h
  simp only [pyL_Sl, Option.bind_some, so, len, decide_true, Bool.and_self, if_true, e]
end Sx
set_option Elab.async false
set_option linter.all false
set_option maxRecDepth 100000
set_option maxHeartbeats 4000000
set_option autoImplicit false
namespace Sx
open PySem L2 PyProof.Rows
section
variable {W : Wd} {S P S' P' : Addr → Prop} {H H' : Hp} {en : En} {σ : L2.St} {v : V} {d : D} {X : Cx}
/-! sorted(d) of a dict whose keys are texts -/
theorem rising_le : ∀ {ys : List Str} {p : Str}, PyProof.Rows.risingS p ys = true → (p :: ys).Pairwise fun a b => leS a b = true
  | [], p, _ => List.pairwise_singleton _ _
  | x :: r, p, h => by
    unfold PyProof.Rows.risingS at h
    rw [Bool.and_eq_true] at h
    have ih := rising_le h.2
    have px : leS p x = true := by
      have z := h.1
      have q : leS p x = !Spec.ltCps x.cps.toList p.cps.toList := PyProof.Rows.le_meets p x
      rw [q]
      exact z
    refine List.pairwise_cons.mpr ⟨fun a ha => ?_, ih⟩
    rcases List.mem_cons.mp ha with rfl | ha
    · exact px
    · exact leS_trans _ _ _ px ((List.pairwise_cons.mp ih).1 a ha)
theorem sorted_one {ys ks : List Str} (hp : ys.Perm ks) (hs : PyProof.Rows.sortedS ys = true) : ys = srt ks := by
  have p1 : ys.Pairwise fun a b => leS a b = true := by
    cases ys with
    | nil => exact .nil
    | cons y ys => exact rising_le hs
  have p2 : (srt ks).Pairwise fun a b => leS a b = true := List.pairwise_mergeSort (le := leS) leS_trans leS_total ks
  exact List.Perm.eq_of_pairwise (fun a b _ _ h1 h2 => by
    unfold leS at h1 h2
    simp only [Bool.not_eq_true', decide_eq_false_iff_not] at h1 h2
    exact (Lt.tri h2 h1)) p1 p2 (hp.trans (srt_perm ks).symm)
def strKs : List (Key × D) → Option (List Str)
  | [] => some []
  | (.inr x, _) :: r => (strKs r).bind fun ks => some (x :: ks)
  | _ => none
theorem strKs_keys : ∀ {ds : List (Key × D)} {ks : List Str}, strKs ds = some ks → ds.map (·.1) = ks.map Sum.inr
  | [], ks, h => by cases h; rfl
  | (.inr x, _) :: r, ks, h => by
    obtain ⟨js, h1, h2⟩ := Option.bind_eq_some_iff.mp h
    cases h2
    rw [List.map_cons, List.map_cons, strKs_keys h1]
  | (.inl i, _) :: r, ks, h => by cases h
def rSortD : List V → Hp → VK → Prop := fun xs H Q => ∃ (a : Addr) (kvs : List (Key × V)) (ks : List Str), xs = [.ref a] ∧ Rd H a (.dK kvs) ∧ kvs.map (·.1) = ks.map Sum.inr ∧ ks.length < 64 ∧
    ∀ ys p, ys.Perm ks → PyProof.Rows.sortedS ys = true → H p = none → Q (.ref p) (upd H p (.lst (ys.map V.str)))
def fSortedD (ds : List D) : Option (Bool × D) := match ds with
  | [.dK kvs] => (strKs kvs).bind fun ks => if ks.length < 64 then some1 (.lst (Sl (srt ks))) else none
  | _ => none
theorem strL_dv : ∀ xs : List Str, DvL W S H (xs.map V.str) (Sl xs)
  | [] => .nil
  | x :: xs => .cons trivial (.str x) (strL_dv xs)
theorem p_sortD : PureN W rSortD fSortedD := by
  intro S H vs ds c Q hd h hf r
  unfold fSortedD at hf
  split at hf
  · obtain ⟨ks, hk, hf⟩ := Option.bind_eq_some_iff.mp hf
    split at hf
    · rename_i hl
      cases hf
      obtain ⟨v, rfl, dv⟩ := h.one
      obtain ⟨a, ws, rfl, ha, dp⟩ := dv.dK_at
      refine ⟨a, ws, ks, rfl, ha, dp.keys.trans (strKs_keys hk), hl, fun ys p hp hs hn => ?_⟩
      rw [sorted_one hp hs]
      exact PRes.lst hd (strL_dv _) r p hn
    · cases hf
  · cases hf
/-! ### displays of dicts -/
def prRuns : List (Run × Run) → Runs
  | [] => rNil
  | (k, v) :: r => rCons k (rCons v (prRuns r))
def unfl {α : Type} : List α → List (α × α)
  | a :: b :: r => (a, b) :: unfl r
  | _ => []
theorem tv_pairs : ∀ (l : List (Run × Run)) {σ : L2.St} {H : Hp} {Q : List (V × V) → Hp → Prop}, TVs W (prRuns l) σ H (fun vs H' => Q (unfl vs) H') → tPairs (l.map fun p => (TV W p.1, TV W p.2)) σ H Q
  | [], σ, H, Q, h => tvs_nil (Q := fun vs H' => Q (unfl vs) H') h
  | (k, v) :: r, σ, H, Q, h => by
    have h1 := tvs_cons h
    show TV W k σ H fun x H1 => TV W v σ H1 fun y H2 => tPairs _ σ H2 fun ps H3 => Q ((x, y) :: ps) H3
    obtain ⟨S, P, en, R, w⟩ := h1
    refine ⟨S, P, en, R, T.wp_mono w fun a q x H1 S1 P1 e1 R1 ok => ?_⟩
    have q := tvs_cons (Q := fun vs H3 => Q (unfl (x :: vs)) H3) (q x H1 S1 P1 e1 R1 ok)
    obtain ⟨S, P, en, R, w⟩ := q
    refine ⟨S, P, en, R, T.wp_mono w fun b q y H2 S2 P2 e2 R2 ok2 => ?_⟩
    exact tv_pairs r (Q := fun ps H3 => Q ((x, y) :: ps) H3) (q y H2 S2 P2 e2 R2 ok2)
def keysOf : List D → Option (List (Key × D))
  | [] => some []
  | a :: b :: r => (keyOf a).bind fun k => (keysOf r).bind fun ks => some ((k, b) :: ks)
  | _ => none
def mergeD (kvs more : List (Key × D)) : List (Key × D) := more.foldl (fun acc kv => putD acc kv.1 kv.2) kvs
def mkDK (ds : List D) : Option (Bool × D) := (keysOf ds).bind fun ks => if ks.length ≤ 15 then some (true, .dK (mergeD [] ks)) else none
theorem keysOf_dv : ∀ {ds : List D} {vs : List V} {ks : List (Key × D)}, DvL W S H vs ds → keysOf ds = some ks → ∃ kvs : List (Key × V), unfl vs = kvs.map (fun kv => (kV kv.1, kv.2)) ∧ DvP W S H kvs ks ∧ kvs.length = ks.length
  | [], vs, ks, h, e => by
    cases e
    cases h
    exact ⟨[], rfl, .nil, rfl⟩
  | [a], vs, ks, h, e => by cases e
  | a :: b :: r, vs, ks, h, e => by
    obtain ⟨k, hk, e⟩ := Option.bind_eq_some_iff.mp e
    obtain ⟨js, hj, e⟩ := Option.bind_eq_some_iff.mp e
    cases e
    cases h with
    | cons t1 d1 h => cases h with
      | cons t2 d2 h =>
        obtain ⟨kvs, e1, e2, e3⟩ := keysOf_dv h hj
        have := keyOf_v d1 hk
        subst this
        exact ⟨(k, _) :: kvs, by show _ :: unfl _ = _; rw [e1]; rfl, .cons t2 d2 e2, by simp [e3]⟩
theorem merge_dv : ∀ {kvs acc : List (Key × V)} {ks acd : List (Key × D)}, DvP W S H acc acd → DvP W S H kvs ks → DvP W S H (mergeK acc kvs) (mergeD acd ks)
  | [], acc, _, acd, h, g => by cases g; exact h
  | (k, v) :: kvs, acc, _, acd, h, g => by
    cases g with
    | @cons _ _ _ _ d ds t dv r =>
      show DvP W S H (mergeK (putK acc k v) kvs) (mergeD (putD acd k d) ds)
      exact merge_dv (DvP.putK ⟨t, dv⟩ h) r
/-- a new object, guarded while other things are made -/
theorem Rel.born {p : Addr} {u : HO} (R : Rel W S P en σ H) (hp : H p = none) : Rel W S P en σ (upd H p u) ∧ Free W P en σ p ∧ Ext S P H S P (upd H p u) ∧ ¬ S p ∧ ¬ P p := by
  have nP : ¬ P p := fun h => by obtain ⟨o, e⟩ := R.pd p h; rw [hp] at e; cases e
  have dd : p ≠ W.da ∧ p ≠ W.db := by
    obtain ⟨ne, ns, i, j, k, h1, h2, h3⟩ := R.dr
    exact ⟨fun z => (by rw [← z, hp] at h1; cases h1), fun z => (by rw [← z, hp] at h2; cases h2)⟩
  obtain ⟨e0, R0⟩ := R.same (upd_keeps (u := u) hp) (fun _ h => h) (fun _ h => .inl h) (fun a h => by obtain ⟨o, e⟩ := R.dom a h; exact ⟨o, upd_keeps hp a o e⟩)
  have eq : (fun a => P a ∨ S a) = P := by funext a; exact propext ⟨fun h => h.elim id (R.sp a), .inl⟩
  rw [eq] at R0 e0
  refine ⟨R0, ⟨nP, dd.1, dd.2, fun i f d e nf hv => ?_⟩, e0, fun h => nP (R.sp p h), nP⟩
  obtain ⟨v, hv', _, _, ow⟩ := R.slot i f d e
  obtain ⟨q, o, ev, _, _, _, _, _, h3⟩ := ow nf
  rw [hv'] at hv
  cases hv
  cases ev
  rw [hp] at h3; cases h3
def rDsp (l : List (Run × Run)) : Run := rDisp mkDK (prRuns l)
theorem tv_disp {Q : VK} (l : List (Run × Run)) (hs : ∀ en, (prRuns l en).all fun a => LkSub a.2 en) (h : TV W (rDsp l) σ H Q) : tDisp (l.map fun p => (TV W p.1, TV W p.2)) σ H Q := by
  intro p hp
  obtain ⟨S, P, en, R, w⟩ := h
  obtain ⟨R0, fD, e0, nS, nP⟩ := R.born (u := .dK []) hp
  have Rg := R0.guard fD upd_same
  have w := T.wp_all ((T.wp_bind _ _ _).mp w) (hs en)
  refine tv_pairs l ⟨S, _, en, Rg, T.wp_mono w fun a ⟨q, sb⟩ vs H2 S2 P2 e2 R2 pe => ?_⟩
  have hD : H2 p = some (.dK []) := (e2.h p (.inr rfl)).trans upd_same
  have pD : P2 p := e2.p p (.inr rfl)
  have nS2 : ¬ S2 p := fun h => (e2.n p h).elim nS fun z => z (.inr rfl)
  obtain ⟨c, ec, q⟩ := wp_ret1 q
  obtain ⟨ds, hds, ec⟩ := Option.bind_eq_some_iff.mp ec
  obtain ⟨ks, hk, ec⟩ := Option.bind_eq_some_iff.mp ec
  split at ec
  · rename_i hl
    cases ec
    obtain ⟨kvs, e3, dp, len⟩ := keysOf_dv (pe.only hds) hk
    have lk : ∀ (j : Nat) (d' : D), a.2[j]? = some (some (.lk, d')) → σ[j]? ≠ some (some (.ref p)) := fun j d' e => by
      obtain ⟨d2, e'⟩ := sb j d' e
      exact fD.2.2.2 j .lk d2 e' (by decide)
    obtain ⟨R6, f6⟩ := R2.turn (u := .dK (mergeK [] kvs)) pD nS2 lk
    have keep : ∀ b, S2 b → upd H2 p (.dK (mergeK [] kvs)) b = H2 b := fun b h => upd_ne fun e => nS2 (e ▸ h)
    refine ⟨hD, kvs, e3, by rw [len]; exact hl, q (.ref p) _ S2 _ ⟨fun b h => e2.s b h, fun b h => ⟨e2.p b (.inl h), fun e => nP (e ▸ h)⟩, fun b h => ?_, fun b h => (e2.n b h).imp id fun z w => z (.inl w)⟩ R6 ⟨.dK (.inl upd_same) ((merge_dv .nil dp).mono (fun _ h => h) keep), p, _, rfl, f6, upd_same⟩⟩
    have nb : b ≠ p := fun e => nP (e ▸ h)
    rw [upd_ne nb, e2.h b (.inl h), upd_ne nb]
  · cases ec
end
end Sx
set_option Elab.async false
set_option linter.all false
set_option maxRecDepth 100000
set_option maxHeartbeats 4000000
set_option autoImplicit false
namespace Sx
open PySem L2
/-! ### dict comprehensions -/
def rDcL (t : Tg) (rt : RunT) (rk re : Run) (vs : List Nat) : List D → En → List (Key × D) → T (List (Key × D) × En)
  | [], en, acc => .ret (acc, en)
  | d :: ds, en, acc => (T.ofOpt (t d en)).bind fun en1 => (rt en1).bind fun b => if b.1 then (rk b.2).bind fun k => (T.ofOpt ((valO k.1).bind keyOf)).bind fun kk => (re k.2).bind fun o => (T.ofOpt (valO o.1)).bind fun y => rDcL t rt rk re vs ds (wip o.2 vs) (putD acc kk y) else rDcL t rt rk re vs ds (wip b.2 vs) acc
def rDc (ri : RunI) (l : Option Nat) (t : Tg) (rt : RunT) (rk re : Run) (vs : List Nat) : Run := fun en => (ri en).bind fun a => if a.1.length ≤ 4096 then (rDcL t rt rk re vs a.1 (wip a.2 vs) []).bind fun r => .ret (.fr (.dK r.1), unl l (back r.2 a.2 vs)) else .fail
theorem putK_len {α : Type} [DecidableEq α] (acc : List (α × V)) (k : α) (v : V) : (putK acc k v).length ≤ acc.length + 1 := by
  unfold putK
  split
  · rw [List.length_map]; omega
  · rw [List.length_append]; exact Nat.le_refl _
section
variable {W : Wd} {X : Cx} {pos : Pos} {ri : RunI} {l : Option Nat} {g : TG} {t : Tg} {is : List Nat} {rt : RunT} {rk re : Run}
theorem tv_dc {vs : List Nat} (gk : GOk W g t is) (sg : ShG t is) (his : ∀ i ∈ is, i ∈ vs) (ht : ShT rt) (hkk : ShR rk) (he : ShR re) (hsz : (4096 : Nat) < sizeLine) {σ : St} {H : Hp} {Q : VK} (h : TV W (rDc ri l t rt rk re vs) σ H Q) :
    tDc (TVI W ri l) g (TVT W rt) (TV W rk) (TV W re) vs σ H Q := by
  obtain ⟨S, P, en, R, w⟩ := h
  have w := (T.wp_bind _ _ _).mp w
  refine ⟨S, P, en, R, T.wp_mono w fun r q J H1 S1 P1 Pw e1 R1 hPw hun _ wk => ?_⟩
  intro Da hD
  have q : (if r.1.length ≤ 4096 then (rDcL t rt rk re vs r.1 (wip r.2 vs) []).bind fun r' => T.ret (Op.fr (.dK r'.1), unl l (back r'.2 r.2 vs)) else T.fail).wp _ := q
  split at q
  case isFalse => exact q.elim
  rename_i hlen
  have q := (T.wp_bind _ _ _).mp q
  have pwd : ∀ a, Pw a → a ≠ Da := fun a h z => by obtain ⟨o, e⟩ := R1.pd a h; rw [z, hD] at e; cases e
  have dd1 : Da ≠ W.da ∧ Da ≠ W.db := by
    obtain ⟨ne, ns, i, j, k, h1, h2, h3⟩ := R1.dr
    exact ⟨fun z => (by rw [← z, hD] at h1; cases h1), fun z => (by rw [← z, hD] at h2; cases h2)⟩
  -- the start
  have e0 : Ext S1 Pw H1 S1 Pw (upd H1 Da (.dK [])) := ⟨fun _ h => h, fun _ h => h, fun a h => upd_ne (pwd a h), fun _ h => .inl h⟩
  have R0 : Rel W S1 Pw (wip r.2 vs) (wipe σ vs) (upd H1 Da (.dK [])) ∧ Free W Pw (wip r.2 vs) (wipe σ vs) Da := by
    obtain ⟨_, R0⟩ := (R1.wipe0 vs).same (upd_keeps (u := .dK []) hD) (fun _ h => h) (fun _ h => .inl h) (fun a h => by obtain ⟨o, e⟩ := R1.dom a h; exact ⟨o, upd_keeps hD a o e⟩)
    have R0' : Rel W S1 Pw (wip r.2 vs) (wipe σ vs) (upd H1 Da (.dK [])) := by
      have eq : (fun a => Pw a ∨ S1 a) = Pw := by funext a; exact propext ⟨fun h => h.elim id (R1.sp a), .inl⟩
      rw [eq] at R0; exact R0
    refine ⟨R0', fun h => pwd Da h rfl, dd1.1, dd1.2, fun i f d e nf hv => ?_⟩
    obtain ⟨v, hv', _, _, ow⟩ := (R1.wipe0 vs).slot i f d e
    obtain ⟨q, o, ev, _, _, _, _, _, h3⟩ := ow nf
    rw [hv'] at hv
    cases hv
    cases ev
    rw [hD] at h3; cases h3
  refine ⟨fun i m H2 => i ≤ r.1.length ∧ m = r.1.length - i ∧ ∃ S2 P2 en2 acc accD, Ext S1 Pw H1 S2 P2 H2 ∧ Rel W S2 P2 en2 (wipe σ vs) H2 ∧ ¬ S2 Da ∧ Free W P2 en2 (wipe σ vs) Da ∧ H2 Da = some (.dK acc) ∧ DvP W S2 H2 acc accD ∧ acc.length ≤ i ∧
    (rDcL t rt rk re vs (r.1.drop i) en2 accD).wp fun r' => ∀ v H' S' P', Ext S P H S' P' H' → Rel W S' P' (unl l (Sx.back r'.2 r.2 vs)) σ H' → OpOk W S' P' (unl l (Sx.back r'.2 r.2 vs)) σ H' v (.fr (.dK r'.1)) → Q v H',
    ⟨_, Nat.zero_le _, rfl, S1, Pw, wip r.2 vs, [], [], e0, R0.1, fun h => pwd Da (R1.sp Da h) rfl, R0.2, upd_same, .nil, Nat.zero_le _, q⟩, ?_⟩
  rintro i m H2 ⟨hi, rfl, S2, P2, en2, acc, accD, e2, R2, nS, fD, hD2, dl, hacc, w2⟩
  by_cases hlt : i < r.1.length
  case neg =>
    have ei : i = r.1.length := by omega
    subst ei
    rw [List.drop_length] at w2
    refine .inl ⟨wk.stop _ H2 (fun a h => e2.h a h) (Nat.le_refl _), ?_⟩
    obtain ⟨P3, hP3, e3, R3⟩ := hun S2 P2 (Sx.back en2 r.2 vs) σ H2 (.inr rfl) e2 (R1.back e2 R2)
    refine w2 (.ref Da) H2 S2 P3 (e1.trans e3) R3 ⟨.dK (.inl hD2) dl, Da, _, rfl, ⟨fun h => fD.1 (hP3 Da h), dd1.1, dd1.2, fun j f d e nf hv => ?_⟩, hD2⟩
    obtain ⟨g', d', e', nf'⟩ := unl_nf e nf
    rcases back_get e' with ⟨_, rfl, _⟩ | ⟨hj, q1⟩
    · exact absurd rfl nf'
    · rw [← wipe_at hj] at hv
      exact fD.2.2.2 j g' d' q1 nf' hv
  refine .inr ⟨wk.go i H2 (fun a h => e2.h a h) hlt, fun H3 => ∃ S2 P2 en2 acc accD, Ext S1 Pw H1 S2 P2 H3 ∧ Rel W S2 P2 en2 (wipe σ vs) H3 ∧ ¬ S2 Da ∧ Free W P2 en2 (wipe σ vs) Da ∧ H3 Da = some (.dK acc) ∧ DvP W S2 H3 acc accD ∧ acc.length ≤ i + 1 ∧
    (rDcL t rt rk re vs (r.1.drop (i + 1)) en2 accD).wp fun r' => ∀ v H' S' P', Ext S P H S' P' H' → Rel W S' P' (unl l (Sx.back r'.2 r.2 vs)) σ H' → OpOk W S' P' (unl l (Sx.back r'.2 r.2 vs)) σ H' v (.fr (.dK r'.1)) → Q v H',
    fun H3 z => ⟨r.1.length - (i + 1), by omega, hlt, rfl, z⟩, fun x H3 y => ?_⟩
  -- Da guarded through the turn
  have Rg := R2.guard fD hD2
  have eg : Ext S2 P2 H2 S2 (add P2 Da) H2 := ⟨fun _ h => h, fun a h => .inl h, fun _ _ => rfl, fun _ h => .inl h⟩
  obtain ⟨d, S3, P3, hd, e3, R3, dz⟩ := wk.turn Rg (fun a h => e2.s a h) (fun a h => ⟨.inl (e2.p a h), e2.h a h⟩) hlt y
  have nS3 : ¬ S3 Da := fun h => (e3.n Da h).elim nS fun z => z (.inr rfl)
  have hD3 : H3 Da = some (.dK acc) := (e3.h Da (.inr rfl)).trans hD2
  rw [drop_at hd] at w2
  obtain ⟨en3, htg, w3⟩ := T.wp_ofOpt ((T.wp_bind _ _ _).mp w2)
  refine gk S3 P3 en2 en3 x d (wipe σ vs) H3 _ R3 dz htg fun σ3 ha hl R4 => ⟨wipe_eq his ha hl, ?_⟩
  -- no locked name holds Da
  obtain ⟨sg1, sg2⟩ := sg d en2 en3 htg
  have lk3 : ∀ (j : Nat) (d' : D), en3[j]? = some (some (.lk, d')) → σ3[j]? ≠ some (some (.ref Da)) := by
    intro j d' e hv
    by_cases hj : j ∈ is
    · exact sg2 j hj d' e
    · rw [ha j hj] at hv
      obtain ⟨d2, e2'⟩ := sg1 j d' e
      exact fD.2.2.2 j .lk d2 e2' (by decide) hv
  have w3 := (T.wp_bind _ _ _).mp w3
  have w3 := T.wp_all w3 (ht en3)
  have e13 : Ext S1 Pw H1 S3 P3 H3 := (e2.trans eg).trans e3
  refine ⟨S3, P3, en3, R4, T.wp_mono w3 fun b ⟨q4, sb⟩ H4 S4 P4 e4 R5 => ?_⟩
  have nS4 : ¬ S4 Da := fun h => (e4.n Da h).elim nS3 fun z => z (e3.p Da (.inr rfl))
  have pD4 : P4 Da := e4.p Da (e3.p Da (.inr rfl))
  have hD4 : H4 Da = some (.dK acc) := (e4.h Da (e3.p Da (.inr rfl))).trans hD3
  have lk4 : ∀ (j : Nat) (d' : D), b.2[j]? = some (some (.lk, d')) → σ3[j]? ≠ some (some (.ref Da)) := fun j d' e => by
    obtain ⟨d2, e'⟩ := sb j d' e
    exact lk3 j d2 e'
  have dl4 : DvP W S4 H4 acc accD := (dl.mono (fun a h => e3.s a h) fun a h => e3.h a (.inl (R2.sp a h))).mono (fun a h => e4.s a h) fun a h => e4.h a (R3.sp a h)
  have drop0 : ∀ (S5 P5 : Addr → Prop) (H5 : Hp), Ext S1 Pw H1 S5 P5 H5 → ¬ S5 Da → ∀ u, Ext S1 Pw H1 S5 (fun a => P5 a ∧ a ≠ Da) (upd H5 Da u) := fun S5 P5 H5 e nS5 u =>
    ⟨e.s, fun a h => ⟨e.p a h, pwd a h⟩, fun a h => (upd_ne (pwd a h)).trans (e.h a h), e.n⟩
  have same : ∀ (H5 : Hp) (u : HO), H5 Da = some u → upd H5 Da u = H5 := fun H5 u e => by
    funext a
    by_cases h : a = Da
    · subst h; rw [upd_same, e]
    · exact upd_ne h
  obtain ⟨bb, enb⟩ := b
  cases bb with
  | false =>
    obtain ⟨R6, f6⟩ := R5.turn (u := .dK acc) pD4 nS4 lk4
    rw [same H4 _ hD4] at R6
    have d0 := drop0 S4 P4 H4 (e13.trans e4) nS4 (.dK acc)
    rw [same H4 _ hD4] at d0
    refine ⟨S4, _, wip enb vs, acc, accD, d0, R6.wipe his ha (by rw [hl, wipe_length]), nS4, ⟨f6.1, dd1.1, dd1.2, fun j f d' e nf hv => ?_⟩, hD4, dl4, Nat.le_succ_of_le hacc, q4⟩
    obtain ⟨hj, e'⟩ := wip_get e
    rw [wipe_at hj] at hv
    rw [← wipe_at hj, ← ha j fun z => hj (his j z)] at hv
    exact f6.2.2.2 j f d' e' nf hv
  | true =>
    have q4 := (T.wp_bind _ _ _).mp q4
    have q4 := T.wp_all q4 (hkk enb)
    refine ⟨S4, P4, enb, R5, T.wp_mono q4 fun o1 ⟨q5, so1⟩ yk H45 S45 P45 e45 R45 ok1 => ?_⟩
    obtain ⟨kk, hkk2, q5⟩ := T.wp_ofOpt ((T.wp_bind _ _ _).mp q5)
    obtain ⟨kd, hkd, hkk3⟩ := Option.bind_eq_some_iff.mp hkk2
    obtain ⟨S46, P46, e46, R46, dzk⟩ := ok1.valz R45 hkd
    have ek : yk = kV kk := keyOf_v dzk.2 hkk3
    have nS46 : ¬ S46 Da := fun h => (e46.n Da h).elim (fun h => (e45.n Da h).elim nS4 fun z => z pD4) fun z => z (e45.p Da pD4)
    have pD46 : P46 Da := e46.p Da (e45.p Da pD4)
    have hD46 : H45 Da = some (.dK acc) := (e45.h Da pD4).trans hD4
    have lk46 : ∀ (j : Nat) (d' : D), o1.2[j]? = some (some (.lk, d')) → σ3[j]? ≠ some (some (.ref Da)) := fun j d' e => by
      obtain ⟨d2, e'⟩ := so1 j d' e
      exact lk4 j d2 e'
    have dl46 : DvP W S46 H45 acc accD := (dl4.mono (fun a h => e45.s a h) fun a h => e45.h a (R5.sp a h)).mono (fun a h => e46.s a h) fun a _ => rfl
    have q5 := (T.wp_bind _ _ _).mp q5
    have q5 := T.wp_all q5 (he o1.2)
    refine ⟨S46, P46, o1.2, R46, T.wp_mono q5 fun o ⟨q6, so⟩ yv H5 S5 P5 e5 R6 ok => ?_⟩
    obtain ⟨yd, hy, q6⟩ := T.wp_ofOpt ((T.wp_bind _ _ _).mp q6)
    have nS5 : ¬ S5 Da := fun h => (e5.n Da h).elim nS46 fun z => z pD46
    obtain ⟨S6, P6, e6, R7, dz6⟩ := ok.valz R6 hy
    have nS6 : ¬ S6 Da := fun h => (e6.n Da h).elim nS5 fun z => z (e5.p Da pD46)
    have pD6 : P6 Da := e6.p Da (e5.p Da pD46)
    have hD6 : H5 Da = some (.dK acc) := (e5.h Da pD46).trans hD46
    have lk6 : ∀ (j : Nat) (d' : D), o.2[j]? = some (some (.lk, d')) → σ3[j]? ≠ some (some (.ref Da)) := fun j d' e => by
      obtain ⟨d2, e'⟩ := so j d' e
      exact lk46 j d2 e'
    have dl6 : DvP W S6 H5 acc accD := (dl46.mono (fun a h => e5.s a h) fun a h => e5.h a (R46.sp a h)).mono (fun a h => e6.s a h) fun a _ => rfl
    obtain ⟨R8, f8⟩ := R7.turn (u := .dK (putK acc kk yv)) pD6 nS6 lk6
    have hup : ∀ a, S6 a → upd H5 Da (.dK (putK acc kk yv)) a = H5 a := fun a h => upd_ne fun z => nS6 (z ▸ h)
    refine ⟨acc, kk, ek, hD6, Nat.lt_of_le_of_lt (Nat.le_trans hacc (Nat.le_trans hi hlen)) hsz, S6, _, wip o.2 vs, putK acc kk yv, putD accD kk yd, drop0 S6 P6 H5 ((e13.trans e4).trans ((e45.trans e46).trans (e5.trans e6))) nS6 _, R8.wipe his ha (by rw [hl, wipe_length]), nS6, ⟨f8.1, dd1.1, dd1.2, fun j f d' e nf hv => ?_⟩, upd_same,
      (DvP.putK dz6 dl6).mono (fun _ h => h) hup, Nat.le_trans (putK_len acc kk yv) (Nat.succ_le_succ hacc), q6⟩
    obtain ⟨hj, e'⟩ := wip_get e
    rw [← ha j fun z => hj (his j z)] at hv
    exact f8.2.2.2 j f d' e' nf hv
theorem e_dc {tg iter kx vx : Expr} {ifs : List Expr} {scope : Scope} [h1 : ShTg t is] [h2 : ShTst rt] [h0 : ShRun rk] [h3 : ShRun re] (own : List (Str × Nat)) (hNd : X.N.Nodup) (ok : BlkOk X.N X.env.scope scope own) (hi : PI X tg iter (TVI W ri l))
    (hg : ∀ (s : Shared) (H : Hp) (C : Addr) (cl : List (Str × Addr)) (fp : List Addr), PG (X.blk s H scope (compEnvC scope cl C X.env) fp) tg g) (gk : GOk W g t is)
    (ht : ∀ (s : Shared) (H : Hp) (C : Addr) (cl : List (Str × Addr)) (fp : List Addr), PTs (X.blk s H scope (compEnvC scope cl C X.env) fp) ifs (TVT W rt))
    (hk : ∀ (s : Shared) (H : Hp) (C : Addr) (cl : List (Str × Addr)) (fp : List Addr), PE (X.blk s H scope (compEnvC scope cl C X.env) fp) kx (TV W rk))
    (he : ∀ (s : Shared) (H : Hp) (C : Addr) (cl : List (Str × Addr)) (fp : List Addr), PE (X.blk s H scope (compEnvC scope cl C X.env) fp) vx (TV W re)) (his : ∀ i ∈ is, i ∈ own.map (·.2) := by decide) (hc : X.calm = true := by rfl) (hs : ∀ x, foldedSetIterable iter X.env x = pure x := by intro _; rfl) :
    PE X (.DictComp kx vx [⟨tg, iter, ifs, 0⟩] scope pos) (TV W (rDc ri l t rt rk re (own.map (·.2)))) :=
  pe_weak (pe_dc hc hNd hi ok hg ht hk he hs) fun σ H Q h => tv_dc gk h1.sh his h2.sh h0.sh h3.sh sz4096 h
end
end Sx
set_option Elab.async false
set_option linter.all false
set_option maxRecDepth 100000
set_option maxHeartbeats 4000000
set_option autoImplicit false
namespace Sx
open PySem L2
/-! ### dicts walked: the dict is locked for the while -/
structure Keeps (H H' : Hp) : Prop where
  pl : ∀ a u, H a = some u → (∀ kvs, u ≠ .dK kvs) → (∀ o u', u ≠ .frz o u') → H' a = some u
  dk : ∀ a kvs, Rd H a (.dK kvs) → Rd H' a (.dK kvs)
  fr : ∀ a o u, H a = some (.frz o u) → (∀ kvs, u ≠ .dK kvs) → H' a = some (.frz o u)
  ex : ∀ a o, H a = some o → ∃ o', H' a = some o'
theorem Keeps.lock {H : Hp} {d : Addr} {o : Obj} {vs : List (Key × V)} (h : H d = some (.dK vs)) : Keeps H (upd H d (.frz o (.dK vs))) := by
  refine ⟨fun a u e n1 n2 => ?_, fun a kvs e => ?_, fun a o' u e n => ?_, fun a u e => ?_⟩
  · rw [upd_ne fun z => by rw [z, h] at e; cases e; exact n1 _ rfl]; exact e
  · by_cases z : a = d
    · subst z
      rcases e with e | ⟨o', e⟩
      · rw [h] at e; cases e; exact .inr ⟨o, upd_same⟩
      · rw [h] at e; cases e
    · exact rd_at (upd_ne z) e
  · rw [upd_ne fun z => by rw [z, h] at e; cases e]; exact e
  · by_cases z : a = d
    · subst z; exact ⟨_, upd_same⟩
    · exact ⟨u, by rw [upd_ne z]; exact e⟩
theorem Keeps.unlock {H : Hp} {d : Addr} {o : Obj} {vs : List (Key × V)} (h : H d = some (.frz o (.dK vs))) : Keeps H (upd H d (.dK vs)) := by
  refine ⟨fun a u e n1 n2 => ?_, fun a kvs e => ?_, fun a o' u e n => ?_, fun a u e => ?_⟩
  · rw [upd_ne fun z => by rw [z, h] at e; cases e; exact n2 _ _ rfl]; exact e
  · by_cases z : a = d
    · subst z
      rcases e with e | ⟨o', e⟩
      · rw [h] at e; cases e
      · rw [h] at e; cases e; exact .inl upd_same
    · exact rd_at (upd_ne z) e
  · rw [upd_ne fun z => by rw [z, h] at e; cases e; exact n _ rfl]; exact e
  · by_cases z : a = d
    · subst z; exact ⟨_, upd_same⟩
    · exact ⟨u, by rw [upd_ne z]; exact e⟩
theorem SqL.keeps {K : PySem.W.Frag} {H H' : Hp} {a : Addr} {xs : List V} (k : Keeps H H') (h : SqL K H a xs) : SqL K H' a xs := by
  rcases h with (h | ⟨o, h⟩) | h
  · exact .inl (.inl (k.pl _ _ h (fun _ z => by cases z) (fun _ _ z => by cases z)))
  · exact .inl (.inr ⟨o, k.fr _ _ _ h (fun _ z => by cases z)⟩)
  · exact .inr h
mutual
theorem Dv.keeps {W : Wd} {S : Addr → Prop} {H H' : Hp} (k : Keeps H H') : ∀ {v : V} {d : D}, Dv W S H v d → Dv W S H' v d
  | _, _, .non => .non
  | _, _, .bl b => .bl b
  | _, _, .int i => .int i
  | _, _, .str x => .str x
  | _, _, .lst h r => .lst (k.pl _ _ h (fun _ z => by cases z) (fun _ _ z => by cases z)) (DvL.keeps k r)
  | _, _, .tup h r => .tup (h.imp (fun ⟨s, q⟩ => ⟨s, k.pl _ _ q (fun _ z => by cases z) (fun _ _ z => by cases z)⟩) id) (DvL.keeps k r)
  | _, _, .dK h r => .dK (k.dk _ _ h) (DvP.keeps k r)
  | _, _, .dT h r => .dT (k.pl _ _ h (fun _ z => by cases z) (fun _ _ z => by cases z)) (DvP.keeps k r)
  | _, _, .obj h r => .obj (k.pl _ _ h (fun _ z => by cases z) (fun _ _ z => by cases z)) (DvP.keeps k r)
  | _, _, .scr h => .scr (h.imp (fun ⟨s, q⟩ => ⟨s, SqL.keeps k q⟩) id)
  | _, _, .drw => .drw
  | _, _, .ty n => .ty n
  | _, _, .cl c => .cl c
theorem DvL.keeps {W : Wd} {S : Addr → Prop} {H H' : Hp} (k : Keeps H H') : ∀ {vs : List V} {ds : List D}, DvL W S H vs ds → DvL W S H' vs ds
  | _, _, .nil => .nil
  | _, _, .cons t h r => .cons t (Dv.keeps k h) (DvL.keeps k r)
theorem DvP.keeps {W : Wd} {S : Addr → Prop} {H H' : Hp} (k : Keeps H H') : ∀ {κ : Type} {vs : List (κ × V)} {ds : List (κ × D)}, DvP W S H vs ds → DvP W S H' vs ds
  | _, _, _, .nil => .nil
  | _, _, _, .cons t h r => .cons t (Dv.keeps k h) (DvP.keeps k r)
end
section
variable {W : Wd} {S P S' P' : Addr → Prop} {en en1 : En} {σ : St} {H H' : Hp} {v : V} {X : Cx} {o : Op} {c : Bool × D}
theorem DrawOk.keeps (k : Keeps H H') (h : DrawOk W H) : DrawOk W H' := by
  obtain ⟨ne, ns, i, j, m, h1, h2, h3⟩ := h
  exact ⟨ne, ns, i, j, m, k.pl _ _ h1 (fun _ z => by cases z) (fun _ _ z => by cases z), k.pl _ _ h2 (fun _ z => by cases z) (fun _ _ z => by cases z), h3⟩
theorem Rel.keeps (R : Rel W S P en σ H) (k : Keeps H H') : Rel W S P en σ H' := by
  refine ⟨R.sp, fun a h => by obtain ⟨o, e⟩ := R.pd a h; exact k.ex a o e, fun i f d e => ?_, R.inj, R.len, R.dr.keeps k, R.drP⟩
  obtain ⟨v, hv, dv, t, ow⟩ := R.slot i f d e
  refine ⟨v, hv, dv.keeps k, t, fun z => ?_⟩
  obtain ⟨p, o, ev, h1, h2, h3, h4, h5, h6⟩ := ow z
  obtain ⟨o', h7⟩ := k.ex _ _ h6
  exact ⟨p, o', ev, h1, h2, h3, h4, h5, h7⟩
theorem OpOk.keeps (k : Keeps H H') (h : OpOk W S P en σ H v o) : OpOk W S P en σ H' v o := by
  cases o with
  | v d => exact ⟨h.1, h.2.keeps k⟩
  | b i => exact h
  | fr d =>
    obtain ⟨dv, p, u, e, f, hu⟩ := h
    obtain ⟨u', hu'⟩ := k.ex _ _ hu
    exact ⟨dv.keeps k, p, u', e, f, hu'⟩
theorem ROk.keeps (k : Keeps H H') (h : ROk W S P H v c) : ROk W S P H' v c := by
  refine ⟨h.1.keeps k, h.2.1, fun z => ?_⟩
  obtain ⟨p, u, e, n, m1, m2, hu⟩ := h.2.2 z
  obtain ⟨u', hu'⟩ := k.ex _ _ hu
  exact ⟨p, u', e, n, m1, m2, hu'⟩
theorem RetOk.keeps (k : Keeps H H') (h : RetOk W S P H) : RetOk W S P H' := ⟨h.sp, fun a s => by obtain ⟨o, e⟩ := h.ds a s; exact k.ex a o e, h.dr.keeps k, h.dp⟩
/-! the way to a dict: a name, or a field of a name's object -/
abbrev Pth := En → Option (En × List (Key × D))
structure PathOk (W : Wd) (td : TE) (pa : St → Hp → Option Addr) (pth : Pth) : Prop where
  ok : ∀ {S P : Addr → Prop} {en en1 : En} {σ : St} {H : Hp} {kvs : List (Key × D)}, Rel W S P en σ H → pth en = some (en1, kvs) → ∃ S1 P1 d vs, Ext S P H S1 P1 H ∧ Rel W S1 P1 en1 σ H ∧ S1 d ∧ pa σ H = some d ∧ Rd H d (.dK vs) ∧ DvP W S1 H vs kvs
  td : ∀ {σ : St} {H : Hp} {d : Addr} {Q : VK}, pa σ H = some d → Q (.ref d) H → td σ H Q
  kp : ∀ {σ : St} {H H' : Hp} {d : Addr}, Keeps H H' → pa σ H = some d → pa σ H' = some d
def paV (i : Nat) : St → Hp → Option Addr := fun σ _ => match σ[i]? with
  | some (some (.ref a)) => some a
  | _ => none
def pthV (i : Nat) : Pth := fun en => match en[i]? with
  | some (some (.fz, .dK kvs)) => some (en, kvs)
  | some (some (.ow, .dK kvs)) => some ((en.set i none).set i (some (.fz, .dK kvs)), kvs)
  | _ => none
theorem path_var (i : Nat) : PathOk W (tVar i) (paV i) (pthV i) := by
  refine ⟨fun {S P en en1 σ H kvs} R h => ?_, fun {σ H d Q} h q => ?_, fun {σ H H' d} _ h => h⟩
  · have key : ∃ S1 P1 v, Ext S P H S1 P1 H ∧ Rel W S1 P1 en1 σ H ∧ σ[i]? = some (some v) ∧ Dz W S1 H v (.dK kvs) := by
      unfold pthV at h
      split at h
      · rename_i e
        cases h
        obtain ⟨v, hv, dv, t, _⟩ := R.slot i .fz _ e
        exact ⟨S, P, v, .refl, R, hv, t rfl, dv⟩
      · rename_i e
        cases h
        obtain ⟨p, o, hv, dv, hf, ho⟩ := R.free e
        obtain ⟨ex, R2⟩ := (R.drop i).freeze hf ho
        have dz : Dz W (add S p) H (.ref p) (.dK kvs) := ⟨Or.inr rfl, dv.mono ex.s (fun _ _ => rfl) rfl⟩
        have R3 := R2.put (i := i) (by rw [List.length_set]; exact lt_of_get e) dz
        rw [set_set_same R i _ hv] at R3
        exact ⟨_, _, .ref p, ex, R3, hv, dz⟩
      · cases h
    obtain ⟨S1, P1, v, e1, R1, hv, t, dv⟩ := key
    obtain ⟨a, vs, rfl, ha, dp⟩ := dv.dK_at
    refine ⟨S1, P1, a, vs, e1, R1, t, ?_, ha, dp⟩
    unfold paV
    rw [hv]
  · unfold paV at h
    split at h
    · rename_i e
      cases h
      exact ⟨_, e, q⟩
    · cases h
def paF (i : Nat) (C0 : Addr) (f : Str) : St → Hp → Option Addr := fun σ H => match σ[i]? with
  | some (some (.ref a)) => (match H a with
    | some (.ins C _ fs) => if C = C0 then (match fs.lookup f with
      | some (.ref d) => some d
      | _ => none) else none
    | _ => none)
  | _ => none
theorem paF_some {i : Nat} {C0 : Addr} {f : Str} {d : Addr} (h : paF i C0 f σ H = some d) : ∃ a dx fs, σ[i]? = some (some (.ref a)) ∧ H a = some (.ins C0 dx fs) ∧ fs.lookup f = some (.ref d) := by
  unfold paF at h
  split at h
  · rename_i a e1
    split at h
    · rename_i C dx fs e2
      split at h
      · rename_i e3
        subst e3
        split at h
        · rename_i d' e4
          cases h
          exact ⟨a, dx, fs, e1, e2, e4⟩
        · cases h
      · cases h
    · cases h
  · cases h
theorem paF_of {i : Nat} {C0 : Addr} {f : Str} {d a dx : Addr} {fs : List (Str × V)} (h1 : σ[i]? = some (some (.ref a))) (h2 : H a = some (.ins C0 dx fs)) (h3 : fs.lookup f = some (.ref d)) : paF i C0 f σ H = some d := by
  unfold paF
  rw [h1]
  simp only [h2, if_true, h3]
def pthF (i c0 : Nat) (f : Str) : Pth := fun en => match en[i]? with
  | some (some (.fz, d)) => (clsN c0 d).bind fun fs => (match fs.lookup f with
    | some (.dK kvs) => some (en, kvs)
    | _ => none)
  | _ => none
theorem path_fld {i c0 : Nat} {f : Str} (c : Cls W.K (W.cls c0)) (n : NoAttr W.K (W.cls c0) f) : PathOk W (tFld W.K (tVar i) f) (paF i (W.cls c0) f) (pthF i c0 f) := by
  refine ⟨fun {S P en en1 σ H kvs} R h => ?_, fun {σ H d Q} h q => ?_, fun {σ H H' d} k h => ?_⟩
  · unfold pthF at h
    split at h
    · rename_i d e
      obtain ⟨fs, e2, h⟩ := Option.bind_eq_some_iff.mp h
      split at h
      · rename_i kvs' e3
        cases h
        cases clsN_some e2
        obtain ⟨v, hv, dv, t, _⟩ := R.slot i .fz _ e
        obtain ⟨a, dx, fv, rfl, ha, dp⟩ := dv.obj_at
        obtain ⟨w, e4, tz, dz⟩ := (dp.get (f := f)).1 _ e3
        obtain ⟨b, vs, rfl, hb, dq⟩ := dz.dK_at
        exact ⟨S, P, b, vs, .refl, R, tz, paF_of hv ha e4, hb, dq⟩
      · cases h
    · cases h
  · obtain ⟨a, dx, fs, h1, h2, h3⟩ := paF_some h
    exact ⟨.ref a, h1, a, _, dx, fs, _, rfl, h2, c, n, h3, q⟩
  · obtain ⟨a, dx, fs, h1, h2, h3⟩ := paF_some h
    exact paF_of h1 (k.pl _ _ h2 (fun _ z => by cases z) (fun _ _ z => by cases z)) h3
/-! the walk over the keys -/
def Locked (pa : St → Hp → Option Addr) (σ : St) (H : Hp) : Prop := ∃ d o vs, pa σ H = some d ∧ H d = some (.frz o (.dK vs))
def iKy (pth : Pth) : RunI := fun en => (T.ofOpt (pth en)).bind fun r => .ret (r.2.map fun kv => kD kv.1, r.1)
theorem walks_keys {d : Addr} {ob : Obj} {vs : List (Key × V)} {ds : List (Key × D)} (ha : P d) (h : H d = some (.frz ob (.dK vs))) (dp : DvP W S H vs ds) : Walks W S P H (Itk d ob vs) (ds.map fun kv => kD kv.1) := by
  have len : (ds.map fun kv => kD kv.1).length = vs.length := by rw [List.length_map, dp.lenK]
  refine ⟨fun i H2 q hi => ⟨(q d ha).trans h, by rw [← len]; exact hi⟩, fun i H2 q hi => ⟨(q d ha).trans h, by rw [← len]; exact hi⟩, fun i H2 x H3 q hi y => ?_⟩
  obtain ⟨rfl, k, v, hk, rfl⟩ := y
  refine ⟨kD k, ?_, .inl ⟨rfl, kD_dv k⟩⟩
  have : (vs.map (·.1))[i]? = some k := by rw [List.getElem?_map, hk]; rfl
  rw [dp.keys, List.getElem?_map] at this
  rw [List.getElem?_map]
  cases e : ds[i]? with
  | none => rw [e] at this; cases this
  | some p => rw [e] at this; cases this; rfl
theorem tvi_keys {td : TE} {pa : St → Hp → Option Addr} {pth : Pth} (ok : PathOk W td pa pth) {R : It → Hp → Prop} (hl : Locked pa σ H) (h : TVI W (iKy pth) none σ H R) : iKeys td σ H R := by
  obtain ⟨S, P, en, R0, w⟩ := h
  obtain ⟨⟨en1, kvs⟩, hp, w⟩ := T.wp_ofOpt ((T.wp_bind _ _ _).mp w)
  obtain ⟨S1, P1, d, vs, e1, R1, sd, hpa, hd, dp⟩ := ok.ok R0 hp
  obtain ⟨d', o, vs', h1, h2⟩ := hl
  rw [hpa] at h1
  cases h1
  have ev : vs' = vs := by
    rcases hd with hd | ⟨o', hd⟩
    · rw [hd] at h2; cases h2
    · rw [hd] at h2; cases h2; rfl
  subst ev
  refine ok.td hpa ⟨d, o, rfl, .inl ⟨vs', h2, w (Itk d o vs') H S1 P1 P1 e1 R1 (fun _ h => h) (fun S3 P3 en3 σ3 H3 _ e3 R3 => ⟨P3, fun _ h => h, e3, R3⟩) (fun _ => rfl) (walks_keys (R1.sp _ sd) h2 dp)⟩⟩
/-! under the lock -/
def rLkd (pth : Pth) (run : Run) : Run := fun en => (T.ofOpt (pth en)).bind fun r => run r.1
theorem lk_e {e : Expr} {t : TE} {td : TE} {pa : St → Hp → Option Addr} {pth : Pth} {run : Run} (ok : PathOk W td pa pth) (he : PE X e t) (hw : ∀ σ H Q, Locked pa σ H → TV W run σ H Q → t σ H Q) : PE X e (TV W (rLkd pth run)) := by
  have both : PE X e (fun σ H Q => t σ H Q ∨ tLockE t σ H Q) := ⟨fun pins s σ H Q I h => h.elim (he.run pins s σ H Q I) ((pe_lock he).run pins s σ H Q I)⟩
  refine pe_weak both fun σ H Q h => ?_
  obtain ⟨S, P, en, R, w⟩ := h
  obtain ⟨⟨en1, kvs⟩, hp, w⟩ := T.wp_ofOpt ((T.wp_bind _ _ _).mp w)
  obtain ⟨S1, P1, d, vs, e1, R1, sd, hpa, hd, dp⟩ := ok.ok R hp
  rcases hd with hd | ⟨o, hd⟩
  · refine .inr ⟨d, .dK vs, hd, trivial, fun od => ?_⟩
    have k := Keeps.lock (o := od) hd
    refine hw σ _ _ ⟨d, od, vs, ok.kp k hpa, upd_same⟩ ⟨S1, P1, en1, R1.keeps k, T.wp_mono w fun r q v H' S' P' e R' op => ?_⟩
    have hd' : H' d = some (.frz od (.dK vs)) := (e.h d (R1.sp _ sd)).trans upd_same
    have k2 := Keeps.unlock hd'
    refine ⟨hd', q v _ S' P' (e1.trans ⟨e.s, e.p, fun a h => ?_, e.n⟩) (R'.keeps k2) (op.keeps k2)⟩
    by_cases z : a = d
    · subst z; rw [upd_same, hd]
    · rw [upd_ne z, e.h a h, upd_ne z]
  · exact .inl (hw σ H Q ⟨d, o, vs, hpa, hd⟩ ⟨S1, P1, en1, R1, T.wp_mono w fun r q v H' S' P' e R' op => q v H' S' P' (e1.trans e) R' op⟩)
def sLkd (pth : Pth) (run : RunS) : RunS := fun en => (T.ofOpt (pth en)).bind fun r => run r.1
theorem lk_s {st : Stmt} {t : TS} {td : TE} {pa : St → Hp → Option Addr} {pth : Pth} {run : RunS} (ok : PathOk W td pa pth) (he : PS X st t) (hw : ∀ D σ H, Locked pa σ H → TVS W run D σ H → t D σ H) : PS X st (TVS W (sLkd pth run)) := by
  have both : PS X st (fun D σ H => t D σ H ∨ tLock t D σ H) := ⟨fun pins s σ H D I h => h.elim (he.run pins s σ H D I) ((ps_lock he).run pins s σ H D I)⟩
  refine ps_weak both fun D σ H h => ?_
  obtain ⟨S, P, en, R, w⟩ := h
  obtain ⟨⟨en1, kvs⟩, hp, w⟩ := T.wp_ofOpt ((T.wp_bind _ _ _).mp w)
  obtain ⟨S1, P1, d, vs, e1, R1, sd, hpa, hd, dp⟩ := ok.ok R hp
  rcases hd with hd | ⟨o, hd⟩
  · refine .inr ⟨d, .dK vs, hd, trivial, fun od => ?_⟩
    have k := Keeps.lock (o := od) hd
    refine hw _ σ _ ⟨d, od, vs, ok.kp k hpa, upd_same⟩ ⟨S1, P1, en1, R1.keeps k, T.wp_mono w fun r q => ?_⟩
    have back : ∀ {S' P' : Addr → Prop} {H' : Hp}, Ext S1 P1 (upd H d (.frz od (.dK vs))) S' P' H' → H' d = some (.frz od (.dK vs)) ∧ Ext S P H S' P' (upd H' d (.dK vs)) ∧ Keeps H' (upd H' d (.dK vs)) := fun {S' P' H'} e => by
      have hd' : H' d = some (.frz od (.dK vs)) := (e.h d (R1.sp _ sd)).trans upd_same
      refine ⟨hd', e1.trans ⟨e.s, e.p, fun a h => ?_, e.n⟩, Keeps.unlock hd'⟩
      by_cases z : a = d
      · subst z; rw [upd_same, hd]
      · rw [upd_ne z, e.h a h, upd_ne z]
    obtain ⟨fl, en2⟩ := r
    cases fl with
    | nx => exact fun σ' H' S' P' e R' => by obtain ⟨b1, b2, b3⟩ := back e; exact ⟨b1, q σ' _ S' P' b2 (R'.keeps b3)⟩
    | bk => exact fun σ' H' S' P' e R' => by obtain ⟨b1, b2, b3⟩ := back e; exact ⟨b1, q σ' _ S' P' b2 (R'.keeps b3)⟩
    | ct => exact fun σ' H' S' P' e R' => by obtain ⟨b1, b2, b3⟩ := back e; exact ⟨b1, q σ' _ S' P' b2 (R'.keeps b3)⟩
    | rt c => exact fun v H' S' P' e ro rk => by obtain ⟨b1, b2, b3⟩ := back e; exact ⟨b1, q v _ S' P' b2 (ro.keeps b3) (rk.keeps b3)⟩
  · exact .inl (hw D σ H ⟨d, o, vs, hpa, hd⟩ ⟨S1, P1, en1, R1, T.wp_mono w fun r q => q.ext e1⟩)
end
end Sx
set_option Elab.async false
set_option linter.all false
set_option maxRecDepth 100000
set_option maxHeartbeats 4000000
set_option autoImplicit false
namespace Sx
open PySem L2 PyProof.Rows
/-! ### enumerate(tuple) -/
theorem meets_enumT (l : Addr) (items : Array Value) :
    Meets (Builtin.«enumerate.__new__» ⟨[.type "enumerate", .ref l], []⟩) (fun _ R s => s.heap.IsTuple l items ∧
      R (.ok (.ret (.ref (s.heap.push { cls := .type "tuple_iterator", data := .fields #[.ref l, .int 0 0] }).objs.size)))
        { s with heap := (s.heap.push { cls := .type "tuple_iterator", data := .fields #[.ref l, .int 0 0] }).push { cls := .type "enumerate", data := .fields #[.none, .bool false, .ref s.heap.objs.size, rawInt 0, .none, .none] } }) :=
  .of_wp fun prog w A R s h => by
    obtain ⟨hp, g, d, tk, os⟩ := s; obtain ⟨hL, h⟩ := h
    have hsub := sub_enumerate
    have hL' : Heap.IsTuple (Shared.heap ⟨hp, g, d, tk, os⟩) l items := hL
    obtain ⟨ol, hl, hc, n, hd⟩ := id hL
    wp_walk using wpAny_loadPart' hl
    refine wpAny_stack_any fun st => wpAny_pure ?_
    split
    · rename_i c _ _ _ _ _
      cases (c == Value.type "enumerate")
      · wp_walk using wpAny_loadPart' hl, wpAny_pyIter_tuple hL'
        exact ⟨_, rfl, h⟩
      · wp_walk using wpAny_loadPart' hl, wpAny_pyIter_tuple hL'
        exact ⟨_, rfl, h⟩
    · wp_walk using wpAny_loadPart' hl, wpAny_pyIter_tuple hL'
      exact ⟨_, rfl, h⟩
theorem call_enumT {prog : Program} {w : World} {A : Around} {E : Value → Shared → Prop} {s : Shared} {l : Addr} {items : Array Value} {Q : Value → Shared → Prop} (hL : s.heap.IsTuple l items)
    (h : ∀ h', IsEnum h' (s.heap.objs.size + 1) s.heap.objs.size 0 .none → h'.IsTupleIter s.heap.objs.size l 0 → h'.objs.size = s.heap.objs.size + 2 →
      (∀ b o, s.heap.get? b = some o → h'.get? b = some o) → Q (.ref (s.heap.objs.size + 1)) { s with heap := h' }) :
    wpAny (model prog w) A (PySem.call (.type "enumerate") [.ref l]) Q E s := by
  refine callType_new F.called_enumerate (by decide) (F.typeCall_enumerate_1 _) (F.newCall_enumerate_1 _) (fun obj => F.args_object_init_2 obj _) F.entry_enumerate_new (meets_enumT l items) ⟨hL, ?_⟩
  have hz : (s.heap.push { cls := .type "tuple_iterator", data := .fields #[.ref l, .int 0 0] }).objs.size = s.heap.objs.size + 1 := Heap.size_push ..
  show _ ∧ _
  rw [hz]
  have he : IsEnum ((s.heap.push { cls := .type "tuple_iterator", data := .fields #[.ref l, .int 0 0] }).push
      { cls := .type "enumerate", data := .fields #[.none, .bool false, .ref s.heap.objs.size, rawInt 0, .none, .none] }) (s.heap.objs.size + 1) s.heap.objs.size 0 .none := by
    have z := Heap.get?_push_size (s.heap.push { cls := .type "tuple_iterator", data := .fields #[.ref l, .int 0 0] })
      (o := { cls := .type "enumerate", data := .fields #[.none, .bool false, .ref s.heap.objs.size, rawInt 0, .none, .none] }) rfl
    rw [hz] at z; exact z
  exact ⟨⟨_, he, rfl⟩, h _ he ⟨_, Heap.get?_push_of_some _ (Heap.get?_push_size _ rfl), rfl, rfl⟩ (by rw [Heap.size_push, hz]) fun b o x => Heap.get?_push_of_some _ (Heap.get?_push_of_some _ x)⟩
theorem enumT_end {prog : Program} {w : World} {A : Around} {E : Value → Shared → Prop} {s : Shared} {e it l : Addr} {items : Array Value} {i : Nat} {old : Value} {Q : Option Value → Shared → Prop} (hh : A.handled = none)
    (he : IsEnum s.heap e it i old) (hit : s.heap.IsTupleIter it l i) (hl : s.heap.IsTuple l items) (hx : items[i]? = none)
    (hQ : ∀ h', Heap.ExtBut it s.heap h' → Q none { s with heap := h' }) : wpAny (model prog w) A (pyNext (.ref e)) Q E s := by
  have hT : s.TypeIs (.ref e) "enumerate" := ⟨_, he, rfl⟩
  unfold pyNext
  refine wpAny_bind (wpAny_attempt (wpAny_callSpecial?_slot (name := Str.ofString "__next__") hT F.slot_enumerate_next (wpAny_call_entry F.slot_enumerate_next hT F.entry_enumerate_next ?_ (F.args_enumerate_next_1 _))))
  show wpAny _ _ (field (.ref e) 2 >>= _) _ _ _
  refine wpAny_bind (wpAny_field he rfl (x := .ref it) rfl (wpAny_bind (wpAny_nextOf_tuple_end hh hit hl hx fun h' x z1 z2 => ?_)))
  obtain ⟨o, ho, hc⟩ := z2
  exact wpAny_bind (wpAny_isInstance (T := "StopIteration") (b := true) ⟨o, ho, hc⟩ isSubtype_stop (wpAny_pure (hQ _ z1)))
def IteT (K : PySem.W.Frag) (a : Addr) : It :=
  ⟨fun i H => ∃ (xs : List V) (x : V), SqT K H a xs ∧ xs[i]? = some x, fun i H v H' => ∃ T x, v = .ref T ∧ H T = none ∧ H' = upd H T (.tup [.int (i : Nat), x]) ∧ ∀ xs, SqT K H a xs → xs[i]? = some x, fun i H => ∃ xs : List V, SqT K H a xs ∧ xs.length ≤ i⟩
theorem turn_enumT {P : Program} {w : World} {K : PySem.W.Frag} {elts : List Expr} {kk : Nat} {tpos : Pos} (a e it : Addr) :
    Turn P w K (.Tuple elts kk tpos) (IteT K a) [e, it] e (fun i h => (∃ old, IsEnum h e it ((i : Nat) : Int) old) ∧ h.IsTupleIter it a i ∧ e ≠ it ∧ (e ≠ a ∧ a ≠ it)) where
  mem := by simp
  obj := fun i h st b hb => by
    obtain ⟨⟨old, he⟩, ⟨o, ho, hc, hd⟩, _⟩ := st
    have z : b = e ∨ b = it := by simpa using hb
    rcases z with z | z
    · rw [z]; exact ⟨_, he, fun v q => nomatch q⟩
    · rw [z]; exact ⟨o, ho, fun v q => by rw [hd] at q; cases q⟩
  keep := fun i h h' st k => let ⟨⟨old, he⟩, hi, hne⟩ := st; ⟨⟨old, k e (by simp) _ he⟩, hi.at fun o q => k it (by simp) o q, hne⟩
  item := by
    intro X hP hw hK hc i pins s σ H E I hf st hg
    subst hP hw hK
    obtain ⟨⟨old, he⟩, hit, hne, n1, n2⟩ := st
    obtain ⟨xs, x, hq, hx⟩ := hg
    obtain ⟨its, rv, p, hz⟩ := I.tuple hq
    obtain ⟨u, hu, ru⟩ := rv.get hx
    have hel : e < s.heap.objs.size := Heap.lt_size he
    have hil : it < s.heap.objs.size := by obtain ⟨_, q, _⟩ := hit; exact Heap.lt_size q
    have pT : s.heap.IsTuple a its.toArray := p
    have hlt : i < its.toArray.size := by
      rw [List.size_toArray]
      exact (List.getElem?_eq_some_iff.mp hu).1
    refine wpAny_pyNext_enum_itemD (Draws.tuple (A := X.A.in1) (I.ok.hd hc) it a n2 its.toArray) he ⟨hit, pT⟩ hlt hne (by simp; exact ⟨hne, n1⟩) fun v h' tk hv ho hst' hT hsz hk => ?_
    have ev : v = u := by
      have z : its.toArray[i]? = some v := hv
      rw [List.getElem?_toArray, hu] at z
      exact (Option.some.inj z).symm
    subst ev
    refine ⟨_, rfl, wpAny_letOwnedTupleGo_enum (s := { s with heap := h', toks := tk + 1 }) ho fun h'' he' sb => ?_⟩
    have hT2 : h''.get? s.heap.objs.size = some { cls := .type "tuple", data := .seq #[.int i tk, v] } := (sb.2 _ (Nat.ne_of_gt hel)).trans hT
    have new : ObjOk X.prog X.w (upd H s.heap.objs.size (.tup [.int (i : Nat), x])) h'' s.heap.objs.size (.tup [.int (i : Nat), x]) :=
      ⟨by show 2 ≤ sizeLine; decide, [.int i tk, v], .cons ⟨_, rfl⟩ (.cons ru .nil), ⟨_, hT2, rfl, _, rfl⟩⟩
    have I1 : Inv X pins σ (upd H s.heap.objs.size (.tup [.int (i : Nat), x])) { s with heap := h'', toks := tk + 1 } :=
      I.turnedNew (ch := [e, it]) (fun b ob hb q => (sb.2 b (fun z => hb (by simp [z]))).trans (hk b ob (fun z => hb (by simp [z])) (fun z => hb (by simp [z])) q)) hf (Nat.le_refl _) new
    refine ⟨.ref s.heap.objs.size, _, I1, rfl, ⟨_, x, rfl, I.hok.fresh (Nat.le_refl _), rfl, fun ys hy => by rw [I.tuple_inj hy hq]; exact hx⟩, ⟨⟨v, ?_⟩, hst'.1.at fun o q => (sb.2 it (Ne.symm hne)).trans q, hne, n1, n2⟩, fun b hb => ?_⟩
    · have z : ((i + 1 : Nat) : Int) = (i : Int) + 1 := by omega
      rw [z]; exact he'
    · have hb' : b < s.heap.objs.size := by
        have z : b = e ∨ b = it := by simpa using hb
        rcases z with z | z
        · rw [z]; exact hel
        · rw [z]; exact hil
      rw [upd_ne (Nat.ne_of_lt hb')]
      exact (hf b hb).1
  done := by
    intro X hP hw hK hc i pins s σ H E I hf st hg
    subst hP hw hK
    obtain ⟨⟨old, he⟩, hit, hne, n1, n2⟩ := st
    obtain ⟨xs, hq, hx⟩ := hg
    obtain ⟨its, rv, p, hz⟩ := I.tuple hq
    have pT : s.heap.IsTuple a its.toArray := p
    obtain ⟨f0, f1, f2, f3, f4, f5⟩ := hf it (by simp)
    have hl := rv.length
    exact enumT_end (I.ok.hd hc) he hit pT (by simp; omega) fun h' eb => ⟨rfl, I.turned (t' := s.toks) (fun b o hb q => eb b o hb q) f0 f1 f3 f4 f5⟩
  self := fun A i s Q E st h => let ⟨⟨_, he⟩, _⟩ := st; wpAny_pyIter_enum he h
def iEnumT (K : PySem.W.Frag) (ta : TA) : TI := fun σ H R => ta σ H fun vs H1 => ∃ a xs, vs = [.ref a] ∧ SqT K H1 a xs ∧ R (IteT K a) H1
theorem pi_enumT {X : Cx} {e : Expr} {ta : TA} {p pos tpos : Pos} {elts : List Expr} {kk : Nat} (hg : Gl X "enumerate") (hm : X.mg "enumerate" = none) (ha : PA X [e] ta) (hs : starEach [e] X.env = [(false, eval e X.env)] := by rfl) :
    PI X (.Tuple elts kk tpos) (.Call (.Name "enumerate" p) [e] [] pos) (fun σ H R => ta σ H fun vs H1 => ∃ a xs, vs = [.ref a] ∧ ((SqL X.K H1 a xs ∧ R (Ite X.K a) H1) ∨ (SqT X.K H1 a xs ∧ R (IteT X.K a) H1))) := by
  refine ⟨fun pins s σ H R I h => ?_⟩
  refine Call_ (ld_blt I hg hm boot_enumerate (PyProof.Rows.callWith_type1 (thn (ha.run pos pins s σ H _ I h) fun us s1 ⟨vs, H1, I1, r1, q1⟩ => ?_) hs rfl))
  obtain ⟨a, xs, rfl, q1⟩ := q1
  obtain ⟨u, rfl, ru⟩ := vals1 r1
  cases (show u = Value.ref a from ru)
  have own : ∀ b, b ∈ [s1.heap.objs.size + 1, s1.heap.objs.size] → s1.heap.objs.size ≤ b := fun b hb => by
    have z : b = s1.heap.objs.size + 1 ∨ b = s1.heap.objs.size := by simpa using hb
    rcases z with z | z
    · rw [z]; exact Nat.le_succ _
    · rw [z]; exact Nat.le_refl _
  rcases q1 with ⟨hq, q⟩ | ⟨hq, q⟩
  · obtain ⟨its, rv, p', hz⟩ := I1.list hq
    exact call_enumerate_list p'.isList fun h' he hit hsz hk => wpAny_pyIter_enum he ⟨s1.heap.objs.size + 1, [s1.heap.objs.size + 1, s1.heap.objs.size], _, _, H1, rfl, I1.kept (t' := s1.toks) hk, turn_enum a (s1.heap.objs.size + 1) s1.heap.objs.size, ⟨⟨.none, he⟩, hit, Nat.succ_ne_self _⟩, fun b hb => I1.fpOk (own b hb) (I1.hok.fresh (own b hb)), q⟩
  · obtain ⟨its, rv, p', hz⟩ := I1.tuple hq
    have pT : s1.heap.IsTuple a its.toArray := p'
    have al : a < s1.heap.objs.size := by obtain ⟨_, z, _⟩ := p'; exact Heap.lt_size z
    exact call_enumT pT fun h' he hit hsz hk => wpAny_pyIter_enum he ⟨s1.heap.objs.size + 1, [s1.heap.objs.size + 1, s1.heap.objs.size], _, _, H1, rfl, I1.kept (t' := s1.toks) hk, turn_enumT a (s1.heap.objs.size + 1) s1.heap.objs.size, ⟨⟨.none, he⟩, hit, Nat.succ_ne_self _, Nat.ne_of_gt (Nat.lt_succ_of_lt al), Nat.ne_of_lt al⟩, fun b hb => I1.fpOk (own b hb) (I1.hok.fresh (own b hb)), q⟩
section
variable {W : Wd} {S P : Addr → Prop} {H : Hp} {en : En} {σ : L2.St} {X : Cx}
theorem walks_enumT {a : Addr} {xs : List V} {ds : List D} (R : Rel W S P en σ H) (h : (S a ∧ H a = some (.tup xs)) ∨ Wr W a xs) (dl : DvL W S H xs ds) : Walks W S P H (IteT W.K a) (enumD ds) := by
  have hl : (enumD ds).length = ds.length := by simp [enumD]
  have at' : ∀ H2, (∀ b, P b → H2 b = H b) → SqT W.K H2 a xs := fun H2 q => by
    rcases h with ⟨s, h⟩ | (h | ⟨_, h⟩) | h
    · exact SqT.of ((q a (R.sp a s)).trans h)
    · cases h
    · cases h
    · exact .inr h
  refine ⟨fun i H2 q hi => ⟨xs, at' H2 q, by rw [dl.len]; omega⟩, fun i H2 q hi => ?_, fun i H2 x H3 q hi y => ?_⟩
  · have hi' : i < xs.length := by rw [dl.len]; omega
    exact ⟨xs, xs[i], at' H2 q, List.getElem?_eq_getElem hi'⟩
  · obtain ⟨T', x', rfl, hT, rfl, y⟩ := y
    obtain ⟨d, hd, dz⟩ := (dl.at (i := i)).1 x' (y xs (at' _ q))
    refine ⟨.tup [.int (i : Nat), d], ?_, .inr ⟨T', _, _, rfl, hT, rfl, rfl, .cons trivial (.int _) (.cons dz.1 (dz.2.mono (fun _ h => h) (fun b s => q b (R.sp b s)) (dz.1.mono fun b s => q b (R.sp b s))) .nil)⟩⟩
    unfold enumD
    rw [List.getElem?_map, List.getElem?_zipIdx, hd]
    simp
def iEnumU (rs : Runs) : RunI := fun en => (rs en).bind fun a => (T.ofOpt (match onlyV a.1 with
  | some [.lst ds] => some (enumD ds)
  | some [.tup ds] => some (enumD ds)
  | _ => none)).bind fun ds => .ret (ds, a.2)
theorem x_enumU {e : Expr} {ra : Run} {p pos tpos : Pos} {elts : List Expr} {kk : Nat} (hK : X.K = W.K) (hg : Gl X "enumerate") (hm : X.mg "enumerate" = none) (ha : PE X e (TV W ra)) (hs : starEach [e] X.env = (false, eval e X.env) :: starEach [] X.env) :
    PI X (.Tuple elts kk tpos) (.Call (.Name "enumerate" p) [e] [] pos) (TVI W (iEnumU (rCons ra rNil)) none) := by
  refine ⟨fun pins s σ H R I q => (pi_enumT hg hm (x_cons ha x_nil hs) hs).run pins s σ H R I ?_⟩
  rw [hK]
  obtain ⟨S, P, en, Rl, w⟩ := q
  refine TVs.use Rl w fun c vs H1 S1 P1 e1 R1 p1 q => ?_
  obtain ⟨ds, hds, q⟩ := T.wp_ofOpt ((T.wp_bind _ _ _).mp q)
  have go : ∀ J, Walks W S1 P1 H1 J ds → R J H1 := fun J wk => q J H1 S1 P1 P1 e1 R1 (fun _ h => h) (fun S3 P3 en3 σ3 H3 _ e3 R3 => ⟨P3, fun _ h => h, e3, R3⟩) (fun _ => rfl) wk
  split at hds
  · rename_i es hj
    cases hds
    cases p1.only hj with
    | cons t dv r =>
      cases r
      cases dv with
      | lst ha dl => exact ⟨_, _, rfl, .inl ⟨SqL.of ha, go _ (walks_enum R1 (R1.sp _ t) ha dl)⟩⟩
  · rename_i es hj
    cases hds
    cases p1.only hj with
    | cons t dv r =>
      cases r
      cases dv with
      | @tup _ xs _ ha dl =>
        refine ⟨_, xs, rfl, .inr ⟨?_, go _ (walks_enumT R1 ha dl)⟩⟩
        rcases ha with ⟨_, h⟩ | (h | ⟨_, h⟩) | h
        · exact SqT.of h
        · cases h
        · cases h
        · exact .inr h
  · cases hds
end
end Sx
set_option Elab.async false
set_option linter.all false
set_option maxRecDepth 100000
set_option maxHeartbeats 4000000
set_option autoImplicit false
namespace Sx
open PySem L2 PyProof.Rows
section
variable {W : Wd} {X : Cx} {k : Nat} {a b c e : Expr} {ra rb rc re : Run} {rs : Runs} {pos : Pos}
/-! short names -/
theorem e_inD (hr : Room k X.A) (ha : PE X a (TV W ra)) (hb : PE X b (TV W rb)) (hm : behindInMarks .In b = false := by rfl) : PE X (.Compare a [.In] [b] pos) (TV W (run2 ra rb (fInDG id))) := x_cmp (op_inD (hu_of hr)) (p_inD id) ha hb hm
theorem e_ninD (hr : Room k X.A) (ha : PE X a (TV W ra)) (hb : PE X b (TV W rb)) (hm : behindInMarks .NotIn b = false := by rfl) : PE X (.Compare a [.NotIn] [b] pos) (TV W (run2 ra rb (fInDG not))) := x_cmp (op_ninD (hu_of hr)) (p_inD not) ha hb hm
theorem t_inD (hr : Room k X.A) (ha : PE X a (TV W ra)) (hb : PE X b (TV W rb)) (hm : behindInMarks .In b = false := by rfl) : PT X (.Compare a [.In] [b] pos) (TVT W (toT (run2 ra rb (fInDG id)))) := t_cmp (op_inD (hu_of hr)) (p_inD id) ha hb hm
theorem t_ninD (hr : Room k X.A) (ha : PE X a (TV W ra)) (hb : PE X b (TV W rb)) (hm : behindInMarks .NotIn b = false := by rfl) : PT X (.Compare a [.NotIn] [b] pos) (TVT W (toT (run2 ra rb (fInDG not)))) := t_cmp (op_ninD (hu_of hr)) (p_inD not) ha hb hm
theorem e_ixD (hr : Room k X.A) (ha : PE X a (TV W ra)) (hb : PE X b (TV W rb)) (hs : PlainIx b := by exact fun _ _ => rfl) : PE X (.Subscript a b pos) (TV W (run2 ra rb fIxD)) :=
  pe_weak (pe_ix (ix_dict (hu_of hr)) ha hb hs) fun _ _ _ h => tv2 p_ixD h
theorem e_ltlt (hK : X.K = W.K) (hr : Room k X.A) (ha : PE X a (TV W ra)) (hb : PE X b (TV W rb)) (hc : PE X c (TV W rc)) (hm : lastMarks [.Lt, .Lt] [b, c] = false := by rfl) : PE X (.Compare a [.Lt, .Lt] [b, c] pos) (TV W (rChn fLt fLt ra rb rc)) :=
  pe_weak (pe_chain (op_ltP hr.units) (op_ltP hr.units) ha hb hc hm) fun _ _ _ h => by rw [hK]; exact tv_chn p_cmp p_cmp h
theorem t_ltlt (hK : X.K = W.K) (hr : Room k X.A) (ha : PE X a (TV W ra)) (hb : PE X b (TV W rb)) (hc : PE X c (TV W rc)) (hm : lastMarks [.Lt, .Lt] [b, c] = false := by rfl) : PT X (.Compare a [.Lt, .Lt] [b, c] pos) (TVT W (toT (rChn fLt fLt ra rb rc))) :=
  pt_weak (pt_chain (op_ltP hr.units) (op_ltP hr.units) ha hb hc hm) fun _ _ _ h => by rw [hK]; exact tv_chn p_cmp p_cmp (tvt_tB h)
/-! own ==, isinstance of an own class -/
theorem tv_eqU {c0 n : Nat} {f : Addr} {fd : FuncData} {ps : List Str} {fn : Fn} {cls : Nat → Addr} {σ : L2.St} {H : Hp} {Q : VK} (hcl : W.cls = cls) (h : TV W (rEqU c0 fn ra rb) σ H Q) :
    TV W ra σ H fun x H1 => TV W rb σ H1 fun y H2 => (rEqI (cls c0) (spR W.K cls 2 fn) x y H2 Q ∨ rDD W.K (fun p _ => p.depth ≤ 60) PyData.eqv x y H2 Q) := by
  obtain ⟨S, P, en, R, w⟩ := h
  refine TV.use R w fun c v H1 S1 P1 e1 R1 p1 q => ?_
  refine TV.use R1 q fun c2 u H2 S2 P2 e2 R2 p2 q2 => ?_
  have p1 := p1.ext R1 e2
  by_cases hobj : ∃ i fs j gs, c.1.fz = .v (.obj i fs) ∧ c2.1.fz = .v (.obj j gs)
  · obtain ⟨i, fs, j, gs, h1, h2⟩ := hobj
    rw [h1] at p1
    rw [h2] at p2
    have q2 : ((match c.1.fz, c2.1.fz with
      | .v (.obj c fs), .v (.obj c' gs) => if c = c0 ∧ c' = c0 then (fn [.obj c fs, .obj c' gs]).bind fun r => (match r.2 with
          | .bl k => T.ret (Op.v (.bl k), c2.2)
          | _ => .fail) else .fail
      | _, _ => ret1 ((frc c2.2 c.1.fz).bind fun x => (frc c2.2 c2.1.fz).bind fun y => fEq x y) c2.2) : T (Op × En)).wp _ := q2
    rw [h1, h2] at q2
    have q5 : (if i = c0 ∧ j = c0 then _ else _ : T (Op × En)).wp _ := q2
    clear q2
    by_cases hc : i = c0 ∧ j = c0
    · rw [if_pos hc] at q5
      obtain ⟨rfl, rfl⟩ := hc
      subst hcl
      obtain ⟨a, dx, fv, rfl, ha, dp⟩ := p1.2.obj_at
      obtain ⟨b, dy, gv, rfl, hb, dq⟩ := p2.2.obj_at
      refine .inl ⟨a, b, dx, dy, fv, gv, rfl, rfl, ha, hb, rfl, W, S2, [.obj j fs, .obj j gs], rfl, rfl, R2.dr, R2.dom, fun w => R2.drP.1 (R2.sp _ w), fun w => R2.drP.2 (R2.sp _ w), .cons p1.1 p1.2 (.cons p2.1 p2.2 .nil), T.wp_mono ((T.wp_bind _ _ _).mp q5) fun r q v H' S' P' e ro ok => ?_⟩
      obtain ⟨e5, R5, ok5⟩ := R2.call e ro ok
      obtain ⟨fl, d⟩ := r
      cases d with
      | bl k =>
        have dv := ok.1
        cases dv
        exact ⟨⟨k, rfl⟩, q _ H' S' _ (e1.trans (e2.trans e5)) R5 ⟨trivial, .bl k⟩⟩
      | _ => exact q.elim
    · rw [if_neg hc] at q5
      exact q5.elim
  · have q3 : ((match c.1.fz, c2.1.fz with
      | .v (.obj c fs), .v (.obj c' gs) => if c = c0 ∧ c' = c0 then (fn [.obj c fs, .obj c' gs]).bind fun r => (match r.2 with
          | .bl k => T.ret (Op.v (.bl k), c2.2)
          | _ => .fail) else .fail
      | _, _ => ret1 ((frc c2.2 c.1.fz).bind fun x => (frc c2.2 c2.1.fz).bind fun y => fEq x y) c2.2) : T (Op × En)).wp _ := q2
    split at q3
    · rename_i i fs j gs h1 h2
      exact absurd ⟨i, fs, j, gs, h1, h2⟩ hobj
    · obtain ⟨z, ez, qz⟩ := wp_ret1 q3
      obtain ⟨x, ex, ez⟩ := Option.bind_eq_some_iff.mp ez
      obtain ⟨y, ey, fx⟩ := Option.bind_eq_some_iff.mp ez
      exact .inr (p_eq S2 H2 v u x y z Q R2.dom (p1.now R2 ex) (p2.now R2 ey) fx (R2.res fun v' H' S' P' e' R' ok => qz v' H' S' P' (e1.trans (e2.trans e')) R' ok))
theorem e_eqU {c0 : Nat} {f : Addr} {fd : FuncData} {ps : List Str} {fn : Fn} {cls : Nat → Addr} (F : FnG X.prog X.w X.K X.mg X.base CX0 k f fd ps (spR X.K cls 2 fn)) (hs : PySem.W.findIn X.K (.ref (cls c0)) "__eq__" = some (some (.ref f))) (hf : PySem.W.isFn X.K (.ref f) = true) (hcl : W.cls = cls) (hK : X.K = W.K) (hr : Room k X.A) (hg : NoG X.A) (hb : Binds X.K fd ps [])
    (ha : PE X a (TV W ra)) (hbb : PE X b (TV W rb)) (hm : behindInMarks .Eq b = false := by rfl) : PE X (.Compare a [.Eq] [b] pos) (TV W (rEqU c0 fn ra rb)) :=
  pe_weak (pe_cmpR ((op_eqI hs hf F hr hg hb).or (op_eqP hr.units)) ha hbb hm) fun _ _ _ h => by rw [hK]; exact tv_eqU (n := 0) (f := f) (fd := fd) (ps := ps) hcl h
theorem e_isC {c0 : Nat} {p : Pos} (c : C8.InsC X.K (W.cls c0)) (hm : X.mg "isinstance" = none) (hv : bootBuiltins "isinstance" = some (.builtin "isinstance")) (ha : PA X [a, b] (TVs W rs)) (hg : Gl X "isinstance" := by rfl)
    (he : starEach [a, b] X.env = (false, eval a X.env) :: starEach [b] X.env := by rfl) (hpl : (backTo pos (starEach [b] X.env)).any (·.1) = false := by rfl) : PE X (.Call (.Name "isinstance" p) [a, b] [] pos) (TV W (runN rs (fIsC c0))) :=
  e_blt (C8.call_isC c) (p_isC c0) hm hv ha hg (by decide) (by decide) he hpl
end
section
variable {W : Wd} {S P : Addr → Prop} {H : Hp} {X : Cx} {k : Nat}
instance {l : List (Run × Run)} [h : ShRuns (prRuns l)] : ShRun (rDsp l) := ⟨fun en => all_seq (h.sh en) fun _ => all_ret1⟩
instance : ShRuns (prRuns []) := ⟨fun en => LkSub.refl _⟩
instance {a b : Run} {l : List (Run × Run)} [h1 : ShRun a] [h2 : ShRun b] [h : ShRuns (prRuns l)] : ShRuns (prRuns ((a, b) :: l)) := ⟨(inferInstance : ShRuns (rCons a (rCons b (prRuns l)))).sh⟩
instance {c0 : Nat} {f : Fn} {ra rb : Run} [h : ShRun ra] [g : ShRun rb] : ShRun (rEqU c0 f ra rb) := ⟨fun en => all_seq (h.sh en) fun a => all_seq (g.sh _) fun b => by
  split
  · split
    · refine T.all_bind (T.all_triv fun r => ?_)
      split
      · exact LkSub.refl _
      · trivial
    · trivial
  · exact all_ret1⟩
/-! tuple * int, the int at least 1 -/
theorem tuple_mul1 (l : Addr) (items : Array Value) (n : Nat) (dd : Option Addr) (sl : Array (Option Value)) (u : Tok) :
    Meets (Builtin.«tuple.__mul__» ⟨[.ref l, .int 1 u], []⟩) (fun _ R s => s.heap.get? l = some { cls := .type "tuple", dict := dd, data := .seq items n, slots := sl } ∧ R (.ok (.ret (Value.ref l))) s) :=
  .of_wp fun prog w A R s h => by
    obtain ⟨hp, g, d, tk, os⟩ := s
    obtain ⟨hl, h⟩ := h
    have f1 := AutoSeq1.idx_int
    wp_walk using wpAny_loadPart' hl
    exact ⟨_, rfl, h⟩
def rRepU (K : PySem.W.Frag) : R2 := fun x y H Q => (∃ l xs, x = .ref l ∧ y = .int 1 ∧ SqT K H l xs ∧ Q (.ref l) H) ∨ rRepT K x y H Q
theorem op_repU : OpR X (binaryOp .Mult) (rRepU X.K) := by
  intro pins s σ H x y v u Q I rx ry h
  rcases h with ⟨l, xs, rfl, rfl, hT, q⟩ | h
  · cases (show v = Value.ref l from rx)
    obtain ⟨t, rfl⟩ := ry
    obtain ⟨its, r, ⟨⟨cls, dd, data, sl⟩, ho, hc, n, hd⟩, hs⟩ := I.tuple hT
    simp only at hc hd
    subst hc hd
    exact wpAny_binaryOp_repeat_ref (T := "tuple") (U := "int") (by decide) ⟨_, ho, rfl⟩ (fun s' => typeIs_int s' 1 t) noFill_tuple_mul F.fills_int_mul F.slot_int_rmul repeat_tuple F.slot_int_index.lookup (call_meets F.slot_int_rmul (typeIs_int s 1 t) F.entry_int_rmul (F.args_int_rmul_2 _ _)
      (int_rmul_tuple 1 t l its.toArray n dd sl) ⟨ho, rfl, ⟨_, ho, rfl⟩, call_meets F.slot_tuple_mul ⟨_, ho, rfl⟩ F.entry_tuple_mul (F.args_tuple_mul_2 _ _) (tuple_mul1 l its.toArray n dd sl t) ⟨ho, .ref l, H, I, rfl, q⟩⟩)
  · exact op_repT pins s σ H x y v u Q I rx ry h
def fRepT (x y : D) : Option (Bool × D) := match x, y with
  | .tup ds, .int i => if i = 1 then some0 (.tup ds) else if 2 ≤ i ∧ i ≤ 1000 ∧ ds ≠ [] ∧ ds.length ≤ 1000 then some0 (.tup (List.replicate i.toNat ds).flatten) else none
  | _, _ => none
theorem DvL.append {xs ys : List V} {ds es : List D} (h : DvL W S H xs ds) (g : DvL W S H ys es) : DvL W S H (xs ++ ys) (ds ++ es) := by
  induction ds generalizing xs with
  | nil => cases h; exact g
  | cons d ds ih => cases h with | cons t dv r => exact .cons t dv (ih r)
theorem DvL.rep {xs : List V} {ds : List D} (h : DvL W S H xs ds) : ∀ n, DvL W S H (List.replicate n xs).flatten (List.replicate n ds).flatten
  | 0 => .nil
  | n + 1 => h.append (DvL.rep h n)
theorem p_repT : Pure2 W (rRepU W.K) fRepT := by
  intro S H x y d e c Q hd hx hy h r
  unfold fRepT at h
  split at h
  · rename_i ds i
    cases hy
    cases hx with
    | @tup a xs _ ha dl =>
      have sq : SqT W.K H a xs := by
        rcases ha with ⟨_, ha⟩ | ha
        · exact SqT.of ha
        · exact ha.to
      split at h
      · rename_i hi
        cases h
        subst hi
        refine .inl ⟨a, xs, rfl, rfl, sq, r (.ref a) H S (fun _ _ e => e) (fun _ h => h) (fun _ h => .inl h) hd (.tup ha dl) (fun _ => trivial) fun z => by cases z⟩
      · split at h
        · rename_i hi
          cases h
          obtain ⟨h1, h2, h3, h4⟩ := hi
          refine .inr ⟨a, i, xs, rfl, rfl, sq, (fun z => h3 (by subst z; cases dl; rfl)), h1, h2, by rw [dl.len]; exact h4, PRes.tup hd (DvL.rep dl i.toNat) r⟩
        · cases h
  · cases h
theorem e_rep {a b : Expr} {ra rb : Run} {pos : Pos} (hK : X.K = W.K) (ha : PE X a (TV W ra)) (hb : PE X b (TV W rb)) : PE X (.BinOp a .Mult b pos) (TV W (run2 ra rb fRepT)) := x_bin (by rw [← hK]; exact op_repU) p_repT ha hb
end
end Sx
set_option Elab.async false
set_option linter.all false
set_option maxRecDepth 100000
set_option maxHeartbeats 4000000
set_option autoImplicit false
namespace Sx
open PySem L2
/-! ### walks over dicts, displays: short names -/
section
variable {W : Wd} {X : Cx} {pos : Pos} {td : TE} {pa : St → Hp → Option Addr} {pth : Pth}
class ShPth (pth : Pth) : Prop where
  sh : ∀ en en1 kvs, pth en = some (en1, kvs) → LkSub en1 en
instance (i : Nat) : ShPth (pthV i) := ⟨fun en en1 kvs h => by
  unfold pthV at h
  split at h
  · cases h; exact LkSub.refl _
  · cases h; exact (LkSub.set (s := some (.fz, _)) (by intro d h; cases h)).trans (LkSub.set (s := none) (by intro d h; cases h))
  · cases h⟩
instance (i c0 : Nat) (f : Str) : ShPth (pthF i c0 f) := ⟨fun en en1 kvs h => by
  unfold pthF at h
  split at h
  · obtain ⟨fs, _, h⟩ := Option.bind_eq_some_iff.mp h
    split at h
    · cases h; exact LkSub.refl _
    · cases h
  · cases h⟩
instance [h : ShPth pth] : ShIt (iKy pth) none := ⟨fun en => T.all_bind (T.all_ofOpt fun r hr => fun en2 g => g.trans (h.sh en r.1 r.2 hr))⟩
instance {run : Run} [h : ShPth pth] [g : ShRun run] : ShRun (rLkd pth run) := ⟨fun en => T.all_bind (T.all_ofOpt fun r hr => T.all_mono (g.sh r.1) fun b hb => hb.trans (h.sh en r.1 r.2 hr))⟩
theorem e_lcD {tg iter elt : Expr} {ifs : List Expr} {scope : Scope} {g : TG} {t : Tg} {is : List Nat} {rt : RunT} {re : Run} [h1 : ShTg t is] [h2 : ShTst rt] [h3 : ShRun re] (own : List (Str × Nat)) (hNd : X.N.Nodup) (bo : BlkOk X.N X.env.scope scope own) (ok : PathOk W td pa pth) (hi : PE X iter td)
    (hg : ∀ (s : Shared) (H : Hp) (C : Addr) (cl : List (Str × Addr)) (fp : List Addr), PG (X.blk s H scope (compEnvC scope cl C X.env) fp) tg g) (gk : GOk W g t is)
    (ht : ∀ (s : Shared) (H : Hp) (C : Addr) (cl : List (Str × Addr)) (fp : List Addr), PTs (X.blk s H scope (compEnvC scope cl C X.env) fp) ifs (TVT W rt))
    (he : ∀ (s : Shared) (H : Hp) (C : Addr) (cl : List (Str × Addr)) (fp : List Addr), PE (X.blk s H scope (compEnvC scope cl C X.env) fp) elt (TV W re)) (his : ∀ i ∈ is, i ∈ own.map (·.2) := by decide) (hc : X.calm = true := by rfl) (hs : ∀ x, foldedSetIterable iter X.env x = pure x := by intro _; rfl) :
    PE X (.ListComp elt [⟨tg, iter, ifs, 0⟩] scope pos) (TV W (rLkd pth (rLc (iKy pth) none t rt re (own.map (·.2))))) :=
  lk_e ok (pe_lc hc hNd (pi_keys hi) bo hg ht he hs) fun σ H Q hl h => tvi_keys ok hl (tv_lc gk h1.sh his h2.sh h3.sh sz4096 h)
theorem e_dcD {tg iter kx vx : Expr} {ifs : List Expr} {scope : Scope} {g : TG} {t : Tg} {is : List Nat} {rt : RunT} {rk re : Run} [h1 : ShTg t is] [h2 : ShTst rt] [h0 : ShRun rk] [h3 : ShRun re] (own : List (Str × Nat)) (hNd : X.N.Nodup) (bo : BlkOk X.N X.env.scope scope own) (ok : PathOk W td pa pth) (hi : PE X iter td)
    (hg : ∀ (s : Shared) (H : Hp) (C : Addr) (cl : List (Str × Addr)) (fp : List Addr), PG (X.blk s H scope (compEnvC scope cl C X.env) fp) tg g) (gk : GOk W g t is)
    (ht : ∀ (s : Shared) (H : Hp) (C : Addr) (cl : List (Str × Addr)) (fp : List Addr), PTs (X.blk s H scope (compEnvC scope cl C X.env) fp) ifs (TVT W rt))
    (hk : ∀ (s : Shared) (H : Hp) (C : Addr) (cl : List (Str × Addr)) (fp : List Addr), PE (X.blk s H scope (compEnvC scope cl C X.env) fp) kx (TV W rk))
    (he : ∀ (s : Shared) (H : Hp) (C : Addr) (cl : List (Str × Addr)) (fp : List Addr), PE (X.blk s H scope (compEnvC scope cl C X.env) fp) vx (TV W re)) (his : ∀ i ∈ is, i ∈ own.map (·.2) := by decide) (hc : X.calm = true := by rfl) (hs : ∀ x, foldedSetIterable iter X.env x = pure x := by intro _; rfl) :
    PE X (.DictComp kx vx [⟨tg, iter, ifs, 0⟩] scope pos) (TV W (rLkd pth (rDc (iKy pth) none t rt rk re (own.map (·.2))))) :=
  lk_e ok (pe_dc hc hNd (pi_keys hi) bo hg ht hk he hs) fun σ H Q hl h => tvi_keys ok hl (tv_dc gk h1.sh his h2.sh h0.sh h3.sh sz4096 h)
theorem dcl_sub {t : Tg} {is : List Nat} {rt : RunT} {rk re : Run} {vs : List Nat} [h : ShTg t is] [h1 : ShTst rt] [h0 : ShRun rk] [h2 : ShRun re] : ∀ (ds : List D) (en : En) (acc : List (Key × D)), (rDcL t rt rk re vs ds en acc).all fun r => LkSub r.2 en
  | [], en, acc => LkSub.refl _
  | d :: ds, en, acc => T.all_bind (T.all_ofOpt fun en1 he => T.all_bind (T.all_mono (h1.sh en1) fun b hb => by
      have z := (h.sh d en en1 he).1
      split
      · exact T.all_bind (T.all_mono (h0.sh b.2) fun k hk => T.all_bind (T.all_ofOpt fun kk _ => T.all_bind (T.all_mono (h2.sh k.2) fun o ho => T.all_bind (T.all_ofOpt fun y _ => T.all_mono (dcl_sub ds (wip o.2 vs) _) fun r hr => hr.trans ((wip_sub vs).trans (ho.trans (hk.trans (hb.trans z))))))))
      · exact T.all_mono (dcl_sub ds (wip b.2 vs) _) fun r hr => hr.trans ((wip_sub vs).trans (hb.trans z))))
instance {ri : RunI} {l : Option Nat} {t : Tg} {is : List Nat} {rt : RunT} {rk re : Run} {vs : List Nat} [h0 : ShIt ri l] [h : ShTg t is] [h1 : ShTst rt] [hk : ShRun rk] [h2 : ShRun re] : ShRun (rDc ri l t rt rk re vs) := ⟨fun en => T.all_bind (T.all_mono (h0.sh en) fun a ha => by
  split
  · exact T.all_bind (T.all_mono (dcl_sub (is := is) a.1 (wip a.2 vs) []) fun r hr => ha _ ((back_sub vs).trans (hr.trans (wip_sub vs))))
  · trivial)⟩
/-! dict displays -/
theorem pp_cons {k v : Expr} {ks : List (Option Expr)} {vs : List Expr} {rk rv : Run} {l : List (Run × Run)} (hk : PE X k (TV W rk)) (hv : PE X v (TV W rv)) (hr : PPs X pos ks vs (l.map fun p => (TV W p.1, TV W p.2))) : PPs X pos (some k :: ks) (v :: vs) (((rk, rv) :: l).map fun p => (TV W p.1, TV W p.2)) := pps_cons hk hv hr
theorem e_disp {keys : List (Option Expr)} {values : List Expr} (l : List (Run × Run)) [hs : ShRuns (prRuns l)] (h : PPs X pos keys values (l.map fun p => (TV W p.1, TV W p.2))) (h1 : keys.all (·.isSome) = true := by rfl) (h2 : keys.length = values.length := by rfl) (h3 : keys ≠ [] := by simp) (h4 : keys.length ≤ 15 := by decide) :
    PE X (.Dict keys values pos) (TV W (rDsp l)) := pe_weak (pe_disp h h1 h2 h3 h4) fun σ H Q q => tv_disp l hs.sh q
end
end Sx
set_option Elab.async false
set_option linter.all false
set_option maxRecDepth 100000
set_option maxHeartbeats 4000000
set_option autoImplicit false
namespace Sx
open PySem L2 PyProof.Rows
/-! ### == of two dicts with plain values -/
def valP (ls : List (Key × PyData)) (k : Key) : Option PyData := (ls.find? fun kv => decide (kv.1 = k)).map (·.2)
def hitB (ls : List (Key × PyData)) (p : Key × PyData) : Bool := match valP ls p.1 with
  | some q => PyData.eqv p.2 q
  | none => false
def eqDK (ks ls : List (Key × PyData)) : Bool := ks.length == ls.length && ks.all (hitB ls)
def DpP (K : PySem.W.Frag) (H : Hp) : List (Key × V) → List (Key × PyData) → Prop := Paired fun x p => x.1 = p.1 ∧ Dp K H x.2 p.2
theorem DpP.val {K : PySem.W.Frag} {H : Hp} {ls : List (Key × V)} {qs : List (Key × PyData)} (h : DpP K H ls qs) (k : Key) : (valV ls k = none ∧ valP qs k = none) ∨ ∃ v q, valV ls k = some v ∧ valP qs k = some q ∧ Dp K H v q := by
  unfold DpP at h
  induction h with
  | nil => exact .inl ⟨rfl, rfl⟩
  | @cons x p xs ps hh _ ih =>
    obtain ⟨h1, h2⟩ := hh
    by_cases e : x.1 = k
    · have e2 : p.1 = k := h1 ▸ e
      refine .inr ⟨x.2, p.2, valV_pos e, ?_, h2⟩
      simp [valP, List.find?_cons, e2]
    · have e2 : ¬ p.1 = k := h1 ▸ e
      have z : valP (p :: ps) k = valP ps k := by simp [valP, List.find?_cons, e2]
      rw [valV_neg e, z]
      exact ih
section
variable {X : Cx} {pins : List (Addr × Obj)} {σ : L2.St} {H : Hp} {s : Shared}
theorem hits_all (I : Inv X pins σ H s) {A : Around} (hu : A.units + 60 < cLine) {ls : List (Key × V)} {vb : List (Key × Value)} {qs : List (Key × PyData)} (rb : KV ls vb) (dq : DpP X.K H ls qs) {ks : List (Key × V)} {va : List (Key × Value)} (ra : KV ks va) :
    ∀ {ps : List (Key × PyData)}, DpP X.K H ks ps → (∀ p ∈ ps, p.2.depth ≤ 60) → PySem.W.KeqHitsP X.prog X.w A s vb va (ps.all (hitB qs)) := by
  unfold KV at ra
  induction ra with
  | nil =>
    intro ps dp _
    cases dp
    exact .nil
  | @cons x u xs us h t k =>
    intro ps dp hd
    obtain ⟨key, v⟩ := u
    obtain ⟨h1, h2⟩ := h
    cases dp with
    | @cons _ p _ ps hp hr =>
      obtain ⟨e1, e2⟩ := hp
      have ih := k hr fun p hm => hd p (List.mem_cons_of_mem _ hm)
      have hk : p.1 = key := e1.symm.trans h1
      rw [List.all_cons]
      rcases dq.val p.1 with ⟨n1, n2⟩ | ⟨y, q, y1, y2, y3⟩
      · have : hitB qs p = false := by unfold hitB; rw [n2]
        rw [this, Bool.false_and]
        refine .miss ?_
        have z := rb.val key
        rw [← hk, n1] at z
        rw [← hk]
        cases e : valueAt vb p.1 with
        | none => rfl
        | some w => rw [e] at z; exact z.elim
      · have : hitB qs p = PyData.eqv p.2 q := by unfold hitB; rw [y2]
        rw [this]
        have z := rb.val key
        rw [← hk, y1] at z
        obtain ⟨w, hw, rw'⟩ := z.some_of
        rw [hk] at hw
        obtain ⟨as, r1⟩ := Dp.reads I p.2 x.2 v e2 h2
        obtain ⟨bs, r2⟩ := Dp.reads I q y w y3 rw'
        have dpp := hd p List.mem_cons_self
        exact .hit hw (SeqAt.EqAt.eqP (SeqAt.eqAt_plain p.2 q A s v w as bs r1 r2 (dp_plain e2) (dp_plain y3) (by omega))) ih
def rEqDD (K : PySem.W.Frag) (g : Bool → Bool) : R2 := fun x y H Q => ∃ a b ks ls ps qs, x = .ref a ∧ y = .ref b ∧ Rd H a (.dK ks) ∧ Rd H b (.dK ls) ∧ DpP K H ks ps ∧ DpP K H ls qs ∧ (∀ p ∈ ps, p.2.depth ≤ 60) ∧ Q (.bl (g (eqDK ps qs))) H
theorem paired_len {α β : Type} {R : α → β → Prop} : ∀ {xs : List α} {ys : List β}, Paired R xs ys → xs.length = ys.length
  | _, _, .nil => rfl
  | _, _, .cons _ r => congrArg Nat.succ (paired_len r)
theorem op_eqDD (hu : X.A.units + 64 < cLine) : OpR X (compareOp .Eq) (rEqDD X.K id) := by
  intro pins s σ H x y v u Q I rx ry h
  obtain ⟨a, b, ks, ls, ps, qs, rfl, rfl, ha, hb, dp, dq, hd, q⟩ := h
  cases (show v = Value.ref a from rx)
  cases (show u = Value.ref b from ry)
  obtain ⟨_, ya, va, ra, da⟩ := dk_rd I.hok ha
  obtain ⟨_, yb, vb, rb, db⟩ := dk_rd I.hok hb
  show wpAny (model X.prog X.w) X.A (richCompare .Eq (.ref a) (.ref b)) (EP X pins σ Q) X.xe s
  refine PySem.W.rcP_dicts (knd := mixKind X.prog X.w) (r := ps.all (hitB qs)) ya yb da db (by omega) (fun _ => hits_all I (by show X.A.units + 1 + 60 < cLine; omega) rb dq ra dp hd) _ _ ?_
  have e1 : va.length = ps.length := by rw [← ra.length]; exact paired_len dp
  have e2 : vb.length = qs.length := by rw [← rb.length]; exact paired_len dq
  rw [e1, e2]
  exact ⟨.bl _, H, I, rfl, q⟩
end
def pyK : List (Key × D) → Option (List (Key × PyData))
  | [] => some []
  | (k, d) :: r => (py d).bind fun p => (pyK r).bind fun ps => some ((k, p) :: ps)
def fEqDD (x y : D) : Option (Bool × D) := match x, y with
  | .dK ds, .dK es => (pyK ds).bind fun ps => (pyK es).bind fun qs => if ps.all fun p => decide (p.2.depth ≤ 60) then some0 (.bl (eqDK ps qs)) else none
  | _, _ => none
section
variable {W : Wd} {S : Addr → Prop} {H : Hp}
theorem pyK_dp : ∀ {vs : List (Key × V)} {ds : List (Key × D)} {ps : List (Key × PyData)}, DvP W S H vs ds → pyK ds = some ps → DpP W.K H vs ps
  | [], _, ps, h, e => by cases h; cases e; exact .nil
  | (k, v) :: vs, _, ps, h, e => by
    cases h with
    | cons t dv r =>
      obtain ⟨p, e1, e⟩ := Option.bind_eq_some_iff.mp e
      obtain ⟨qs, e2, e⟩ := Option.bind_eq_some_iff.mp e
      cases e
      exact .cons ⟨rfl, dv.dp e1⟩ (pyK_dp r e2)
theorem p_eqDD : Pure2 W (rEqDD W.K id) fEqDD := by
  intro S H x y d e c Q hd hx hy h r
  unfold fEqDD at h
  split at h
  · obtain ⟨ps, qs, e1, e2, h⟩ := bind2 h
    split at h
    · rename_i hc
      cases h
      obtain ⟨a, vs, rfl, ha, dp⟩ := hx.dK_at
      obtain ⟨b, ws, rfl, hb, dq⟩ := hy.dK_at
      exact ⟨a, b, vs, ws, ps, qs, rfl, rfl, ha, hb, pyK_dp dp e1, pyK_dp dq e2, fun p hp => of_decide_eq_true (List.all_eq_true.mp hc p hp), r.bl hd⟩
    · cases h
  · cases h
theorem e_eqDD {X : Cx} {k : Nat} {a b : Expr} {ra rb : Run} {pos : Pos} (hK : X.K = W.K) (hr : Room k X.A) (ha : PE X a (TV W ra)) (hb : PE X b (TV W rb)) (hm : behindInMarks .Eq b = false := by rfl) : PE X (.Compare a [.Eq] [b] pos) (TV W (run2 ra rb fEqDD)) := x_cmp (by rw [← hK]; exact op_eqDD hr.units) p_eqDD ha hb hm
end
section
variable {W : Wd} {X : Cx} {k : Nat} {a b : Expr} {ra rb : Run} {pos : Pos}
theorem t_eqU {c0 : Nat} {f : Addr} {fd : FuncData} {ps : List Str} {fn : Fn} {cls : Nat → Addr} (F : FnG X.prog X.w X.K X.mg X.base CX0 k f fd ps (spR X.K cls 2 fn)) (hs : PySem.W.findIn X.K (.ref (cls c0)) "__eq__" = some (some (.ref f))) (hf : PySem.W.isFn X.K (.ref f) = true) (hcl : W.cls = cls) (hK : X.K = W.K) (hr : Room k X.A) (hg : NoG X.A) (hb : Binds X.K fd ps [])
    (ha : PE X a (TV W ra)) (hbb : PE X b (TV W rb)) (hm : behindInMarks .Eq b = false := by rfl) : PT X (.Compare a [.Eq] [b] pos) (TVT W (toT (rEqU c0 fn ra rb))) :=
  pt_weak (pt_cmpR ((op_eqI hs hf F hr hg hb).or (op_eqP hr.units)) ha hbb hm) fun _ _ _ h => by rw [hK]; exact tv_eqU (n := 0) (f := f) (fd := fd) (ps := ps) hcl (tvt_tB h)
end
end Sx
set_option Elab.async false
set_option linter.all false
set_option maxRecDepth 100000
set_option maxHeartbeats 4000000
set_option autoImplicit false
namespace Sx
open PySem L2
/-! three keywords, the last first -/
def sw210 {α : Type} (us ws : List α) : List α := match us, ws with
  | [], [a, b, c] => [c, b, a]
  | _, _ => []
theorem pm210 {W : Wd} : PermOk W 3 sw210 sw210 := by
  intro S H vs ds ws es h g
  cases h with
  | cons => exact .nil
  | nil =>
    match g with
    | .nil => exact .nil
    | .cons _ _ .nil => exact .nil
    | .cons _ _ (.cons _ _ .nil) => exact .nil
    | .cons t1 d1 (.cons t2 d2 (.cons t3 d3 .nil)) => exact .cons t3 d3 (.cons t2 d2 (.cons t1 d1 .nil))
    | .cons _ _ (.cons _ _ (.cons _ _ (.cons _ _ _))) => exact .nil
theorem q210_len {rs : Runs} (h : LenR rs 3) : ∀ en : En, (rs en).all fun b => ∀ ds, onlyV b.1 = some ds → (sw210 [] ds).length = 3 := fun en => T.all_mono (h en) fun a ha ds e => by
  have := (onlyV_len e).trans ha
  match ds, this with
  | [a, b, c], _ => rfl
section
variable {K : PySem.W.Frag}
theorem kb210 {x qual p1 p2 p3 : Str} {st : Stmt} {f : Addr} {fd : FuncData} (F : Fun K x qual st f fd)
    (h : ∀ (kV doc pm : Value) (an : Option Addr) (cdv ct a b c : Value), bindArgs (PySem.W.fnOf x qual (defArgs st) (defBody st) (defScope st) .none kV doc pm an cdv ct) ⟨[], [(p3, a), (p2, b), (p1, c)]⟩ = pure [(p1, c), (p2, b), (p3, a)]) : KBinds K fd [p1, p2, p3] [p3, p2, p1] sw210 sw210 := by
  obtain ⟨oc, od, kV, doc, pm, an, cdv, ct, osl, rfl, lk, hcd⟩ := F.ex
  refine ⟨fun s us ws kin hl => ?_, fun {vs us zs ws} r q => ?_⟩
  · match us, ws, hl with
    | [], [a, b, c], _ => exact .of_eq (h kV doc pm an cdv ct a b c)
  · cases r with
    | cons => exact .nil
    | nil =>
      match q with
      | .nil => exact .nil
      | .cons _ .nil => exact .nil
      | .cons _ (.cons _ .nil) => exact .nil
      | .cons t1 (.cons t2 (.cons t3 .nil)) => exact .cons t3 (.cons t2 (.cons t1 .nil))
      | .cons _ (.cons _ (.cons _ (.cons _ _))) => exact .nil
end
theorem kit_self {K : PySem.W.Frag} (a : Addr) : PySem.W.kitOne K (.ref a) (.ref a) = some true := by
  unfold PySem.W.kitOne
  rw [if_pos (show (Value.ref a == Value.ref a) = true from by simp)]
end Sx
set_option Elab.async false
set_option linter.all false
set_option maxRecDepth 100000
set_option maxHeartbeats 1000000
set_option autoImplicit false
namespace Sx
open PySem L2
/-! ### repr tells apart: texts of small letters, None, lists and tuples of such -/
def low (x : Str) : Bool := x.cps.toList.all fun c => decide (97 ≤ c) && decide (c ≤ 122)
mutual
def cl : PyData → Bool
  | .none => true
  | .str x => low x
  | .list xs => clL xs
  | .tuple xs => clL xs
  | _ => false
def clL : List PyData → Bool
  | [] => true
  | x :: xs => cl x && clL xs
end
def shw (p : PyData) : List Nat := p.shown.cps.toList
def tlc (c : Nat) : List PyData → List Nat
  | [] => [c]
  | p :: ps => 44 :: 32 :: (shw p ++ tlc c ps)
theorem cps_app (a b : Str) : (a ++ b).cps.toList = a.cps.toList ++ b.cps.toList := by
  show (a.cps ++ b.cps).toList = _
  exact Array.toList_append
theorem low_plain {x : Str} (h : low x = true) : ∀ c ∈ x.cps.toList, Builtin.Str.reprChar 39 c = [c] ∧ c ≠ 39 := fun c hc => by
  have := List.all_eq_true.mp h c hc
  rw [Bool.and_eq_true, decide_eq_true_eq, decide_eq_true_eq] at this
  have all : ∀ c ∈ List.range' 97 26, Builtin.Str.reprChar 39 c = [c] := by decide +kernel
  exact ⟨all c (by rw [List.mem_range']; exact ⟨c - 97, by omega, by omega⟩), by omega⟩
theorem shw_str {x : Str} (h : low x = true) : shw (.str x) = 39 :: (x.cps.toList ++ [39]) := by
  have pl := low_plain h
  have q : reprQuote x = 39 := by
    unfold reprQuote
    have : x.cps.contains 39 = false := by
      rw [Bool.eq_false_iff]
      intro z
      rw [Array.contains_iff_mem, ← Array.mem_toList_iff] at z
      exact (pl 39 z).2 rfl
    rw [this]
    rfl
  unfold shw
  rw [PyData.shown]
  unfold reprText
  rw [q]
  rw [Array.toList_push, ← Array.foldl_toList]
  have : ∀ (l : List Nat) (acc : Array Nat), (∀ c ∈ l, Builtin.Str.reprChar 39 c = [c]) → (l.foldl (fun out c => out ++ (Builtin.Str.reprChar 39 c).toArray) acc).toList = acc.toList ++ l := by
    intro l
    induction l with
    | nil => intro acc _; simp
    | cons c l ih =>
      intro acc hh
      rw [List.foldl_cons, ih _ fun d hd => hh d (List.mem_cons_of_mem _ hd), hh c List.mem_cons_self]
      simp
  rw [this _ _ fun c hc => (pl c hc).1]
  simp
theorem text_from : ∀ (ts : List PyData) (k : Nat) (acc : Str), 0 < k → (textFrom k acc (PyData.shownAll ts) ++ ("]" : Str)).cps.toList = acc.cps.toList ++ tlc 93 ts
  | [], k, acc, _ => by
    rw [PyData.shownAll, textFrom, cps_app]
    rfl
  | t :: ts, k, acc, h => by
    rw [PyData.shownAll, textFrom, text_from ts (k + 1) _ (by omega), if_pos h, cps_app, cps_app, tlc]
    show _ ++ [44, 32] ++ shw t ++ _ = _
    simp
theorem shw_list (ps : List PyData) : shw (.list ps) = 91 :: (match ps with | [] => [93] | p :: r => shw p ++ tlc 93 r) := by
  unfold shw
  rw [PyData.shown]
  unfold listText
  cases ps with
  | nil => rfl
  | cons p r =>
    rw [PyData.shownAll, textFrom, text_from r _ _ (by decide), cps_app, cps_app]
    rfl
theorem join_tl (c : Nat) : ∀ (p : PyData) (r : List PyData), (Str.join ", " (PyData.shownAll (p :: r))).cps.toList ++ [c] = shw p ++ tlc c r
  | p, [] => rfl
  | p, q :: r => by
    have ih := join_tl c q r
    have e : Str.join ", " (PyData.shownAll (p :: q :: r)) = p.shown ++ ", " ++ Str.join ", " (PyData.shownAll (q :: r)) := by
      rw [PyData.shownAll, PyData.shownAll]
      rfl
    rw [e, cps_app, cps_app, List.append_assoc, ih, tlc]
    show _ ++ [44, 32] ++ _ = _
    simp [shw]
theorem shw_tuple (ps : List PyData) : shw (.tuple ps) = 40 :: (match ps with | [] => [41] | [p] => shw p ++ [44, 41] | p :: q :: r => shw p ++ tlc 41 (q :: r)) := by
  match ps with
  | [] => rfl
  | [p] =>
    unfold shw
    rw [PyData.shown, PyData.shownAll, PyData.shownAll]
    unfold tupleText
    rw [cps_app, cps_app]
    rfl
  | p :: q :: r =>
    have e : shw (.tuple (p :: q :: r)) = 40 :: ((Str.join ", " (PyData.shownAll (p :: q :: r))).cps.toList ++ [41]) := by
      unfold shw
      rw [PyData.shown]
      unfold tupleText
      have l : ((PyData.shownAll (p :: q :: r)).length == 1) = false := by
        rw [PyData.shownAll, PyData.shownAll]
        rfl
      rw [cps_app, cps_app, l]
      rfl
    rw [e, join_tl]
theorem upto39 : ∀ {l m r r' : List Nat}, 39 ∉ l → 39 ∉ m → l ++ 39 :: r = m ++ 39 :: r' → l = m ∧ r = r'
  | [], [], _, _, _, _, h => ⟨rfl, (List.cons.inj h).2⟩
  | [], b :: m, _, _, _, hm, h => absurd (by rw [← (List.cons.inj h).1]; exact List.mem_cons_self) hm
  | a :: l, [], _, _, hl, _, h => absurd (by rw [(List.cons.inj h).1]; exact List.mem_cons_self) hl
  | a :: l, b :: m, _, _, hl, hm, h => by
    obtain ⟨e, h⟩ := List.cons.inj h
    obtain ⟨e2, h2⟩ := upto39 (fun z => hl (List.mem_cons_of_mem _ z)) (fun z => hm (List.mem_cons_of_mem _ z)) h
    exact ⟨by rw [e, e2], h2⟩
theorem shw_none : shw .none = [78, 111, 110, 101] := by
  unfold shw
  rw [PyData.shown]
  rfl
/-- the first sign -/
theorem shw_head {p : PyData} (h : cl p = true) : ∃ c r, shw p = c :: r ∧ c ≠ 93 ∧ c ≠ 41 ∧ c ≠ 44 := by
  cases p with
  | none => exact ⟨78, _, shw_none, by decide, by decide, by decide⟩
  | str x => exact ⟨39, _, shw_str h, by decide, by decide, by decide⟩
  | list xs => exact ⟨91, _, shw_list xs, by decide, by decide, by decide⟩
  | tuple xs => exact ⟨40, _, shw_tuple xs, by decide, by decide, by decide⟩
  | bool b => cases h
  | int i => cases h
  | dict kvs => cases h
theorem clL_cons {p : PyData} {ps : List PyData} (h : clL (p :: ps) = true) : cl p = true ∧ clL ps = true := by
  rw [clL, Bool.and_eq_true] at h
  exact h
mutual
theorem shw_inj : ∀ (p q : PyData) (r r' : List Nat), cl p = true → cl q = true → shw p ++ r = shw q ++ r' → p = q ∧ r = r'
  | .none, .none, r, r', _, _, h => ⟨rfl, List.append_cancel_left h⟩
  | .none, .str y, r, r', _, hq, h => by
    rw [shw_none, shw_str hq] at h
    cases h
  | .none, .list ys, r, r', _, _, h => by
    rw [shw_none, shw_list] at h
    cases h
  | .none, .tuple ys, r, r', _, _, h => by
    rw [shw_none, shw_tuple] at h
    cases h
  | .str x, .none, r, r', hp, _, h => by
    rw [shw_none, shw_str hp] at h
    cases h
  | .str x, .str y, r, r', hp, hq, h => by
    rw [shw_str hp, shw_str hq, List.cons_append, List.cons_append, List.append_assoc, List.append_assoc] at h
    obtain ⟨e, e2⟩ := upto39 (fun z => (low_plain hp 39 z).2 rfl) (fun z => (low_plain hq 39 z).2 rfl) (List.cons.inj h).2
    exact ⟨by rw [PySem.W.str_of_cps e], e2⟩
  | .str x, .list ys, r, r', hp, _, h => by
    rw [shw_str hp, shw_list] at h
    cases h
  | .str x, .tuple ys, r, r', hp, _, h => by
    rw [shw_str hp, shw_tuple] at h
    cases h
  | .list xs, .none, r, r', _, _, h => by
    rw [shw_none, shw_list] at h
    cases h
  | .list xs, .str y, r, r', _, hq, h => by
    rw [shw_list, shw_str hq] at h
    cases h
  | .list xs, .list ys, r, r', hp, hq, h => by
    rw [shw_list, shw_list, List.cons_append, List.cons_append] at h
    have h := (List.cons.inj h).2
    rw [cl] at hp hq
    match xs, ys, hp, hq, h with
    | [], [], _, _, h => exact ⟨rfl, (List.cons.inj h).2⟩
    | [], y :: ys, _, hq, h =>
      obtain ⟨c, t, e, n1, n2, n3⟩ := shw_head (clL_cons hq).1
      simp only [e] at h
      exact absurd (List.cons.inj h).1.symm n1
    | x :: xs, [], hp, _, h =>
      obtain ⟨c, t, e, n1, n2, n3⟩ := shw_head (clL_cons hp).1
      simp only [e] at h
      exact absurd (List.cons.inj h).1 n1
    | x :: xs, y :: ys, hp, hq, h =>
      simp only [List.append_assoc] at h
      obtain ⟨rfl, h2⟩ := shw_inj x y _ _ (clL_cons hp).1 (clL_cons hq).1 h
      obtain ⟨rfl, h3⟩ := tl_inj xs ys 93 _ _ (by decide) (clL_cons hp).2 (clL_cons hq).2 h2
      exact ⟨rfl, h3⟩
  | .list xs, .tuple ys, r, r', _, _, h => by
    rw [shw_list, shw_tuple] at h
    cases h
  | .tuple xs, .none, r, r', _, _, h => by
    rw [shw_none, shw_tuple] at h
    cases h
  | .tuple xs, .str y, r, r', _, hq, h => by
    rw [shw_tuple, shw_str hq] at h
    cases h
  | .tuple xs, .list ys, r, r', _, _, h => by
    rw [shw_list, shw_tuple] at h
    cases h
  | .tuple xs, .tuple ys, r, r', hp, hq, h => by
    rw [shw_tuple, shw_tuple, List.cons_append, List.cons_append] at h
    have h := (List.cons.inj h).2
    rw [cl] at hp hq
    match xs, ys, hp, hq, h with
    | [], [], _, _, h => exact ⟨rfl, (List.cons.inj h).2⟩
    | [], y :: ys, _, hq, h =>
      obtain ⟨c, t, e, n1, n2, n3⟩ := shw_head (clL_cons hq).1
      cases ys <;> (simp only [e] at h; exact absurd (List.cons.inj h).1.symm n2)
    | x :: xs, [], hp, _, h =>
      obtain ⟨c, t, e, n1, n2, n3⟩ := shw_head (clL_cons hp).1
      cases xs <;> (simp only [e] at h; exact absurd (List.cons.inj h).1 n2)
    | [x], [y], hp, hq, h =>
      simp only [List.append_assoc] at h
      obtain ⟨rfl, h2⟩ := shw_inj x y _ _ (clL_cons hp).1 (clL_cons hq).1 h
      exact ⟨rfl, List.append_cancel_left h2⟩
    | [x], y :: y2 :: ys, hp, hq, h =>
      simp only [List.append_assoc] at h
      obtain ⟨rfl, h2⟩ := shw_inj x y _ _ (clL_cons hp).1 (clL_cons hq).1 h
      rw [tlc] at h2
      cases h2
    | x :: x2 :: xs, [y], hp, hq, h =>
      simp only [List.append_assoc] at h
      obtain ⟨rfl, h2⟩ := shw_inj x y _ _ (clL_cons hp).1 (clL_cons hq).1 h
      rw [tlc] at h2
      cases h2
    | x :: x2 :: xs, y :: y2 :: ys, hp, hq, h =>
      simp only [List.append_assoc] at h
      obtain ⟨rfl, h2⟩ := shw_inj x y _ _ (clL_cons hp).1 (clL_cons hq).1 h
      obtain ⟨e, h3⟩ := tl_inj (x2 :: xs) (y2 :: ys) 41 _ _ (by decide) (clL_cons hp).2 (clL_cons hq).2 h2
      exact ⟨by rw [e], h3⟩
  | .bool _, _, _, _, hp, _, _ => by cases hp
  | .int _, _, _, _, hp, _, _ => by cases hp
  | .dict _, _, _, _, hp, _, _ => by cases hp
  | _, .bool _, _, _, _, hq, _ => by cases hq
  | _, .int _, _, _, _, hq, _ => by cases hq
  | _, .dict _, _, _, _, hq, _ => by cases hq
theorem tl_inj : ∀ (ps qs : List PyData) (c : Nat) (r r' : List Nat), c ≠ 44 → clL ps = true → clL qs = true → tlc c ps ++ r = tlc c qs ++ r' → ps = qs ∧ r = r'
  | [], [], c, r, r', _, _, _, h => ⟨rfl, (List.cons.inj h).2⟩
  | [], q :: qs, c, r, r', hc, _, _, h => absurd (List.cons.inj h).1 hc
  | p :: ps, [], c, r, r', hc, _, _, h => absurd (List.cons.inj h).1.symm hc
  | p :: ps, q :: qs, c, r, r', hc, hp, hq, h => by
    rw [tlc, tlc] at h
    simp only [List.cons_append, List.append_assoc] at h
    obtain ⟨rfl, h2⟩ := shw_inj p q _ _ (clL_cons hp).1 (clL_cons hq).1 (List.cons.inj (List.cons.inj h).2).2
    obtain ⟨rfl, h3⟩ := tl_inj ps qs c _ _ hc (clL_cons hp).2 (clL_cons hq).2 h2
    exact ⟨rfl, h3⟩
end
theorem shown_inj {p q : PyData} (hp : cl p = true) (hq : cl q = true) (h : p.shown = q.shown) : p = q :=
  (shw_inj p q [] [] hp hq (by unfold shw; rw [h])).1
end Sx
set_option Elab.async false
set_option linter.all false
set_option maxRecDepth 100000
set_option maxHeartbeats 1000000
set_option autoImplicit false
namespace Sx
open PySem L2 PyProof.Rows
/-! ### repr of None, truth values, and of tuples that hold an empty dict -/
/-- an item of a tuple that repr shows: plain, or an empty dict -/
def Dq (K : PySem.W.Frag) (H : Hp) (v : V) (p : PyData) : Prop := (Dp K H v p ∧ p.hasDict = false) ∨ ∃ a, v = .ref a ∧ p = .dict [] ∧ Rd H a (.dK [])
def DqL (K : PySem.W.Frag) (H : Hp) : List V → List PyData → Prop := Paired (Dq K H)
section
variable {X : Cx} {W : Wd} {pins : List (Addr × Obj)} {σ : L2.St} {H : Hp} {s : Shared}
theorem Dq.reads (I : Inv X pins σ H s) {v : V} {p : PyData} {u : Value} (h : Dq X.K H v p) (r : RelV v u) : ∃ as, Reads s.heap u p as ∧ (p.hasDict = true → sysModules ∉ as) := by
  rcases h with ⟨dp, nd⟩ | ⟨a, rfl, rfl, rd⟩
  · obtain ⟨as, rs⟩ := Dp.reads I p v u dp r
    exact ⟨as, rs, PyData.noDict_hsm nd⟩
  · cases (show u = Value.ref a from r)
    obtain ⟨_, low, vs, kv, dd⟩ := dk_rd I.hok rd
    cases kv
    obtain ⟨o, es, ep, h1, h2, h3, _, h5, _⟩ := dd
    have e : es.toList = [] := by
      generalize es.toList = l at h5
      cases h5
      rfl
    refine ⟨a :: [] ++ [], .dict h1 h2.1 h3 (by rw [e]; exact .nil) (by rw [e]; exact .nil), fun _ z => ?_⟩
    simp at z
    rw [z] at low
    simp at low
end
/-! the rule -/
def shOkD (p : PyData) : Bool := p.showable && p.leavesShort 1000 && decide (p.bulk ≤ 10000) && decide (p.depth ≤ 50)
theorem shOkD_sz {p : PyData} (h : shOkD p = true) : p.shown.length ≤ sizeLine := by
  unfold shOkD at h
  simp only [Bool.and_eq_true, decide_eq_true_eq] at h
  have := PyData.shown_le_bulk 1000 (by decide) p h.1.1.2
  have h2 := h.1.2
  rw [sizeLine_eq]
  omega
def rReprT (K : PySem.W.Frag) : List V → Hp → VK → Prop := fun vs H Q => ∃ a xs ps, vs = [.ref a] ∧ SqT K H a xs ∧ DqL K H xs ps ∧ shOkD (.tuple ps) = true ∧ Q (.str (PyData.tuple ps).shown) H
def rReprO : List V → Hp → VK → Prop := fun vs H Q => (vs = [.non] ∧ Q (.str "None") H) ∨ ∃ b, vs = [.bl b] ∧ Q (.str (if b then "True" else "False")) H
def rReprA (K : PySem.W.Frag) : List V → Hp → VK → Prop := fun vs H Q => rRepr K vs H Q ∨ rReprO vs H Q ∨ rReprT K vs H Q
def pyQ1 : D → Option PyData
  | .dK [] => some (.dict [])
  | d => (py d).bind fun p => if p.hasDict then none else some p
def pyQ : List D → Option (List PyData)
  | [] => some []
  | d :: r => (pyQ1 d).bind fun p => (pyQ r).bind fun ps => some (p :: ps)
def fReprA (ds : List D) : Option (Bool × D) := match ds with
  | [.non] => some0 (.str "None")
  | [.bl b] => some0 (.str (if b then "True" else "False"))
  | [.tup xs] => (pyQ xs).bind fun ps => if shOkD (.tuple ps) then some0 (.str (PyData.tuple ps).shown) else none
  | _ => fRepr ds
section
variable {X : Cx} {W : Wd} {S : Addr → Prop} {H : Hp}
theorem DqL.reads {pins : List (Addr × Obj)} {σ : L2.St} {s : Shared} (I : Inv X pins σ H s) : ∀ {xs : List V} {ps : List PyData} {us : List Value}, DqL X.K H xs ps → Paired RelV xs us → PyData.showableAll ps = true → (∀ t ∈ PyData.shownAll ps, t.length ≤ sizeLine) →
    ∃ as bs, ReadsAll s.heap us ps as ∧ ReadAtMost s.heap (PyData.depthAll ps) bs ∧ ReprAllK X.prog X.w bs s.heap (PyData.depthAll ps) us (PyData.shownAll ps)
  | _, _, _, .nil, .nil, _, _ => ⟨[], [], .nil, (fun _ h => nomatch h), .nil⟩
  | _, p :: ps, _, .cons h t, .cons r rs, sh, sz => by
    have sh : p.showable = true ∧ PyData.showableAll ps = true := by simpa [PyData.showableAll] using sh
    obtain ⟨a1, r1, n1⟩ := Dq.reads I h r
    obtain ⟨a2, b2, r2, m2, k2⟩ := DqL.reads I t rs sh.2 fun t ht => sz t (by rw [PyData.shownAll]; exact List.mem_cons_of_mem _ ht)
    obtain ⟨b1, m1, k1⟩ := ReprK.of_reads (prog := X.prog) (w := X.w) r1 sh.1 n1 (sz _ (by rw [PyData.shownAll]; exact List.mem_cons_self))
    have d1 : p.depth ≤ PyData.depthAll (p :: ps) := by rw [PyData.depthAll]; omega
    have d2 : PyData.depthAll ps ≤ PyData.depthAll (p :: ps) := by rw [PyData.depthAll]; omega
    refine ⟨a1 ++ a2, b1 ++ b2, .cons r1 r2, (m1.mono d1).append (m2.mono d2), ?_⟩
    rw [PyData.shownAll]
    exact .cons ((k1.more fun b hb => List.mem_append_left _ hb).level_le d1) (k2.more_le (fun b hb => List.mem_append_right _ hb) d2)
theorem cr_reprO : CallR X (.builtin "repr") rReprO := by
  intro pins s σ H xs us Q I r h
  rcases h with ⟨rfl, q⟩ | ⟨b, rfl, q⟩
  · obtain ⟨u, rfl, ru⟩ := vals1 r
    cases (show u = Value.none from ru)
    exact PySem.P.repr_of_none ⟨.str "None", H, I.tok _, ⟨_, rfl⟩, q⟩
  · obtain ⟨u, rfl, ru⟩ := vals1 r
    cases (show u = Value.bool b from ru)
    exact PySem.P.repr_of_bool ⟨.str (if b then "True" else "False"), H, I.tok _, ⟨_, rfl⟩, q⟩
theorem cr_reprT (hu : X.A.units + 64 < cLine) (hg : NoG X.A) : CallR X (.builtin "repr") (rReprT X.K) := by
  intro pins s σ H xs us Q I r h
  obtain ⟨a, ys, ps, rfl, hs, hp, ok, q⟩ := h
  obtain ⟨u, rfl, ru⟩ := vals1 r
  cases (show u = Value.ref a from ru)
  obtain ⟨its, rv, ⟨o, ho, hc, n, hd⟩, _⟩ := I.tuple hs
  have sz := shOkD_sz ok
  unfold shOkD at ok
  simp only [Bool.and_eq_true, decide_eq_true_eq] at ok
  obtain ⟨⟨⟨h1, h3⟩, h4⟩, h5⟩ := ok
  have sz' : (tupleText (PyData.shownAll ps)).length ≤ sizeLine := by simpa only [PyData.shown] using sz
  obtain ⟨as, bs, rd, rm, rk⟩ := DqL.reads I hp rv (by simpa [PyData.showable] using h1) fun t ht => Nat.le_trans (tupleText_mem_le ht) sz'
  have hna : a ∉ bs := not_mem_of_deeper (.tuple ho hc hd rd) (by simp only [PyData.depth]; omega) rm
  simp only [PyData.depth] at h5
  refine call_repr_slot (by omega) ⟨o, ho, hc⟩ F.slot_tuple_repr (call_tuple_reprK ho hc hd hna rk hg (fun b _ => Clear.nil b) (by show X.A.units + 1 + _ < cLine; omega) (fun _ _ e => e) (fun h' u tk k => ⟨_, _, rfl, .str (PyData.tuple ps).shown, H, I.kept k, ⟨u, by rw [PyData.shown]⟩, q⟩) sz')
theorem cr_reprA (hu : X.A.units + 64 < cLine) (hg : NoG X.A) : CallR X (.builtin "repr") (rReprA X.K) := by
  intro pins s σ H xs us Q I r h
  rcases h with h | h | h
  · exact cr_repr hu hg pins s σ H xs us Q I r h
  · exact cr_reprO pins s σ H xs us Q I r h
  · exact cr_reprT hu hg pins s σ H xs us Q I r h
theorem pyQ1_dv {v : V} {d : D} {p : PyData} (h : Dv W S H v d) (e : pyQ1 d = some p) : Dq W.K H v p := by
  unfold pyQ1 at e
  split at e
  · cases e
    obtain ⟨a, vs', rfl, ha, dp⟩ := h.dK_at
    cases dp
    exact .inr ⟨a, rfl, rfl, ha⟩
  · obtain ⟨q, e1, e2⟩ := Option.bind_eq_some_iff.mp e
    split at e2
    · cases e2
    · rename_i nd
      cases e2
      exact .inl ⟨h.dp e1, by simpa using nd⟩
theorem pyQ_dv : ∀ {vs : List V} {ds : List D} {ps : List PyData}, DvL W S H vs ds → pyQ ds = some ps → DqL W.K H vs ps
  | _, [], ps, h, e => by
    cases h
    cases e
    exact .nil
  | _, d :: ds, ps, h, e => by
    cases h with
    | cons t dv r =>
      obtain ⟨p, e1, e2⟩ := Option.bind_eq_some_iff.mp e
      obtain ⟨qs, e3, e4⟩ := Option.bind_eq_some_iff.mp e2
      cases e4
      exact .cons (pyQ1_dv dv e1) (pyQ_dv r e3)
theorem p_reprA : PureN W (rReprA W.K) fReprA := by
  intro S H vs ds c Q hd hv h r
  unfold fReprA at h
  split at h
  · cases h
    match vs, hv with
    | [v], ⟨dv, _⟩ =>
      cases dv
      exact .inr (.inl (.inl ⟨rfl, r.str hd⟩))
    | _ :: _ :: _, ⟨_, z⟩ => exact z.elim
    | [], z => exact z.elim
  · rename_i b
    cases h
    match vs, hv with
    | [v], ⟨dv, _⟩ =>
      cases dv
      exact .inr (.inl (.inr ⟨b, rfl, r.str hd⟩))
    | _ :: _ :: _, ⟨_, z⟩ => exact z.elim
    | [], z => exact z.elim
  · obtain ⟨ps, hp, h⟩ := Option.bind_eq_some_iff.mp h
    split at h
    · cases h
      match vs, hv with
      | [v], ⟨dv, _⟩ =>
        cases dv with
        | tup ha dl => exact .inr (.inr ⟨_, _, ps, rfl, tup_sq ha, pyQ_dv dl hp, by assumption, r.str hd⟩)
      | _ :: _ :: _, ⟨_, z⟩ => exact z.elim
      | [], z => exact z.elim
    · cases h
  · exact .inl (p_repr S H vs ds c Q hd hv h r)
end
/-! the empty dict -/
theorem e_dict0 {X : Cx} {W : Wd} {pos : Pos} : PE X (.Dict [] [] pos) (TV W (rDsp [])) := pe_weak pe_dnewK fun σ H Q h p hp => by
  obtain ⟨h1, kvs, h2, h3, h4⟩ := tv_disp [] (fun en => LkSub.refl _) h p hp
  cases kvs with
  | nil =>
    have q : Q (V.ref p) (upd (upd H p (.dK [])) p (.dK [])) := h4
    rw [upd_upd] at q
    exact q
  | cons a b => cases h2
end Sx
set_option Elab.async false
set_option linter.all false
set_option maxRecDepth 100000
set_option maxHeartbeats 4000000
set_option autoImplicit false
namespace Sx
open PySem L2
def top (i : Nat) : Stmt := PySem.Challenge.pw_strangerows_k19_derivations_judged.main.body.getD i (.Pass ⟨0, 0, 0, 0⟩)
abbrev st_w_begin : Stmt := top 14
abbrev st_w_take : Stmt := top 15
abbrev st_is_name : Stmt := top 6
abbrev st_is_set : Stmt := top 8
abbrev st_is_dependency : Stmt := top 9
abbrev st_need_dependencies : Stmt := top 10
abbrev st_need_dependency : Stmt := top 11
abbrev st_is_derivation : Stmt := top 12
abbrev st_w_pick : Stmt := top 16
abbrev st_w_names : Stmt := top 17
abbrev st_w_words : Stmt := top 18
abbrev st_w_set : Stmt := top 19
abbrev st_w_dependency : Stmt := top 20
abbrev st_w_made : Stmt := top 21
abbrev st_w_is_right : Stmt := top 22
abbrev st_w_bent : Stmt := top 23
abbrev st_law : Stmt := top 24
theorem sc_is_name : FnScope ["thing", "letter"] ["thing"] (defScope st_is_name) := ⟨rfl, rfl, rfl, by decide +kernel, rfl, by decide +kernel, by decide +kernel⟩
theorem sc_is_set : FnScope ["thing", "name", "at"] ["thing"] (defScope st_is_set) := ⟨rfl, rfl, rfl, by decide +kernel, rfl, by decide +kernel, by decide +kernel⟩
theorem sc_is_dependency : FnScope ["thing"] ["thing"] (defScope st_is_dependency) := ⟨rfl, rfl, rfl, by decide +kernel, rfl, by decide +kernel, by decide +kernel⟩
theorem sc_need_dependencies : FnScope ["dependencies", "one"] ["dependencies"] (defScope st_need_dependencies) := ⟨rfl, rfl, rfl, by decide +kernel, rfl, by decide +kernel, by decide +kernel⟩
theorem sc_need_dependency : FnScope ["dependency"] ["dependency"] (defScope st_need_dependency) := ⟨rfl, rfl, rfl, by decide +kernel, rfl, by decide +kernel, by decide +kernel⟩
theorem sc_is_derivation : FnScope ["dependencies", "dependency", "value", "known", "step", "name"] ["dependencies", "dependency", "value"] (defScope st_is_derivation) := ⟨rfl, rfl, rfl, by decide +kernel, rfl, by decide +kernel, by decide +kernel⟩
theorem sc_w_pick : FnScope ["_law_draw", "_law_some"] ["_law_draw", "_law_some"] (defScope st_w_pick) := ⟨rfl, rfl, rfl, by decide +kernel, rfl, by decide +kernel, by decide +kernel⟩
theorem sc_w_names : FnScope ["_law_draw", "_law_many", "_law_pool", "_law_letters", "_law_found", "_law_turn", "_law_word", "_law_others", "_law_sign", "_law_letter", "_law_one"] ["_law_draw", "_law_many"] (defScope st_w_names) := ⟨rfl, rfl, rfl, by decide +kernel, rfl, by decide +kernel, by decide +kernel⟩
theorem sc_w_words : FnScope ["_law_draw"] ["_law_draw"] (defScope st_w_words) := ⟨rfl, rfl, rfl, by decide +kernel, rfl, by decide +kernel, by decide +kernel⟩
theorem sc_w_set : FnScope ["_law_draw", "_law_names_here", "_law_name"] ["_law_draw", "_law_names_here"] (defScope st_w_set) := ⟨rfl, rfl, rfl, by decide +kernel, rfl, by decide +kernel, by decide +kernel⟩
theorem sc_w_dependency : FnScope ["_law_draw", "_law_names_here", "_law_column", "_law_name"] ["_law_draw", "_law_names_here"] (defScope st_w_dependency) := ⟨rfl, rfl, rfl, by decide +kernel, rfl, by decide +kernel, by decide +kernel⟩
theorem sc_w_made : FnScope ["_law_draw", "_law_some", "_law_wish", "_law_known", "_law_steps", "_law_turn", "_law_fits", "_law_one", "_law_name"] ["_law_draw", "_law_some", "_law_wish"] (defScope st_w_made) := ⟨rfl, rfl, rfl, by decide +kernel, rfl, by decide +kernel, by decide +kernel⟩
theorem sc_w_is_right : FnScope ["_law_thing", "_law_some", "_law_wish", "_law_known", "_law_step", "_law_one", "_law_name"] ["_law_thing", "_law_some", "_law_wish"] (defScope st_w_is_right) := ⟨rfl, rfl, rfl, by decide +kernel, rfl, by decide +kernel, by decide +kernel⟩
theorem sc_w_bent : FnScope ["_law_draw", "_law_thing", "_law_some", "_law_names_here", "_law_way", "_law_at", "_law_one", "_law_column", "_law_odd"] ["_law_draw", "_law_thing", "_law_some", "_law_names_here"] (defScope st_w_bent) := ⟨rfl, rfl, rfl, by decide +kernel, rfl, by decide +kernel, by decide +kernel⟩
theorem sc_law : FnScope ["_law_script", "_law_draw", "_law_turn", "_law_names_here", "_law_some", "_law_again", "_law_wish", "_law_thing", "_law_bend", "_law_copy", "_law_found", "_law_k"] ["_law_script"] (defScope st_law) := ⟨rfl, rfl, rfl, by decide +kernel, rfl, by decide +kernel, by decide +kernel⟩
structure Ad where
  (a_w_begin a_w_take a_is_name a_is_set a_is_dependency a_need_dependencies a_need_dependency a_is_derivation a_w_pick a_w_names a_w_words a_w_set a_w_dependency a_w_made a_w_is_right a_w_bent a_law : Addr)
  (fd_w_begin fd_w_take fd_is_name fd_is_set fd_is_dependency fd_need_dependencies fd_need_dependency fd_is_derivation fd_w_pick fd_w_names fd_w_words fd_w_set fd_w_dependency fd_w_made fd_w_is_right fd_w_bent fd_law : FuncData)
  (t_LETTERS t_LONGEST_NAME : Tok)
abbrev Ad.cls (A : Ad) : Nat → Addr := fun _ => 0
structure Tx (K : PySem.W.Frag) (mg : Str → Option Value) (A : Ad) : Prop where
  F_w_begin : Fun K "_law_begin" "_law_begin" st_w_begin A.a_w_begin A.fd_w_begin
  m_w_begin : mg "_law_begin" = some (.ref A.a_w_begin)
  b_w_begin : Binds K A.fd_w_begin ["_law_script"] []
  F_w_take : Fun K "_law_take" "_law_take" st_w_take A.a_w_take A.fd_w_take
  m_w_take : mg "_law_take" = some (.ref A.a_w_take)
  b_w_take : Binds K A.fd_w_take ["_law_draw", "_law_bound"] []
  F_is_name : Fun K "is_name" "is_name" st_is_name A.a_is_name A.fd_is_name
  m_is_name : mg "is_name" = some (.ref A.a_is_name)
  b_is_name : Binds K A.fd_is_name ["thing"] []
  F_is_set : Fun K "is_set" "is_set" st_is_set A.a_is_set A.fd_is_set
  m_is_set : mg "is_set" = some (.ref A.a_is_set)
  b_is_set : Binds K A.fd_is_set ["thing"] []
  F_is_dependency : Fun K "is_dependency" "is_dependency" st_is_dependency A.a_is_dependency A.fd_is_dependency
  m_is_dependency : mg "is_dependency" = some (.ref A.a_is_dependency)
  b_is_dependency : Binds K A.fd_is_dependency ["thing"] []
  F_need_dependencies : Fun K "need_dependencies" "need_dependencies" st_need_dependencies A.a_need_dependencies A.fd_need_dependencies
  m_need_dependencies : mg "need_dependencies" = some (.ref A.a_need_dependencies)
  b_need_dependencies : Binds K A.fd_need_dependencies ["dependencies"] []
  F_need_dependency : Fun K "need_dependency" "need_dependency" st_need_dependency A.a_need_dependency A.fd_need_dependency
  m_need_dependency : mg "need_dependency" = some (.ref A.a_need_dependency)
  b_need_dependency : Binds K A.fd_need_dependency ["dependency"] []
  F_is_derivation : Fun K "is_derivation" "is_derivation" st_is_derivation A.a_is_derivation A.fd_is_derivation
  m_is_derivation : mg "is_derivation" = some (.ref A.a_is_derivation)
  b_is_derivation : Binds K A.fd_is_derivation ["dependencies", "dependency", "value"] []
  F_w_pick : Fun K "_law_pick" "_law_pick" st_w_pick A.a_w_pick A.fd_w_pick
  m_w_pick : mg "_law_pick" = some (.ref A.a_w_pick)
  b_w_pick : Binds K A.fd_w_pick ["_law_draw", "_law_some"] []
  F_w_names : Fun K "_law_names" "_law_names" st_w_names A.a_w_names A.fd_w_names
  m_w_names : mg "_law_names" = some (.ref A.a_w_names)
  b_w_names : Binds K A.fd_w_names ["_law_draw", "_law_many"] []
  F_w_words : Fun K "_law_words" "_law_words" st_w_words A.a_w_words A.fd_w_words
  m_w_words : mg "_law_words" = some (.ref A.a_w_words)
  b_w_words : Binds K A.fd_w_words ["_law_draw"] []
  F_w_set : Fun K "_law_set" "_law_set" st_w_set A.a_w_set A.fd_w_set
  m_w_set : mg "_law_set" = some (.ref A.a_w_set)
  b_w_set : Binds K A.fd_w_set ["_law_draw", "_law_names_here"] []
  F_w_dependency : Fun K "_law_dependency" "_law_dependency" st_w_dependency A.a_w_dependency A.fd_w_dependency
  m_w_dependency : mg "_law_dependency" = some (.ref A.a_w_dependency)
  b_w_dependency : Binds K A.fd_w_dependency ["_law_draw", "_law_names_here"] []
  F_w_made : Fun K "_law_made" "_law_made" st_w_made A.a_w_made A.fd_w_made
  m_w_made : mg "_law_made" = some (.ref A.a_w_made)
  b_w_made : Binds K A.fd_w_made ["_law_draw", "_law_some", "_law_wish"] []
  F_w_is_right : Fun K "_law_is_right" "_law_is_right" st_w_is_right A.a_w_is_right A.fd_w_is_right
  m_w_is_right : mg "_law_is_right" = some (.ref A.a_w_is_right)
  b_w_is_right : Binds K A.fd_w_is_right ["_law_thing", "_law_some", "_law_wish"] []
  F_w_bent : Fun K "_law_bent" "_law_bent" st_w_bent A.a_w_bent A.fd_w_bent
  m_w_bent : mg "_law_bent" = some (.ref A.a_w_bent)
  b_w_bent : Binds K A.fd_w_bent ["_law_draw", "_law_thing", "_law_some", "_law_names_here"] []
  F_law : Fun K "law" "law" st_law A.a_law A.fd_law
  m_law : mg "law" = some (.ref A.a_law)
  b_law : Binds K A.fd_law ["_law_script"] []
  kb_is_derivation_210 : KBinds K A.fd_is_derivation ["dependencies", "dependency", "value"] ["value", "dependency", "dependencies"] sw210 sw210
  n_abs : mg "abs" = none
  n_all : mg "all" = none
  n_int : mg "int" = none
  n_isinstance : mg "isinstance" = none
  n_len : mg "len" = none
  n_list : mg "list" = none
  n_min : mg "min" = none
  n_range : mg "range" = none
  n_repr : mg "repr" = none
  n_sorted : mg "sorted" = none
  n_str : mg "str" = none
  n_tuple : mg "tuple" = none
  g_LETTERS : mg "LETTERS" = some (.str "abcdefghijklmnopqrstuvwxyz" A.t_LETTERS)
  g_LONGEST_NAME : mg "LONGEST_NAME" = some (.int 8 A.t_LONGEST_NAME)
theorem sc_w_begin : FnScope ["_law_script", "_law_number"] ["_law_script"] (defScope st_w_begin) := ⟨rfl, rfl, rfl, by decide +kernel, rfl, by decide +kernel, by decide +kernel⟩
theorem d_w_begin {Pr : Program} {w : World} {K : PySem.W.Frag} {mg : Str → Option Value} {base : Heap} {A : Ad} (T : Tx K mg A) : FnG Pr w K mg base CX0 1 A.a_w_begin A.fd_w_begin ["_law_script"] (spBegin K) := by
  refine fnG_of T.F_w_begin sc_w_begin (fun vs H Q E h => by obtain ⟨a, ns, rfl, _⟩ := h; rfl) fun cdv A0 outer s H vs Q E hr hg h => ?_
  have nd := sc_w_begin.nd
  refine ⟨_, pss_one (ps_ret (pe_lst (pa_cons (pe_orT (pe_lc (own := [("_law_number", 1)]) (g := gName 1) (tt := tYes) rfl nd (pi_list (pe_slice sl_list (e_own 0) po_none (po_some pe_int))) (blkOk_by (N := ["_law_script", "_law_number"]) (sc := defScope st_w_begin) (by decide +kernel)) (fun _ _ _ _ _ => pg_name (i := 1) nd rfl (Or.inl rfl)) (fun _ _ _ _ _ => pts_nil)
    (fun _ _ _ _ _ => pe_callB call_abs rfl T.n_abs bt_abs (pa_cons (e_own 1) pa_nil))) (pe_one (pe_lst (pa_cons pe_int pa_nil)))) (pa_cons pe_int (pa_cons pe_int (pa_cons pe_int pa_nil)))))), ?_⟩
  exact begin_sem rfl h
theorem sc_w_take : FnScope ["_law_draw", "_law_bound", "_law_numbers", "_law_at", "_law_number"] ["_law_draw", "_law_bound"] (defScope st_w_take) := ⟨rfl, rfl, rfl, by decide +kernel, rfl, by decide +kernel, by decide +kernel⟩
theorem d_w_take {Pr : Program} {w : World} {K : PySem.W.Frag} {mg : Str → Option Value} {base : Heap} {A : Ad} (T : Tx K mg A) : FnG Pr w K mg base CX0 1 A.a_w_take A.fd_w_take ["_law_draw", "_law_bound"] (spR K A.cls 2 f_w_take) := by
  refine fnG_of T.F_w_take sc_w_take (fun vs H Q E h => h.1) fun cdv A0 outer s H vs Q E hr hg h => ?_
  have nd := sc_w_take.nd
  refine ⟨_, pss_cons (ps_set (i := 2) nd rfl (Or.inl rfl) (pe_ix ix_list (e_own 0) pe_int fun _ _ => rfl))
    (pss_cons (ps_set (i := 3) nd rfl (Or.inl rfl) (pe_op op_mod (pe_callTy call_int1 rfl T.n_int bt_int (pa_cons (pe_ix ix_list (e_own 0) pe_int fun _ _ => rfl) pa_nil)) (pe_callB call_len_seq rfl T.n_len bt_len (pa_cons (e_own 2) pa_nil))))
    (pss_cons (ps_set (i := 4) nd rfl (Or.inl rfl) (pe_ix ix_list (e_own 2) (e_own 3) fun _ _ => rfl))
    (pss_cons (ps_if (pt_cmpR op_ge (e_own 4) (pe_op op_pow pe_int pe_int) rfl) (pss_cons (ps_asg (pe_op op_fdivW (e_own 4) (e_own 1)) (pg_sub (e_own 2) (e_own 3) set_list)) (pss_one (ps_ret (pe_op op_mod (pe_callTy call_int1 rfl T.n_int bt_int (pa_cons (e_own 4) pa_nil)) (e_own 1))))) pss_nil)
    (pss_cons (ps_asg (pe_op op_add (pe_ix ix_list (e_own 0) pe_int fun _ _ => rfl) pe_int) (pg_sub (e_own 0) pe_int set_list))
    (pss_cons (ps_asg (pe_op op_add (pe_ix ix_list (e_own 0) pe_int fun _ _ => rfl) pe_int) (pg_sub (e_own 0) pe_int set_list))
    (pss_cons (ps_asg (pe_op op_mod (pe_callTy call_int1 rfl T.n_int bt_int (pa_cons (pe_op op_add (pe_op op_add (pe_op op_add (pe_op op_mul (pe_ix ix_list (e_own 0) pe_int fun _ _ => rfl) pe_int) (e_own 4)) (pe_op op_mul pe_int (pe_ix ix_list (e_own 0) pe_int fun _ _ => rfl))) pe_int) pa_nil)) pe_int) (pg_sub (e_own 0) pe_int set_list))
    (pss_one (ps_ret (pe_op op_mod (pe_op op_fdiv (pe_op op_mod (pe_callTy call_int1 rfl T.n_int bt_int (pa_cons (pe_op op_mul (pe_ix ix_list (e_own 0) pe_int fun _ _ => rfl) (pe_ix ix_list (e_own 0) pe_int fun _ _ => rfl)) pa_nil)) pe_int) pe_int) (e_own 1)))))))))), ?_⟩
  exact take_sem rfl h
section
variable {Pr : Program} {w : World} {K : PySem.W.Frag} {mg : Str → Option Value} {base : Heap} {A : Ad}
def r_is_name : RunS := (sSeq (sIf (toT (rOr (rNot (runN (rCons (rBor 0) (rCons (rC (.ty "str")) rNil)) fIsi)) (rNot (rChn fLe fLe (rC (.int 1)) (runN (rCons (rBor 0) rNil) fLen) (rC (.int 8)))))) (sSeq (sRet (rC (.bl false)))
    sNx) sNx)
    (sSeq (sRet (runN (rCons (rLc (iSeq (rVar 0)) none (tgN 1) rYes (run2 (rBor 1) (rC (.str "abcdefghijklmnopqrstuvwxyz")) fIn) [1]) rNil) fAll))
    sNx))
@[irreducible] def f_is_name : Fn := runFn 2 r_is_name
theorem b_is_name (T : Tx K mg A) (cdv : Value) (A0 : Around) (outer : List PySem.Env) (s : Shared) (H : Hp) (E : XK) (hr : Room 1 (A0.deeper (PyProof.Rows.envOfC "is_name" (defScope st_is_name) s.heap.objs.size A.a_is_name cdv))) (hg : NoG (A0.deeper (PyProof.Rows.envOfC "is_name" (defScope st_is_name) s.heap.objs.size A.a_is_name cdv))) (W : Wd) (hK : W.K = K) (hc : W.cls = A.cls) :
    PSs (cxOf CX0 Pr w K mg base ["thing", "letter"] "is_name" (defScope st_is_name) A.a_is_name cdv A0 outer s H E).nox (defBody st_is_name) (TVS W r_is_name) := by
  obtain ⟨K1, wa, wb, cl1⟩ := W
  subst hK
  subst hc
  exact (z_cons (z_if (t_bool (w_or (t_not (t_val (e_blt cr_isiAll p_isi T.n_isinstance bt_isinstance (a_cons (e_bor 0) (a_cons (e_ty T.n_str bt_str) a_nil))))) (w_or1 (t_not (t_lele rfl hr e_int (e_blt cr_lenAll p_len T.n_len bt_len (a_cons (e_bor 0) a_nil)) (e_gint T.g_LONGEST_NAME)))))) (z_cons (z_ret e_bl)
    z_nil) z_nil)
    (z_cons (z_ret (e_blt (cr_all rfl) p_all T.n_all bt_all (a_cons (e_lc [("letter", 1)] sc_is_name.nd (blkOk_by (N := ["thing", "letter"]) (sc := (defScope st_is_name)) (by decide +kernel)) (x_seq (e_var 0) rfl) (fun _ _ _ _ _ => (pg_name (i := 1) sc_is_name.nd rfl (Or.inl rfl))) (g_name (i := 1)) (fun _ _ _ _ _ => ts_nil) (fun _ _ _ _ _ => (e_in rfl hr (e_bor 1) (e_gstr T.g_LETTERS)))) a_nil)))
    z_nil))
theorem d_is_name (T : Tx K mg A) : FnG Pr w K mg base CX0 2 A.a_is_name A.fd_is_name ["thing"] (spR K A.cls 1 f_is_name) := by
  unfold f_is_name
  exact fn_ok (k := 1) (N := ["thing", "letter"]) (run := r_is_name) T.F_is_name sc_is_name fun cdv A0 outer s H E hr hg W hK hc => b_is_name T cdv A0 outer s H E hr hg W hK hc
def r_is_set : RunS := (sSeq (sIf (toT (rOr (rNot (runN (rCons (rBor 0) (rCons (rC (.ty "tuple")) rNil)) fIsi)) (rNot (runN (rCons (rLc (iSeq (rVar 0)) none (tgN 1) rYes (rCall f_is_name (rCons (rVar 1) rNil)) [1]) rNil) fAll)))) (sSeq (sRet (rC (.bl false)))
    sNx) sNx)
    (sSeq (sRet (runN (rCons (rLc (iRange (rCons (run2 (runN (rCons (rBor 0) rNil) fLen) (rC (.int 1)) fSub) rNil)) none (tgN 2) rYes (run2 (run2 (rBor 0) (rBor 2) fIx) (run2 (rBor 0) (run2 (rBor 2) (rC (.int 1)) fAdd) fIx) fLt) [2]) rNil) fAll))
    sNx))
@[irreducible] def f_is_set : Fn := runFn 3 r_is_set
theorem b_is_set (T : Tx K mg A) (cdv : Value) (A0 : Around) (outer : List PySem.Env) (s : Shared) (H : Hp) (E : XK) (hr : Room 2 (A0.deeper (PyProof.Rows.envOfC "is_set" (defScope st_is_set) s.heap.objs.size A.a_is_set cdv))) (hg : NoG (A0.deeper (PyProof.Rows.envOfC "is_set" (defScope st_is_set) s.heap.objs.size A.a_is_set cdv))) (W : Wd) (hK : W.K = K) (hc : W.cls = A.cls) :
    PSs (cxOf CX0 Pr w K mg base ["thing", "name", "at"] "is_set" (defScope st_is_set) A.a_is_set cdv A0 outer s H E).nox (defBody st_is_set) (TVS W r_is_set) := by
  obtain ⟨K1, wa, wb, cl1⟩ := W
  subst hK
  subst hc
  exact (z_cons (z_if (t_bool (w_or (t_not (t_val (e_blt cr_isiAll p_isi T.n_isinstance bt_isinstance (a_cons (e_bor 0) (a_cons (e_ty T.n_tuple bt_tuple) a_nil))))) (w_or1 (t_not (t_val (e_blt (cr_all rfl) p_all T.n_all bt_all (a_cons (e_lc [("name", 1)] sc_is_set.nd (blkOk_by (N := ["thing", "name", "at"]) (sc := (defScope st_is_set)) (by decide +kernel)) (x_seq (e_var 0) rfl) (fun _ _ _ _ _ => (pg_name (i := 1) sc_is_set.nd rfl (Or.inl rfl))) (g_name (i := 1)) (fun _ _ _ _ _ => ts_nil) (fun _ _ _ _ _ => (e_call ((d_is_name T).mono (by decide)) rfl rfl hr hg T.m_is_name T.F_is_name.kp T.b_is_name (a_cons (e_var 1) a_nil) (LenR.ok (l_cons l_nil))))) a_nil))))))) (z_cons (z_ret e_bl)
    z_nil) z_nil)
    (z_cons (z_ret (e_blt (cr_all rfl) p_all T.n_all bt_all (a_cons (e_lc [("at", 2)] sc_is_set.nd (blkOk_by (N := ["thing", "name", "at"]) (sc := (defScope st_is_set)) (by decide +kernel)) (x_range rfl T.n_range (e_sub (e_blt cr_lenAll p_len T.n_len bt_len (a_cons (e_bor 0) a_nil)) e_int) rfl) (fun _ _ _ _ _ => (pg_name (i := 2) sc_is_set.nd rfl (Or.inl rfl))) (g_name (i := 2)) (fun _ _ _ _ _ => ts_nil) (fun _ _ _ _ _ => (e_lt rfl hr (e_ix rfl (e_bor 0) (e_bor 2)) (e_ix rfl (e_bor 0) (e_add rfl (e_bor 2) e_int))))) a_nil)))
    z_nil))
theorem d_is_set (T : Tx K mg A) : FnG Pr w K mg base CX0 3 A.a_is_set A.fd_is_set ["thing"] (spR K A.cls 1 f_is_set) := by
  unfold f_is_set
  exact fn_ok (k := 2) (N := ["thing", "name", "at"]) (run := r_is_set) T.F_is_set sc_is_set fun cdv A0 outer s H E hr hg W hK hc => b_is_set T cdv A0 outer s H E hr hg W hK hc
def r_is_dependency : RunS := (sSeq (sIf (toT (rOr (rNot (runN (rCons (rBor 0) (rCons (rC (.ty "tuple")) rNil)) fIsi)) (run2 (runN (rCons (rBor 0) rNil) fLen) (rC (.int 2)) fNe))) (sSeq (sRet (rC (.bl false)))
    sNx) sNx)
    (sSeq (sRet (rAnd (rCall f_is_set (rCons (run2 (rBor 0) (rC (.int 0)) fIx) rNil)) (rAnd (rCall f_is_name (rCons (run2 (rBor 0) (rC (.int 1)) fIx) rNil)) (run2 (run2 (rBor 0) (rC (.int 1)) fIx) (run2 (rBor 0) (rC (.int 0)) fIx) fNotIn))))
    sNx))
@[irreducible] def f_is_dependency : Fn := runFn 1 r_is_dependency
theorem b_is_dependency (T : Tx K mg A) (cdv : Value) (A0 : Around) (outer : List PySem.Env) (s : Shared) (H : Hp) (E : XK) (hr : Room 3 (A0.deeper (PyProof.Rows.envOfC "is_dependency" (defScope st_is_dependency) s.heap.objs.size A.a_is_dependency cdv))) (hg : NoG (A0.deeper (PyProof.Rows.envOfC "is_dependency" (defScope st_is_dependency) s.heap.objs.size A.a_is_dependency cdv))) (W : Wd) (hK : W.K = K) (hc : W.cls = A.cls) :
    PSs (cxOf CX0 Pr w K mg base ["thing"] "is_dependency" (defScope st_is_dependency) A.a_is_dependency cdv A0 outer s H E).nox (defBody st_is_dependency) (TVS W r_is_dependency) := by
  obtain ⟨K1, wa, wb, cl1⟩ := W
  subst hK
  subst hc
  exact (z_cons (z_if (t_bool (w_or (t_not (t_val (e_blt cr_isiAll p_isi T.n_isinstance bt_isinstance (a_cons (e_bor 0) (a_cons (e_ty T.n_tuple bt_tuple) a_nil))))) (w_or1 (t_ne rfl hr (e_blt cr_lenAll p_len T.n_len bt_len (a_cons (e_bor 0) a_nil)) e_int)))) (z_cons (z_ret e_bl)
    z_nil) z_nil)
    (z_cons (z_ret (e_and (e_call ((d_is_set T).mono (by decide)) rfl rfl hr hg T.m_is_set T.F_is_set.kp T.b_is_set (a_cons (e_ix rfl (e_bor 0) e_int) a_nil) (LenR.ok (l_cons l_nil))) (e_and (e_call ((d_is_name T).mono (by decide)) rfl rfl hr hg T.m_is_name T.F_is_name.kp T.b_is_name (a_cons (e_ix rfl (e_bor 0) e_int) a_nil) (LenR.ok (l_cons l_nil))) (e_one (e_notIn rfl hr (e_ix rfl (e_bor 0) e_int) (e_ix rfl (e_bor 0) e_int))))))
    z_nil))
theorem d_is_dependency (T : Tx K mg A) : FnG Pr w K mg base CX0 4 A.a_is_dependency A.fd_is_dependency ["thing"] (spR K A.cls 1 f_is_dependency) := by
  unfold f_is_dependency
  exact fn_ok (k := 3) (N := ["thing"]) (run := r_is_dependency) T.F_is_dependency sc_is_dependency fun cdv A0 outer s H E hr hg W hK hc => b_is_dependency T cdv A0 outer s H E hr hg W hK hc
def r_need_dependencies : RunS := (sSeq (sIf (toT (rOr (rNot (runN (rCons (rBor 0) (rCons (rDisp mkT (rCons (rC (.ty "list")) (rCons (rC (.ty "tuple")) rNil))) rNil)) fIsi)) (rNot (runN (rCons (rLc (iSeq (rVar 0)) none (tgN 1) rYes (rCall f_is_dependency (rCons (rVar 1) rNil)) [1]) rNil) fAll)))) (sSeq sFail
    sNx) sNx)
    sNx)
@[irreducible] def f_need_dependencies : Fn := runFn 2 r_need_dependencies
theorem b_need_dependencies (T : Tx K mg A) (cdv : Value) (A0 : Around) (outer : List PySem.Env) (s : Shared) (H : Hp) (E : XK) (hr : Room 4 (A0.deeper (PyProof.Rows.envOfC "need_dependencies" (defScope st_need_dependencies) s.heap.objs.size A.a_need_dependencies cdv))) (hg : NoG (A0.deeper (PyProof.Rows.envOfC "need_dependencies" (defScope st_need_dependencies) s.heap.objs.size A.a_need_dependencies cdv))) (W : Wd) (hK : W.K = K) (hc : W.cls = A.cls) :
    PSs (cxOf CX0 Pr w K mg base ["dependencies", "one"] "need_dependencies" (defScope st_need_dependencies) A.a_need_dependencies cdv A0 outer s H E).nox (defBody st_need_dependencies) (TVS W r_need_dependencies) := by
  obtain ⟨K1, wa, wb, cl1⟩ := W
  subst hK
  subst hc
  exact (z_cons (z_if (t_bool (w_or (t_not (t_val (e_blt cr_isiAll p_isi T.n_isinstance bt_isinstance (a_cons (e_bor 0) (a_cons (e_tup (a_cons (e_ty T.n_list bt_list) (a_cons (e_ty T.n_tuple bt_tuple) a_nil))) a_nil))))) (w_or1 (t_not (t_val (e_blt (cr_all rfl) p_all T.n_all bt_all (a_cons (e_lc [("one", 1)] sc_need_dependencies.nd (blkOk_by (N := ["dependencies", "one"]) (sc := (defScope st_need_dependencies)) (by decide +kernel)) (x_seq (e_var 0) rfl) (fun _ _ _ _ _ => (pg_name (i := 1) sc_need_dependencies.nd rfl (Or.inl rfl))) (g_name (i := 1)) (fun _ _ _ _ _ => ts_nil) (fun _ _ _ _ _ => (e_call ((d_is_dependency T).mono (by decide)) rfl rfl hr hg T.m_is_dependency T.F_is_dependency.kp T.b_is_dependency (a_cons (e_var 1) a_nil) (LenR.ok (l_cons l_nil))))) a_nil))))))) (z_cons s_never
    z_nil) z_nil)
    z_nil)
theorem d_need_dependencies (T : Tx K mg A) : FnG Pr w K mg base CX0 5 A.a_need_dependencies A.fd_need_dependencies ["dependencies"] (spR K A.cls 1 f_need_dependencies) := by
  unfold f_need_dependencies
  exact fn_ok (k := 4) (N := ["dependencies", "one"]) (run := r_need_dependencies) T.F_need_dependencies sc_need_dependencies fun cdv A0 outer s H E hr hg W hK hc => b_need_dependencies T cdv A0 outer s H E hr hg W hK hc
def r_need_dependency : RunS := (sSeq (sIf (toT (rNot (rCall f_is_dependency (rCons (rVar 0) rNil)))) (sSeq sFail
    sNx) sNx)
    sNx)
@[irreducible] def f_need_dependency : Fn := runFn 1 r_need_dependency
theorem b_need_dependency (T : Tx K mg A) (cdv : Value) (A0 : Around) (outer : List PySem.Env) (s : Shared) (H : Hp) (E : XK) (hr : Room 4 (A0.deeper (PyProof.Rows.envOfC "need_dependency" (defScope st_need_dependency) s.heap.objs.size A.a_need_dependency cdv))) (hg : NoG (A0.deeper (PyProof.Rows.envOfC "need_dependency" (defScope st_need_dependency) s.heap.objs.size A.a_need_dependency cdv))) (W : Wd) (hK : W.K = K) (hc : W.cls = A.cls) :
    PSs (cxOf CX0 Pr w K mg base ["dependency"] "need_dependency" (defScope st_need_dependency) A.a_need_dependency cdv A0 outer s H E).nox (defBody st_need_dependency) (TVS W r_need_dependency) := by
  obtain ⟨K1, wa, wb, cl1⟩ := W
  subst hK
  subst hc
  exact (z_cons (z_if (t_not (t_val (e_call ((d_is_dependency T).mono (by decide)) rfl rfl hr hg T.m_is_dependency T.F_is_dependency.kp T.b_is_dependency (a_cons (e_var 0) a_nil) (LenR.ok (l_cons l_nil))))) (z_cons s_never
    z_nil) z_nil)
    z_nil)
theorem d_need_dependency (T : Tx K mg A) : FnG Pr w K mg base CX0 5 A.a_need_dependency A.fd_need_dependency ["dependency"] (spR K A.cls 1 f_need_dependency) := by
  unfold f_need_dependency
  exact fn_ok (k := 4) (N := ["dependency"]) (run := r_need_dependency) T.F_need_dependency sc_need_dependency fun cdv A0 outer s H E hr hg W hK hc => b_need_dependency T cdv A0 outer s H E hr hg W hK hc
def r_is_derivation : RunS := (sSeq (sDrop (rCall f_need_dependencies (rCons (rVar 0) rNil)))
    (sSeq (sDrop (rCall f_need_dependency (rCons (rVar 1) rNil)))
    (sSeq (sIf (toT (rOr (rNot (runN (rCons (rBor 2) (rCons (rC (.ty "list")) rNil)) fIsi)) (run2 (rBor 2) (rDisp mkL rNil) fEq))) (sSeq (sRet (rC (.bl false)))
    sNx) sNx)
    (sSeq (sSet 3 (runN (rCons (run2 (rBor 1) (rC (.int 0)) fIx) rNil) fList))
    (sSeq (sFor (iSeq (rVar 2)) none (tgN 4) (sSeq (sIf (toT (rOr (rNot (rCall f_is_dependency (rCons (rVar 4) rNil))) (run2 (rBor 4) (rBor 0) fNotIn))) (sSeq (sRet (rC (.bl false)))
    sNx) sNx)
    (sSeq (sIf (toT (rOr (run2 (run2 (rBor 4) (rC (.int 1)) fIx) (rBor 3) fIn) (rNot (runN (rCons (rLc (iSeq (run2 (rBor 4) (rC (.int 0)) fIx)) none (tgN 5) rYes (run2 (rBor 5) (rBor 3) fIn) [5]) rNil) fAll)))) (sSeq (sRet (rC (.bl false)))
    sNx) sNx)
    (sSeq (sDrop (rApp 3 (run2 (rBor 4) (rC (.int 1)) fIx)))
    sNx))))
    (sSeq (sRet (run2 (run2 (run2 (rBor 2) (run1 (rC (.int 1)) fNeg) fIx) (rC (.int 1)) fIx) (run2 (rBor 1) (rC (.int 1)) fIx) fEq))
    sNx))))))
@[irreducible] def f_is_derivation : Fn := runFn 6 r_is_derivation
theorem b_is_derivation (T : Tx K mg A) (cdv : Value) (A0 : Around) (outer : List PySem.Env) (s : Shared) (H : Hp) (E : XK) (hr : Room 5 (A0.deeper (PyProof.Rows.envOfC "is_derivation" (defScope st_is_derivation) s.heap.objs.size A.a_is_derivation cdv))) (hg : NoG (A0.deeper (PyProof.Rows.envOfC "is_derivation" (defScope st_is_derivation) s.heap.objs.size A.a_is_derivation cdv))) (W : Wd) (hK : W.K = K) (hc : W.cls = A.cls) :
    PSs (cxOf CX0 Pr w K mg base ["dependencies", "dependency", "value", "known", "step", "name"] "is_derivation" (defScope st_is_derivation) A.a_is_derivation cdv A0 outer s H E).nox (defBody st_is_derivation) (TVS W r_is_derivation) := by
  obtain ⟨K1, wa, wb, cl1⟩ := W
  subst hK
  subst hc
  exact (z_cons (s_drop (e_call ((d_need_dependencies T).mono (by decide)) rfl rfl hr hg T.m_need_dependencies T.F_need_dependencies.kp T.b_need_dependencies (a_cons (e_var 0) a_nil) (LenR.ok (l_cons l_nil))))
    (z_cons (s_drop (e_call ((d_need_dependency T).mono (by decide)) rfl rfl hr hg T.m_need_dependency T.F_need_dependency.kp T.b_need_dependency (a_cons (e_var 1) a_nil) (LenR.ok (l_cons l_nil))))
    (z_cons (z_if (t_bool (w_or (t_not (t_val (e_blt cr_isiAll p_isi T.n_isinstance bt_isinstance (a_cons (e_bor 2) (a_cons (e_ty T.n_list bt_list) a_nil))))) (w_or1 (t_eq rfl hr (e_bor 2) (e_lst a_nil))))) (z_cons (z_ret e_bl)
    z_nil) z_nil)
    (z_cons (s_set 3 sc_is_derivation.nd (e_bty call_list_of p_list T.n_list bt_list (a_cons (e_ix rfl (e_bor 1) e_int) a_nil)))
    (z_cons (s_for (x_seq (e_var 2) rfl) (pg_name (i := 4) sc_is_derivation.nd rfl (by first | exact Or.inl rfl | exact Or.inr rfl)) (g_name (i := 4)) (z_cons (z_if (t_bool (w_or (t_not (t_val (e_call ((d_is_dependency T).mono (by decide)) rfl rfl hr hg T.m_is_dependency T.F_is_dependency.kp T.b_is_dependency (a_cons (e_var 4) a_nil) (LenR.ok (l_cons l_nil))))) (w_or1 (t_notIn rfl hr (e_bor 4) (e_bor 0))))) (z_cons (z_ret e_bl)
    z_nil) z_nil)
    (z_cons (z_if (t_bool (w_or (t_in rfl hr (e_ix rfl (e_bor 4) e_int) (e_bor 3)) (w_or1 (t_not (t_val (e_blt (cr_all rfl) p_all T.n_all bt_all (a_cons (e_lc [("name", 5)] sc_is_derivation.nd (blkOk_by (N := ["dependencies", "dependency", "value", "known", "step", "name"]) (sc := (defScope st_is_derivation)) (by decide +kernel)) (x_seq (e_ix rfl (e_bor 4) e_int) rfl) (fun _ _ _ _ _ => (pg_name (i := 5) sc_is_derivation.nd rfl (Or.inl rfl))) (g_name (i := 5)) (fun _ _ _ _ _ => ts_nil) (fun _ _ _ _ _ => (e_in rfl hr (e_bor 5) (e_bor 3)))) a_nil))))))) (z_cons (z_ret e_bl)
    z_nil) z_nil)
    (z_cons (s_drop (m_app 3 rfl (e_own 3) (e_ix rfl (e_bor 4) e_int)))
    z_nil))))
    (z_cons (z_ret (e_eq rfl hr (e_ix rfl (e_ix rfl (e_bor 2) (e_neg e_int)) e_int) (e_ix rfl (e_bor 1) e_int)))
    z_nil))))))
theorem d_is_derivation (T : Tx K mg A) : FnG Pr w K mg base CX0 6 A.a_is_derivation A.fd_is_derivation ["dependencies", "dependency", "value"] (spR K A.cls 3 f_is_derivation) := by
  unfold f_is_derivation
  exact fn_ok (k := 5) (N := ["dependencies", "dependency", "value", "known", "step", "name"]) (run := r_is_derivation) T.F_is_derivation sc_is_derivation fun cdv A0 outer s H E hr hg W hK hc => b_is_derivation T cdv A0 outer s H E hr hg W hK hc
def r_w_pick : RunS := (sSeq (sRet (run2 (rBor 1) (rCall f_w_take (rCons (rVar 0) (rCons (runN (rCons (rBor 1) rNil) fLen) rNil))) fIx))
    sNx)
@[irreducible] def f_w_pick : Fn := runFn 2 r_w_pick
theorem b_w_pick (T : Tx K mg A) (cdv : Value) (A0 : Around) (outer : List PySem.Env) (s : Shared) (H : Hp) (E : XK) (hr : Room 2 (A0.deeper (PyProof.Rows.envOfC "_law_pick" (defScope st_w_pick) s.heap.objs.size A.a_w_pick cdv))) (hg : NoG (A0.deeper (PyProof.Rows.envOfC "_law_pick" (defScope st_w_pick) s.heap.objs.size A.a_w_pick cdv))) (W : Wd) (hK : W.K = K) (hc : W.cls = A.cls) :
    PSs (cxOf CX0 Pr w K mg base ["_law_draw", "_law_some"] "_law_pick" (defScope st_w_pick) A.a_w_pick cdv A0 outer s H E).nox (defBody st_w_pick) (TVS W r_w_pick) := by
  obtain ⟨K1, wa, wb, cl1⟩ := W
  subst hK
  subst hc
  exact (z_cons (z_ret (e_ix rfl (e_bor 1) (e_call ((d_w_take T).mono (by decide)) rfl rfl hr hg T.m_w_take T.F_w_take.kp T.b_w_take (a_cons (e_var 0) (a_cons (e_blt cr_lenAll p_len T.n_len bt_len (a_cons (e_bor 1) a_nil)) a_nil)) (LenR.ok (l_cons (l_cons l_nil))))))
    z_nil)
theorem d_w_pick (T : Tx K mg A) : FnG Pr w K mg base CX0 3 A.a_w_pick A.fd_w_pick ["_law_draw", "_law_some"] (spR K A.cls 2 f_w_pick) := by
  unfold f_w_pick
  exact fn_ok (k := 2) (N := ["_law_draw", "_law_some"]) (run := r_w_pick) T.F_w_pick sc_w_pick fun cdv A0 outer s H E hr hg W hK hc => b_w_pick T cdv A0 outer s H E hr hg W hK hc
def r_w_names : RunS := (sSeq (sSet 2 (rDisp mkL (rCons (rC (.str "a")) (rCons (rC (.str "b")) (rCons (rC (.str "ab")) (rCons (rC (.str "ba")) (rCons (rC (.str "row")) (rCons (rC (.str "column")) (rCons (rC (.str "one")) (rCons (rC (.str "other")) (rCons (rC (.str "tell")) (rCons (rC (.str "zzzzzzzz")) (rCons (rC (.str "x")) (rCons (rC (.str "y")) (rCons (rC (.str "none")) (rCons (rC (.str "name")) rNil))))))))))))))))
    (sSeq (sPar 3 4 (rC (.str "abcdefghijklmnopqrstuvwxyz")) (rDisp mkL rNil))
    (sSeq (sFor (iRange (rCons (rVar 1) rNil)) none (tgN 5) (sSeq (sSet 6 (rPopI 2 (rCall f_w_take (rCons (rVar 0) (rCons (runN (rCons (rBor 2) rNil) fLen) rNil)))))
    (sSeq (sIf (toT (run2 (rCall f_w_take (rCons (rVar 0) (rCons (rC (.int 3)) rNil))) (rC (.int 0)) fEq)) (sSeq (sSet 6 (rStrM (rC (.str "")) (rCons (rLc (iRange (rCons (run2 (rC (.int 1)) (rCall f_w_take (rCons (rVar 0) (rCons (rC (.int 8)) rNil))) fAdd) rNil)) none (tgN 8) rYes (rCall f_w_pick (rCons (rVar 0) (rCons (rVar 3) rNil))) [8]) rNil) fJoin))
    sNx) sNx)
    (sSeq (sIf (toT (rAnd (run2 (rBor 4) (rDisp mkL rNil) fNe) (run2 (rCall f_w_take (rCons (rVar 0) (rCons (rC (.int 8)) rNil))) (rC (.int 0)) fEq))) (sSeq (sSet 6 (run2 (rSlice (run2 (rBor 4) (run1 (rC (.int 1)) fNeg) fIx) oNone (oSome (run1 (rC (.int 1)) fNeg))) (rCall f_w_pick (rCons (rVar 0) (rCons (rVar 3) rNil))) fAdd))
    sNx) sNx)
    (sSeq (sSet 7 (run2 (rDisp mkL (rCons (rVar 6) rNil)) (rLc (iSeq (rVar 3)) none (tgN 9) rYes (run2 (rSlice (rBor 6) oNone (oSome (rC (.int 7)))) (rBor 9) fAdd) [9]) fAdd))
    (sSeq (sDrop (rApp 4 (run2 (rLc (iSeq (rVar 7)) none (tgN 10) (toT (run2 (rBor 10) (rBor 4) fNotIn)) (rVar 10) [10]) (rC (.int 0)) fIx)))
    sNx))))))
    (sSeq (sRet (rMov 4))
    sNx))))
@[irreducible] def f_w_names : Fn := runFn 11 r_w_names
theorem b_w_names (T : Tx K mg A) (cdv : Value) (A0 : Around) (outer : List PySem.Env) (s : Shared) (H : Hp) (E : XK) (hr : Room 3 (A0.deeper (PyProof.Rows.envOfC "_law_names" (defScope st_w_names) s.heap.objs.size A.a_w_names cdv))) (hg : NoG (A0.deeper (PyProof.Rows.envOfC "_law_names" (defScope st_w_names) s.heap.objs.size A.a_w_names cdv))) (W : Wd) (hK : W.K = K) (hc : W.cls = A.cls) :
    PSs (cxOf CX0 Pr w K mg base ["_law_draw", "_law_many", "_law_pool", "_law_letters", "_law_found", "_law_turn", "_law_word", "_law_others", "_law_sign", "_law_letter", "_law_one"] "_law_names" (defScope st_w_names) A.a_w_names cdv A0 outer s H E).nox (defBody st_w_names) (TVS W r_w_names) := by
  obtain ⟨K1, wa, wb, cl1⟩ := W
  subst hK
  subst hc
  exact (z_cons (s_set 2 sc_w_names.nd (e_lst (a_cons e_str (a_cons e_str (a_cons e_str (a_cons e_str (a_cons e_str (a_cons e_str (a_cons e_str (a_cons e_str (a_cons e_str (a_cons e_str (a_cons e_str (a_cons e_str (a_cons e_str (a_cons e_str a_nil))))))))))))))))
    (z_cons (s_parU 3 4 sc_w_names.nd rfl e_str (e_lst a_nil))
    (z_cons (s_for (x_range rfl T.n_range (e_var 1) rfl) (pg_name (i := 5) sc_w_names.nd rfl (by first | exact Or.inl rfl | exact Or.inr rfl)) (g_name (i := 5)) (z_cons (s_set 6 sc_w_names.nd (m_popI 2 rfl (e_own 2) (e_call ((d_w_take T).mono (by decide)) rfl rfl hr hg T.m_w_take T.F_w_take.kp T.b_w_take (a_cons (e_var 0) (a_cons (e_blt cr_lenAll p_len T.n_len bt_len (a_cons (e_bor 2) a_nil)) a_nil)) (LenR.ok (l_cons (l_cons l_nil))))))
    (z_cons (z_if (t_eq rfl hr (e_call ((d_w_take T).mono (by decide)) rfl rfl hr hg T.m_w_take T.F_w_take.kp T.b_w_take (a_cons (e_var 0) (a_cons e_int a_nil)) (LenR.ok (l_cons (l_cons l_nil)))) e_int) (z_cons (s_set 6 sc_w_names.nd (m_join rfl e_str (e_lc [("_law_sign", 8)] sc_w_names.nd (blkOk_by (N := ["_law_draw", "_law_many", "_law_pool", "_law_letters", "_law_found", "_law_turn", "_law_word", "_law_others", "_law_sign", "_law_letter", "_law_one"]) (sc := (defScope st_w_names)) (by decide +kernel)) (x_range rfl T.n_range (e_add rfl e_int (e_call ((d_w_take T).mono (by decide)) rfl rfl hr hg T.m_w_take T.F_w_take.kp T.b_w_take (a_cons (e_var 0) (a_cons e_int a_nil)) (LenR.ok (l_cons (l_cons l_nil))))) rfl) (fun _ _ _ _ _ => (pg_name (i := 8) sc_w_names.nd rfl (Or.inl rfl))) (g_name (i := 8)) (fun _ _ _ _ _ => ts_nil) (fun _ _ _ _ _ => (e_call ((d_w_pick T).mono (by decide)) rfl rfl hr hg T.m_w_pick T.F_w_pick.kp T.b_w_pick (a_cons (e_var 0) (a_cons (e_var 3) a_nil)) (LenR.ok (l_cons (l_cons l_nil))))))))
    z_nil) z_nil)
    (z_cons (z_if (t_bool (w_and (t_ne rfl hr (e_bor 4) (e_lst a_nil)) (w_and1 (t_eq rfl hr (e_call ((d_w_take T).mono (by decide)) rfl rfl hr hg T.m_w_take T.F_w_take.kp T.b_w_take (a_cons (e_var 0) (a_cons e_int a_nil)) (LenR.ok (l_cons (l_cons l_nil)))) e_int)))) (z_cons (s_set 6 sc_w_names.nd (e_add rfl (e_sl rfl (e_ix rfl (e_bor 4) (e_neg e_int)) o_none (o_some (e_neg e_int))) (e_call ((d_w_pick T).mono (by decide)) rfl rfl hr hg T.m_w_pick T.F_w_pick.kp T.b_w_pick (a_cons (e_var 0) (a_cons (e_var 3) a_nil)) (LenR.ok (l_cons (l_cons l_nil))))))
    z_nil) z_nil)
    (z_cons (s_set 7 sc_w_names.nd (e_add rfl (e_lst (a_cons (e_var 6) a_nil)) (e_lc [("_law_letter", 9)] sc_w_names.nd (blkOk_by (N := ["_law_draw", "_law_many", "_law_pool", "_law_letters", "_law_found", "_law_turn", "_law_word", "_law_others", "_law_sign", "_law_letter", "_law_one"]) (sc := (defScope st_w_names)) (by decide +kernel)) (x_seq (e_var 3) rfl) (fun _ _ _ _ _ => (pg_name (i := 9) sc_w_names.nd rfl (Or.inl rfl))) (g_name (i := 9)) (fun _ _ _ _ _ => ts_nil) (fun _ _ _ _ _ => (e_add rfl (e_sl rfl (e_bor 6) o_none (o_some e_int)) (e_bor 9))))))
    (z_cons (s_drop (m_app 4 rfl (e_own 4) (e_ix rfl (e_lc [("_law_one", 10)] sc_w_names.nd (blkOk_by (N := ["_law_draw", "_law_many", "_law_pool", "_law_letters", "_law_found", "_law_turn", "_law_word", "_law_others", "_law_sign", "_law_letter", "_law_one"]) (sc := (defScope st_w_names)) (by decide +kernel)) (x_seq (e_var 7) rfl) (fun _ _ _ _ _ => (pg_name (i := 10) sc_w_names.nd rfl (Or.inl rfl))) (g_name (i := 10)) (fun _ _ _ _ _ => (pts_one (t_notIn rfl hr (e_bor 10) (e_bor 4)))) (fun _ _ _ _ _ => (e_var 10))) e_int)))
    z_nil))))))
    (z_cons (z_ret (e_mov 4))
    z_nil))))
theorem d_w_names (T : Tx K mg A) : FnG Pr w K mg base CX0 4 A.a_w_names A.fd_w_names ["_law_draw", "_law_many"] (spR K A.cls 2 f_w_names) := by
  unfold f_w_names
  exact fn_ok (k := 3) (N := ["_law_draw", "_law_many", "_law_pool", "_law_letters", "_law_found", "_law_turn", "_law_word", "_law_others", "_law_sign", "_law_letter", "_law_one"]) (run := r_w_names) T.F_w_names sc_w_names fun cdv A0 outer s H E hr hg W hK hc => b_w_names T cdv A0 outer s H E hr hg W hK hc
def r_w_words : RunS := (sSeq (sRet (runN (rCons (rCall f_w_names (rCons (rVar 0) (rCons (rC (.int 5)) rNil))) rNil) fSorted))
    sNx)
@[irreducible] def f_w_words : Fn := runFn 1 r_w_words
theorem b_w_words (T : Tx K mg A) (cdv : Value) (A0 : Around) (outer : List PySem.Env) (s : Shared) (H : Hp) (E : XK) (hr : Room 4 (A0.deeper (PyProof.Rows.envOfC "_law_words" (defScope st_w_words) s.heap.objs.size A.a_w_words cdv))) (hg : NoG (A0.deeper (PyProof.Rows.envOfC "_law_words" (defScope st_w_words) s.heap.objs.size A.a_w_words cdv))) (W : Wd) (hK : W.K = K) (hc : W.cls = A.cls) :
    PSs (cxOf CX0 Pr w K mg base ["_law_draw"] "_law_words" (defScope st_w_words) A.a_w_words cdv A0 outer s H E).nox (defBody st_w_words) (TVS W r_w_words) := by
  obtain ⟨K1, wa, wb, cl1⟩ := W
  subst hK
  subst hc
  exact (z_cons (z_ret (e_blt (cr_sortP hr.units) p_sorted T.n_sorted bt_sorted (a_cons (e_call ((d_w_names T).mono (by decide)) rfl rfl hr hg T.m_w_names T.F_w_names.kp T.b_w_names (a_cons (e_var 0) (a_cons e_int a_nil)) (LenR.ok (l_cons (l_cons l_nil)))) a_nil)))
    z_nil)
theorem d_w_words (T : Tx K mg A) : FnG Pr w K mg base CX0 5 A.a_w_words A.fd_w_words ["_law_draw"] (spR K A.cls 1 f_w_words) := by
  unfold f_w_words
  exact fn_ok (k := 4) (N := ["_law_draw"]) (run := r_w_words) T.F_w_words sc_w_words fun cdv A0 outer s H E hr hg W hK hc => b_w_words T cdv A0 outer s H E hr hg W hK hc
def r_w_set : RunS := (sSeq (sRet (runN (rCons (rLc (iSeq (runN (rCons (rVar 1) rNil) fSorted)) none (tgN 2) (toT (run2 (rCall f_w_take (rCons (rVar 0) (rCons (rC (.int 3)) rNil))) (rC (.int 0)) fEq)) (rVar 2) [2]) rNil) fTuple))
    sNx)
@[irreducible] def f_w_set : Fn := runFn 3 r_w_set
theorem b_w_set (T : Tx K mg A) (cdv : Value) (A0 : Around) (outer : List PySem.Env) (s : Shared) (H : Hp) (E : XK) (hr : Room 2 (A0.deeper (PyProof.Rows.envOfC "_law_set" (defScope st_w_set) s.heap.objs.size A.a_w_set cdv))) (hg : NoG (A0.deeper (PyProof.Rows.envOfC "_law_set" (defScope st_w_set) s.heap.objs.size A.a_w_set cdv))) (W : Wd) (hK : W.K = K) (hc : W.cls = A.cls) :
    PSs (cxOf CX0 Pr w K mg base ["_law_draw", "_law_names_here", "_law_name"] "_law_set" (defScope st_w_set) A.a_w_set cdv A0 outer s H E).nox (defBody st_w_set) (TVS W r_w_set) := by
  obtain ⟨K1, wa, wb, cl1⟩ := W
  subst hK
  subst hc
  exact (z_cons (z_ret (e_bty call_tuple_of p_tuple T.n_tuple bt_tuple (a_cons (e_lc [("_law_name", 2)] sc_w_set.nd (blkOk_by (N := ["_law_draw", "_law_names_here", "_law_name"]) (sc := (defScope st_w_set)) (by decide +kernel)) (x_seq (e_blt (cr_sortP hr.units) p_sorted T.n_sorted bt_sorted (a_cons (e_var 1) a_nil)) rfl) (fun _ _ _ _ _ => (pg_name (i := 2) sc_w_set.nd rfl (Or.inl rfl))) (g_name (i := 2)) (fun _ _ _ _ _ => (pts_one (t_eq rfl hr (e_call ((d_w_take T).mono (by decide)) rfl rfl hr hg T.m_w_take T.F_w_take.kp T.b_w_take (a_cons (e_var 0) (a_cons e_int a_nil)) (LenR.ok (l_cons (l_cons l_nil)))) e_int))) (fun _ _ _ _ _ => (e_var 2))) a_nil)))
    z_nil)
theorem d_w_set (T : Tx K mg A) : FnG Pr w K mg base CX0 3 A.a_w_set A.fd_w_set ["_law_draw", "_law_names_here"] (spR K A.cls 2 f_w_set) := by
  unfold f_w_set
  exact fn_ok (k := 2) (N := ["_law_draw", "_law_names_here", "_law_name"]) (run := r_w_set) T.F_w_set sc_w_set fun cdv A0 outer s H E hr hg W hK hc => b_w_set T cdv A0 outer s H E hr hg W hK hc
def r_w_dependency : RunS := (sSeq (sSet 2 (rCall f_w_pick (rCons (rVar 0) (rCons (rVar 1) rNil))))
    (sSeq (sRet (rDisp mkT (rCons (rCall f_w_set (rCons (rVar 0) (rCons (rLc (iSeq (rVar 1)) none (tgN 3) (toT (run2 (rBor 3) (rBor 2) fNe)) (rVar 3) [3]) rNil))) (rCons (rVar 2) rNil))))
    sNx))
@[irreducible] def f_w_dependency : Fn := runFn 4 r_w_dependency
theorem b_w_dependency (T : Tx K mg A) (cdv : Value) (A0 : Around) (outer : List PySem.Env) (s : Shared) (H : Hp) (E : XK) (hr : Room 3 (A0.deeper (PyProof.Rows.envOfC "_law_dependency" (defScope st_w_dependency) s.heap.objs.size A.a_w_dependency cdv))) (hg : NoG (A0.deeper (PyProof.Rows.envOfC "_law_dependency" (defScope st_w_dependency) s.heap.objs.size A.a_w_dependency cdv))) (W : Wd) (hK : W.K = K) (hc : W.cls = A.cls) :
    PSs (cxOf CX0 Pr w K mg base ["_law_draw", "_law_names_here", "_law_column", "_law_name"] "_law_dependency" (defScope st_w_dependency) A.a_w_dependency cdv A0 outer s H E).nox (defBody st_w_dependency) (TVS W r_w_dependency) := by
  obtain ⟨K1, wa, wb, cl1⟩ := W
  subst hK
  subst hc
  exact (z_cons (s_set 2 sc_w_dependency.nd (e_call ((d_w_pick T).mono (by decide)) rfl rfl hr hg T.m_w_pick T.F_w_pick.kp T.b_w_pick (a_cons (e_var 0) (a_cons (e_var 1) a_nil)) (LenR.ok (l_cons (l_cons l_nil)))))
    (z_cons (z_ret (e_tup (a_cons (e_call ((d_w_set T).mono (by decide)) rfl rfl hr hg T.m_w_set T.F_w_set.kp T.b_w_set (a_cons (e_var 0) (a_cons (e_lc [("_law_name", 3)] sc_w_dependency.nd (blkOk_by (N := ["_law_draw", "_law_names_here", "_law_column", "_law_name"]) (sc := (defScope st_w_dependency)) (by decide +kernel)) (x_seq (e_var 1) rfl) (fun _ _ _ _ _ => (pg_name (i := 3) sc_w_dependency.nd rfl (Or.inl rfl))) (g_name (i := 3)) (fun _ _ _ _ _ => (pts_one (t_ne rfl hr (e_bor 3) (e_bor 2)))) (fun _ _ _ _ _ => (e_var 3))) a_nil)) (LenR.ok (l_cons (l_cons l_nil)))) (a_cons (e_var 2) a_nil))))
    z_nil))
theorem d_w_dependency (T : Tx K mg A) : FnG Pr w K mg base CX0 4 A.a_w_dependency A.fd_w_dependency ["_law_draw", "_law_names_here"] (spR K A.cls 2 f_w_dependency) := by
  unfold f_w_dependency
  exact fn_ok (k := 3) (N := ["_law_draw", "_law_names_here", "_law_column", "_law_name"]) (run := r_w_dependency) T.F_w_dependency sc_w_dependency fun cdv A0 outer s H E hr hg W hK hc => b_w_dependency T cdv A0 outer s H E hr hg W hK hc
def r_w_made : RunS := (sSeq (sPar 3 4 (runN (rCons (run2 (rBor 2) (rC (.int 0)) fIx) rNil) fList) (rDisp mkL rNil))
    (sSeq (sFor (iRange (rCons (rC (.int 6)) rNil)) none (tgN 5) (sSeq (sSet 6 (rLc (iSeq (rVar 1)) none (tgN 7) (toT (rAnd (run2 (run2 (rBor 7) (rC (.int 1)) fIx) (rBor 3) fNotIn) (run2 (rLc (iSeq (run2 (rBor 7) (rC (.int 0)) fIx)) none (tgN 8) (toT (run2 (rBor 8) (rBor 3) fNotIn)) (rVar 8) [8]) (rDisp mkL rNil) fEq))) (rVar 7) [7]))
    (sSeq (sIf (toT (rAnd (run2 (rBor 6) (rDisp mkL rNil) fNe) (run2 (run2 (rBor 2) (rC (.int 1)) fIx) (rBor 3) fNotIn))) (sSeq (sDrop (rApp 4 (rCall f_w_pick (rCons (rVar 0) (rCons (rVar 6) rNil)))))
    (sSeq (sDrop (rApp 3 (run2 (run2 (rBor 4) (run1 (rC (.int 1)) fNeg) fIx) (rC (.int 1)) fIx)))
    sNx)) sNx)
    sNx)))
    (sSeq (sRet (rMov 4))
    sNx)))
@[irreducible] def f_w_made : Fn := runFn 9 r_w_made
theorem b_w_made (T : Tx K mg A) (cdv : Value) (A0 : Around) (outer : List PySem.Env) (s : Shared) (H : Hp) (E : XK) (hr : Room 3 (A0.deeper (PyProof.Rows.envOfC "_law_made" (defScope st_w_made) s.heap.objs.size A.a_w_made cdv))) (hg : NoG (A0.deeper (PyProof.Rows.envOfC "_law_made" (defScope st_w_made) s.heap.objs.size A.a_w_made cdv))) (W : Wd) (hK : W.K = K) (hc : W.cls = A.cls) :
    PSs (cxOf CX0 Pr w K mg base ["_law_draw", "_law_some", "_law_wish", "_law_known", "_law_steps", "_law_turn", "_law_fits", "_law_one", "_law_name"] "_law_made" (defScope st_w_made) A.a_w_made cdv A0 outer s H E).nox (defBody st_w_made) (TVS W r_w_made) := by
  obtain ⟨K1, wa, wb, cl1⟩ := W
  subst hK
  subst hc
  exact (z_cons (s_parU 3 4 sc_w_made.nd rfl (e_bty call_list_of p_list T.n_list bt_list (a_cons (e_ix rfl (e_bor 2) e_int) a_nil)) (e_lst a_nil))
    (z_cons (s_for (x_range rfl T.n_range e_int rfl) (pg_name (i := 5) sc_w_made.nd rfl (by first | exact Or.inl rfl | exact Or.inr rfl)) (g_name (i := 5)) (z_cons (s_setLc 6 [("_law_one", 7)] sc_w_made.nd (blkOk_by (N := ["_law_draw", "_law_some", "_law_wish", "_law_known", "_law_steps", "_law_turn", "_law_fits", "_law_one", "_law_name"]) (sc := (defScope st_w_made)) (by decide +kernel)) (x_seq (e_var 1) rfl) (fun _ _ _ _ _ => (pg_name (i := 7) sc_w_made.nd rfl (Or.inl rfl))) (g_name (i := 7)) (fun _ _ _ _ _ => (pts_one (t_bool (w_and (t_notIn rfl hr (e_ix rfl (e_bor 7) e_int) (e_bor 3)) (w_and1 (t_eq rfl hr (e_lc [("_law_name", 8)] sc_w_made.nd (blkOk_by (N := ["_law_draw", "_law_some", "_law_wish", "_law_known", "_law_steps", "_law_turn", "_law_fits", "_law_one", "_law_name"]) (sc := (relS _ (defScope st_w_made))) (by decide +kernel)) (x_seq (e_ix rfl (e_bor 7) e_int) rfl) (fun _ _ _ _ _ => (pg_name (i := 8) sc_w_made.nd rfl (Or.inl rfl))) (g_name (i := 8)) (fun _ _ _ _ _ => (pts_one (t_notIn rfl hr (e_bor 8) (e_bor 3)))) (fun _ _ _ _ _ => (e_var 8))) (e_lst a_nil))))))) (fun _ _ _ _ _ => (e_var 7)))
    (z_cons (z_if (t_bool (w_and (t_ne rfl hr (e_bor 6) (e_lst a_nil)) (w_and1 (t_notIn rfl hr (e_ix rfl (e_bor 2) e_int) (e_bor 3))))) (z_cons (s_drop (m_app 4 rfl (e_own 4) (e_call ((d_w_pick T).mono (by decide)) rfl rfl hr hg T.m_w_pick T.F_w_pick.kp T.b_w_pick (a_cons (e_var 0) (a_cons (e_var 6) a_nil)) (LenR.ok (l_cons (l_cons l_nil))))))
    (z_cons (s_drop (m_app 3 rfl (e_own 3) (e_ix rfl (e_ix rfl (e_bor 4) (e_neg e_int)) e_int)))
    z_nil)) z_nil)
    z_nil)))
    (z_cons (z_ret (e_mov 4))
    z_nil)))
theorem d_w_made (T : Tx K mg A) : FnG Pr w K mg base CX0 4 A.a_w_made A.fd_w_made ["_law_draw", "_law_some", "_law_wish"] (spR K A.cls 3 f_w_made) := by
  unfold f_w_made
  exact fn_ok (k := 3) (N := ["_law_draw", "_law_some", "_law_wish", "_law_known", "_law_steps", "_law_turn", "_law_fits", "_law_one", "_law_name"]) (run := r_w_made) T.F_w_made sc_w_made fun cdv A0 outer s H E hr hg W hK hc => b_w_made T cdv A0 outer s H E hr hg W hK hc
def r_w_is_right : RunS := (sSeq (sIf (toT (rOr (rNot (runN (rCons (rBor 0) (rCons (rC (.ty "list")) rNil)) fIsi)) (run2 (rBor 0) (rDisp mkL rNil) fEq))) (sSeq (sRet (rC (.bl false)))
    sNx) sNx)
    (sSeq (sSet 3 (runN (rCons (run2 (rBor 2) (rC (.int 0)) fIx) rNil) fList))
    (sSeq (sFor (iSeq (rVar 0)) none (tgN 4) (sSeq (sIf (toT (run2 (runN (rCons (rVar 4) rNil) fReprA) (rLc (iSeq (rVar 1)) none (tgN 5) rYes (runN (rCons (rVar 5) rNil) fReprA) [5]) fNotIn)) (sSeq (sRet (rC (.bl false)))
    sNx) sNx)
    (sSeq (sIf (toT (rOr (run2 (run2 (rBor 4) (rC (.int 1)) fIx) (rBor 3) fIn) (run2 (rLc (iSeq (run2 (rBor 4) (rC (.int 0)) fIx)) none (tgN 6) (toT (run2 (rBor 6) (rBor 3) fNotIn)) (rVar 6) [6]) (rDisp mkL rNil) fNe))) (sSeq (sRet (rC (.bl false)))
    sNx) sNx)
    (sSeq (sDrop (rApp 3 (run2 (rBor 4) (rC (.int 1)) fIx)))
    sNx))))
    (sSeq (sRet (run2 (run2 (rBor 3) (run1 (rC (.int 1)) fNeg) fIx) (run2 (rBor 2) (rC (.int 1)) fIx) fEq))
    sNx))))
@[irreducible] def f_w_is_right : Fn := runFn 7 r_w_is_right
theorem b_w_is_right (T : Tx K mg A) (cdv : Value) (A0 : Around) (outer : List PySem.Env) (s : Shared) (H : Hp) (E : XK) (hr : Room 1 (A0.deeper (PyProof.Rows.envOfC "_law_is_right" (defScope st_w_is_right) s.heap.objs.size A.a_w_is_right cdv))) (hg : NoG (A0.deeper (PyProof.Rows.envOfC "_law_is_right" (defScope st_w_is_right) s.heap.objs.size A.a_w_is_right cdv))) (W : Wd) (hK : W.K = K) (hc : W.cls = A.cls) :
    PSs (cxOf CX0 Pr w K mg base ["_law_thing", "_law_some", "_law_wish", "_law_known", "_law_step", "_law_one", "_law_name"] "_law_is_right" (defScope st_w_is_right) A.a_w_is_right cdv A0 outer s H E).nox (defBody st_w_is_right) (TVS W r_w_is_right) := by
  obtain ⟨K1, wa, wb, cl1⟩ := W
  subst hK
  subst hc
  exact (z_cons (z_if (t_bool (w_or (t_not (t_val (e_blt cr_isiAll p_isi T.n_isinstance bt_isinstance (a_cons (e_bor 0) (a_cons (e_ty T.n_list bt_list) a_nil))))) (w_or1 (t_eq rfl hr (e_bor 0) (e_lst a_nil))))) (z_cons (z_ret e_bl)
    z_nil) z_nil)
    (z_cons (s_set 3 sc_w_is_right.nd (e_bty call_list_of p_list T.n_list bt_list (a_cons (e_ix rfl (e_bor 2) e_int) a_nil)))
    (z_cons (s_for (x_seq (e_var 0) rfl) (pg_name (i := 4) sc_w_is_right.nd rfl (by first | exact Or.inl rfl | exact Or.inr rfl)) (g_name (i := 4)) (z_cons (z_if (t_notIn rfl hr (e_blt (cr_reprA hr.units hg) p_reprA T.n_repr bt_repr (a_cons (e_var 4) a_nil)) (e_lc [("_law_one", 5)] sc_w_is_right.nd (blkOk_by (N := ["_law_thing", "_law_some", "_law_wish", "_law_known", "_law_step", "_law_one", "_law_name"]) (sc := (defScope st_w_is_right)) (by decide +kernel)) (x_seq (e_var 1) rfl) (fun _ _ _ _ _ => (pg_name (i := 5) sc_w_is_right.nd rfl (Or.inl rfl))) (g_name (i := 5)) (fun _ _ _ _ _ => ts_nil) (fun _ _ _ _ _ => (e_blt (cr_reprA hr.units hg) p_reprA T.n_repr bt_repr (a_cons (e_var 5) a_nil))))) (z_cons (z_ret e_bl)
    z_nil) z_nil)
    (z_cons (z_if (t_bool (w_or (t_in rfl hr (e_ix rfl (e_bor 4) e_int) (e_bor 3)) (w_or1 (t_ne rfl hr (e_lc [("_law_name", 6)] sc_w_is_right.nd (blkOk_by (N := ["_law_thing", "_law_some", "_law_wish", "_law_known", "_law_step", "_law_one", "_law_name"]) (sc := (defScope st_w_is_right)) (by decide +kernel)) (x_seq (e_ix rfl (e_bor 4) e_int) rfl) (fun _ _ _ _ _ => (pg_name (i := 6) sc_w_is_right.nd rfl (Or.inl rfl))) (g_name (i := 6)) (fun _ _ _ _ _ => (pts_one (t_notIn rfl hr (e_bor 6) (e_bor 3)))) (fun _ _ _ _ _ => (e_var 6))) (e_lst a_nil))))) (z_cons (z_ret e_bl)
    z_nil) z_nil)
    (z_cons (s_drop (m_app 3 rfl (e_own 3) (e_ix rfl (e_bor 4) e_int)))
    z_nil))))
    (z_cons (z_ret (e_eq rfl hr (e_ix rfl (e_bor 3) (e_neg e_int)) (e_ix rfl (e_bor 2) e_int)))
    z_nil))))
theorem d_w_is_right (T : Tx K mg A) : FnG Pr w K mg base CX0 2 A.a_w_is_right A.fd_w_is_right ["_law_thing", "_law_some", "_law_wish"] (spR K A.cls 3 f_w_is_right) := by
  unfold f_w_is_right
  exact fn_ok (k := 1) (N := ["_law_thing", "_law_some", "_law_wish", "_law_known", "_law_step", "_law_one", "_law_name"]) (run := r_w_is_right) T.F_w_is_right sc_w_is_right fun cdv A0 outer s H E hr hg W hK hc => b_w_is_right T cdv A0 outer s H E hr hg W hK hc
def r_w_bent : RunS := (sSeq (sIf (toT (rNot (runN (rCons (rBor 1) (rCons (rC (.ty "list")) rNil)) fIsi))) (sSeq (sRet (rMov 1))
    sNx) sNx)
    (sSeq (sPar 4 5 (rCall f_w_take (rCons (rVar 0) (rCons (rC (.int 8)) rNil))) (rCall f_w_take (rCons (rVar 0) (rCons (run2 (runN (rCons (rBor 1) rNil) fLen) (rC (.int 1)) fAdd) rNil))))
    (sSeq (sIf (toT (run2 (rBor 4) (rC (.int 0)) fEq)) (sSeq (sRet (rCall f_w_pick (rCons (rVar 0) (rCons (rDisp mkL (rCons (rC .non) (rCons (rDisp mkT rNil) (rCons (runN (rCons (rBor 1) rNil) fTuple) (rCons (rDsp []) (rCons (rC (.str "a")) (rCons (rDisp mkL (rCons (rC .non) rNil)) (rCons (rDisp mkL (rCons (rDisp mkT rNil) rNil)) (rCons (rDisp mkL (rCons (rDisp mkT (rCons (rC (.str "a")) rNil)) rNil)) (rCons (rC (.int 5)) rNil)))))))))) rNil))))
    sNx) sNx)
    (sSeq (sIf (toT (run2 (rBor 4) (rC (.int 1)) fEq)) (sSeq (sRet (run2 (rSlice (rBor 1) oNone (oSome (rVar 5))) (rSlice (rBor 1) (oSome (run2 (rBor 5) (rC (.int 1)) fAdd)) oNone) fAdd))
    sNx) sNx)
    (sSeq (sIf (toT (run2 (rBor 4) (rC (.int 2)) fEq)) (sSeq (sRet (run2 (run2 (rSlice (rBor 1) oNone (oSome (rVar 5))) (run1 (rSlice (rBor 1) (oSome (rVar 5)) (oSome (run2 (rBor 5) (rC (.int 2)) fAdd))) fRev) fAdd) (rSlice (rBor 1) (oSome (run2 (rBor 5) (rC (.int 2)) fAdd)) oNone) fAdd))
    sNx) sNx)
    (sSeq (sIf (toT (run2 (rBor 4) (rC (.int 3)) fEq)) (sSeq (sRet (run2 (run2 (rSlice (rBor 1) oNone (oSome (rVar 5))) (rSlice (rBor 1) (oSome (rVar 5)) (oSome (run2 (rBor 5) (rC (.int 1)) fAdd))) fAdd) (rSlice (rBor 1) (oSome (rVar 5)) oNone) fAdd))
    sNx) sNx)
    (sSeq (sIf (toT (rAnd (run2 (rBor 4) (rC (.int 4)) fEq) (run2 (rBor 2) (rDisp mkL rNil) fNe))) (sSeq (sRet (run2 (run2 (rSlice (rBor 1) oNone (oSome (rVar 5))) (rDisp mkL (rCons (rCall f_w_pick (rCons (rVar 0) (rCons (rVar 2) rNil))) rNil)) fAdd) (rSlice (rBor 1) (oSome (rVar 5)) oNone) fAdd))
    sNx) sNx)
    (sSeq (sIf (toT (run2 (rBor 4) (rC (.int 5)) fEq)) (sSeq (sRet (run2 (run2 (rSlice (rBor 1) oNone (oSome (rVar 5))) (rDisp mkL (rCons (rCall f_w_dependency (rCons (rVar 0) (rCons (rVar 3) rNil))) rNil)) fAdd) (rSlice (rBor 1) (oSome (run2 (rBor 5) (rC (.int 1)) fAdd)) oNone) fAdd))
    sNx) sNx)
    (sSeq (sIf (toT (rOr (run2 (rBor 5) (runN (rCons (rBor 1) rNil) fLen) fEq) (rOr (rNot (runN (rCons (run2 (rBor 1) (rBor 5) fIx) (rCons (rC (.ty "tuple")) rNil)) fIsi)) (run2 (runN (rCons (run2 (rBor 1) (rBor 5) fIx) rNil) fLen) (rC (.int 2)) fNe)))) (sSeq (sRet (rMov 1))
    sNx) sNx)
    (sSeq (sTgt (tgTup 2 (tgCons (tgN 6) (tgCons (tgN 7) tgNil))) (run2 (rBor 1) (rBor 5) fIx))
    (sSeq (sSet 8 (rDisp mkL (rCons (rDisp mkT (rCons (rVar 6) (rCons (rCall f_w_pick (rCons (rVar 0) (rCons (rVar 3) rNil))) rNil))) (rCons (rDisp mkL (rCons (rVar 6) (rCons (rVar 7) rNil))) (rCons (rDisp mkT (rCons (rVar 6) (rCons (rVar 7) (rCons (rVar 7) rNil)))) (rCons (rDisp mkT (rCons (rVar 7) (rCons (rVar 6) rNil))) (rCons (rDisp mkT (rCons (rVar 6) (rCons (rC .non) rNil))) rNil)))))))
    (sSeq (sDrop (rApp 8 (rDisp mkT (rCons (rDisp mkT rNil) (rCons (rVar 7) rNil)))))
    (sSeq (sRet (run2 (run2 (rSlice (rBor 1) oNone (oSome (rVar 5))) (rDisp mkL (rCons (rCall f_w_pick (rCons (rVar 0) (rCons (rVar 8) rNil))) rNil)) fAdd) (rSlice (rBor 1) (oSome (run2 (rBor 5) (rC (.int 1)) fAdd)) oNone) fAdd))
    sNx)))))))))))))
@[irreducible] def f_w_bent : Fn := runFn 9 r_w_bent
theorem b_w_bent (T : Tx K mg A) (cdv : Value) (A0 : Around) (outer : List PySem.Env) (s : Shared) (H : Hp) (E : XK) (hr : Room 4 (A0.deeper (PyProof.Rows.envOfC "_law_bent" (defScope st_w_bent) s.heap.objs.size A.a_w_bent cdv))) (hg : NoG (A0.deeper (PyProof.Rows.envOfC "_law_bent" (defScope st_w_bent) s.heap.objs.size A.a_w_bent cdv))) (W : Wd) (hK : W.K = K) (hc : W.cls = A.cls) :
    PSs (cxOf CX0 Pr w K mg base ["_law_draw", "_law_thing", "_law_some", "_law_names_here", "_law_way", "_law_at", "_law_one", "_law_column", "_law_odd"] "_law_bent" (defScope st_w_bent) A.a_w_bent cdv A0 outer s H E).nox (defBody st_w_bent) (TVS W r_w_bent) := by
  obtain ⟨K1, wa, wb, cl1⟩ := W
  subst hK
  subst hc
  exact (z_cons (z_if (t_not (t_val (e_blt cr_isiAll p_isi T.n_isinstance bt_isinstance (a_cons (e_bor 1) (a_cons (e_ty T.n_list bt_list) a_nil))))) (z_cons (z_ret (e_mov 1))
    z_nil) z_nil)
    (z_cons (s_par 4 5 sc_w_bent.nd (e_call ((d_w_take T).mono (by decide)) rfl rfl hr hg T.m_w_take T.F_w_take.kp T.b_w_take (a_cons (e_var 0) (a_cons e_int a_nil)) (LenR.ok (l_cons (l_cons l_nil)))) (e_call ((d_w_take T).mono (by decide)) rfl rfl hr hg T.m_w_take T.F_w_take.kp T.b_w_take (a_cons (e_var 0) (a_cons (e_add rfl (e_blt cr_lenAll p_len T.n_len bt_len (a_cons (e_bor 1) a_nil)) e_int) a_nil)) (LenR.ok (l_cons (l_cons l_nil)))))
    (z_cons (z_if (t_eq rfl hr (e_bor 4) e_int) (z_cons (z_ret (e_call ((d_w_pick T).mono (by decide)) rfl rfl hr hg T.m_w_pick T.F_w_pick.kp T.b_w_pick (a_cons (e_var 0) (a_cons (e_lst (a_cons e_non (a_cons (e_tup a_nil) (a_cons (e_bty call_tuple_of p_tuple T.n_tuple bt_tuple (a_cons (e_bor 1) a_nil)) (a_cons e_dict0 (a_cons e_str (a_cons (e_lst (a_cons e_non a_nil)) (a_cons (e_lst (a_cons (e_tup a_nil) a_nil)) (a_cons (e_lst (a_cons (e_tup (a_cons e_str a_nil)) a_nil)) (a_cons e_int a_nil)))))))))) a_nil)) (LenR.ok (l_cons (l_cons l_nil)))))
    z_nil) z_nil)
    (z_cons (z_if (t_eq rfl hr (e_bor 4) e_int) (z_cons (z_ret (e_add rfl (e_sl rfl (e_bor 1) o_none (o_some (e_var 5))) (e_sl rfl (e_bor 1) (o_some (e_add rfl (e_bor 5) e_int)) o_none)))
    z_nil) z_nil)
    (z_cons (z_if (t_eq rfl hr (e_bor 4) e_int) (z_cons (z_ret (e_add rfl (e_add rfl (e_sl rfl (e_bor 1) o_none (o_some (e_var 5))) (e_rev rfl (e_sl rfl (e_bor 1) (o_some (e_var 5)) (o_some (e_add rfl (e_bor 5) e_int))))) (e_sl rfl (e_bor 1) (o_some (e_add rfl (e_bor 5) e_int)) o_none)))
    z_nil) z_nil)
    (z_cons (z_if (t_eq rfl hr (e_bor 4) e_int) (z_cons (z_ret (e_add rfl (e_add rfl (e_sl rfl (e_bor 1) o_none (o_some (e_var 5))) (e_sl rfl (e_bor 1) (o_some (e_var 5)) (o_some (e_add rfl (e_bor 5) e_int)))) (e_sl rfl (e_bor 1) (o_some (e_var 5)) o_none)))
    z_nil) z_nil)
    (z_cons (z_if (t_bool (w_and (t_eq rfl hr (e_bor 4) e_int) (w_and1 (t_ne rfl hr (e_bor 2) (e_lst a_nil))))) (z_cons (z_ret (e_add rfl (e_add rfl (e_sl rfl (e_bor 1) o_none (o_some (e_var 5))) (e_lst (a_cons (e_call ((d_w_pick T).mono (by decide)) rfl rfl hr hg T.m_w_pick T.F_w_pick.kp T.b_w_pick (a_cons (e_var 0) (a_cons (e_var 2) a_nil)) (LenR.ok (l_cons (l_cons l_nil)))) a_nil))) (e_sl rfl (e_bor 1) (o_some (e_var 5)) o_none)))
    z_nil) z_nil)
    (z_cons (z_if (t_eq rfl hr (e_bor 4) e_int) (z_cons (z_ret (e_add rfl (e_add rfl (e_sl rfl (e_bor 1) o_none (o_some (e_var 5))) (e_lst (a_cons (e_call ((d_w_dependency T).mono (by decide)) rfl rfl hr hg T.m_w_dependency T.F_w_dependency.kp T.b_w_dependency (a_cons (e_var 0) (a_cons (e_var 3) a_nil)) (LenR.ok (l_cons (l_cons l_nil)))) a_nil))) (e_sl rfl (e_bor 1) (o_some (e_add rfl (e_bor 5) e_int)) o_none)))
    z_nil) z_nil)
    (z_cons (z_if (t_bool (w_or (t_eq rfl hr (e_bor 5) (e_blt cr_lenAll p_len T.n_len bt_len (a_cons (e_bor 1) a_nil))) (w_or (t_not (t_val (e_blt cr_isiAll p_isi T.n_isinstance bt_isinstance (a_cons (e_ix rfl (e_bor 1) (e_bor 5)) (a_cons (e_ty T.n_tuple bt_tuple) a_nil))))) (w_or1 (t_ne rfl hr (e_blt cr_lenAll p_len T.n_len bt_len (a_cons (e_ix rfl (e_bor 1) (e_bor 5)) a_nil)) e_int))))) (z_cons (z_ret (e_mov 1))
    z_nil) z_nil)
    (z_cons (s_tgt (e_ix rfl (e_bor 1) (e_bor 5)) (pg_tup rfl (pgs_cons (pg_name (i := 6) sc_w_bent.nd rfl (by first | exact Or.inl rfl | exact Or.inr rfl)) (pgs_cons (pg_name (i := 7) sc_w_bent.nd rfl (by first | exact Or.inl rfl | exact Or.inr rfl)) pgs_nil))) (g_tup (n := 2) (g_cons (g_name (i := 6)) (g_cons (g_name (i := 7)) g_nil))))
    (z_cons (s_set 8 sc_w_bent.nd (e_lst (a_cons (e_tup (a_cons (e_var 6) (a_cons (e_call ((d_w_pick T).mono (by decide)) rfl rfl hr hg T.m_w_pick T.F_w_pick.kp T.b_w_pick (a_cons (e_var 0) (a_cons (e_var 3) a_nil)) (LenR.ok (l_cons (l_cons l_nil)))) a_nil))) (a_cons (e_lst (a_cons (e_var 6) (a_cons (e_var 7) a_nil))) (a_cons (e_tup (a_cons (e_var 6) (a_cons (e_var 7) (a_cons (e_var 7) a_nil)))) (a_cons (e_tup (a_cons (e_var 7) (a_cons (e_var 6) a_nil))) (a_cons (e_tup (a_cons (e_var 6) (a_cons e_non a_nil))) a_nil)))))))
    (z_cons (s_drop (m_app 8 rfl (e_own 8) (e_tup (a_cons (e_tup a_nil) (a_cons (e_var 7) a_nil)))))
    (z_cons (z_ret (e_add rfl (e_add rfl (e_sl rfl (e_bor 1) o_none (o_some (e_var 5))) (e_lst (a_cons (e_call ((d_w_pick T).mono (by decide)) rfl rfl hr hg T.m_w_pick T.F_w_pick.kp T.b_w_pick (a_cons (e_var 0) (a_cons (e_var 8) a_nil)) (LenR.ok (l_cons (l_cons l_nil)))) a_nil))) (e_sl rfl (e_bor 1) (o_some (e_add rfl (e_bor 5) e_int)) o_none)))
    z_nil)))))))))))))
theorem d_w_bent (T : Tx K mg A) : FnG Pr w K mg base CX0 5 A.a_w_bent A.fd_w_bent ["_law_draw", "_law_thing", "_law_some", "_law_names_here"] (spR K A.cls 4 f_w_bent) := by
  unfold f_w_bent
  exact fn_ok (k := 4) (N := ["_law_draw", "_law_thing", "_law_some", "_law_names_here", "_law_way", "_law_at", "_law_one", "_law_column", "_law_odd"]) (run := r_w_bent) T.F_w_bent sc_w_bent fun cdv A0 outer s H E hr hg W hK hc => b_w_bent T cdv A0 outer s H E hr hg W hK hc
def r_law : RunS := (sSeq (sFor (iRange (rCons (run2 (rC (.int 4)) (runN (rCons (runN (rCons (rBor 0) rNil) fLen) (rCons (rC (.int 12)) rNil)) fMin2) fAdd) rNil)) none (tgN 2) (sSeq (sSet 3 (rCall f_w_words (rCons (rVar 1) rNil)))
    (sSeq (sSet 4 (rLc (iRange (rCons (run2 (rC (.int 1)) (rCall f_w_take (rCons (rVar 1) (rCons (rC (.int 10)) rNil))) fAdd) rNil)) none (tgN 11) rYes (rCall f_w_dependency (rCons (rVar 1) (rCons (rVar 3) rNil))) [11]))
    (sSeq (sFor (iRange (rCons (rC (.int 6)) rNil)) none (tgN 5) (sSeq (sSet 6 (rCall f_w_dependency (rCons (rVar 1) (rCons (rVar 3) rNil))))
    (sSeq (sSet 7 (rCall f_w_made (rCons (rVar 1) (rCons (rVar 4) (rCons (rVar 6) rNil)))))
    (sSeq (sIf (toT (rAnd (run2 (rBor 7) (rDisp mkL rNil) fNe) (run2 (rCall f_w_take (rCons (rVar 1) (rCons (rC (.int 2)) rNil))) (rC (.int 0)) fEq))) (sSeq (sSet 6 (rDisp mkT (rCons (run2 (rBor 6) (rC (.int 0)) fIx) (rCons (run2 (run2 (rBor 7) (run1 (rC (.int 1)) fNeg) fIx) (rC (.int 1)) fIx) rNil))))
    sNx) sNx)
    (sSeq (sFor (iRange (rCons (rCall f_w_take (rCons (rVar 1) (rCons (rC (.int 3)) rNil))) rNil)) none (tgN 8) (sSeq (sSet 7 (rCall f_w_bent (rCons (rVar 1) (rCons (rVar 7) (rCons (rVar 4) (rCons (rVar 3) rNil))))))
    sNx))
    (sSeq (sSet 9 (runN (rCons (rDisp mkT (rCons (rVar 4) (rCons (rVar 6) (rCons (rVar 7) rNil)))) rNil) fReprA))
    (sSeq (sSet 10 (rCallK f_is_derivation sw210 rNil (rCons (rVar 7) (rCons (rVar 6) (rCons (rVar 4) rNil)))))
    (sSeq (sIf (toT (rOr (run2 (runN (rCons (rVar 10) rNil) fReprA) (runN (rCons (rCall f_w_is_right (rCons (rVar 7) (rCons (rVar 4) (rCons (rVar 6) rNil)))) rNil) fReprA) fNe) (run2 (runN (rCons (rDisp mkT (rCons (rVar 4) (rCons (rVar 6) (rCons (rVar 7) rNil)))) rNil) fReprA) (rBor 9) fNe))) (sSeq (sRet (rC (.bl false)))
    sNx) sNx)
    sNx))))))))
    sNx))))
    (sSeq (sRet (rC (.bl true)))
    sNx))
theorem b_law (T : Tx K mg A) (cdv : Value) (A0 : Around) (outer : List PySem.Env) (s : Shared) (H : Hp) (E : XK) (hr : Room 6 (A0.deeper (PyProof.Rows.envOfC "law" (defScope st_law) s.heap.objs.size A.a_law cdv))) (hg : NoG (A0.deeper (PyProof.Rows.envOfC "law" (defScope st_law) s.heap.objs.size A.a_law cdv))) (W : Wd) (hK : W.K = K) (hc : W.cls = A.cls) :
    PSs (cxOf CX0 Pr w K mg base ["_law_script", "_law_draw", "_law_turn", "_law_names_here", "_law_some", "_law_again", "_law_wish", "_law_thing", "_law_bend", "_law_copy", "_law_found", "_law_k"] "law" (defScope st_law) A.a_law cdv A0 outer s H E).nox (restS st_law) (TVS W r_law) := by
  obtain ⟨K1, wa, wb, cl1⟩ := W
  subst hK
  subst hc
  exact (z_cons (s_for (x_range rfl T.n_range (e_add rfl e_int (e_blt (call_min2 rfl) p_min2 T.n_min bt_min (a_cons (e_blt cr_lenAll p_len T.n_len bt_len (a_cons (e_bor 0) a_nil)) (a_cons e_int a_nil)))) rfl) (pg_name (i := 2) sc_law.nd rfl (by first | exact Or.inl rfl | exact Or.inr rfl)) (g_name (i := 2)) (z_cons (s_set 3 sc_law.nd (e_call ((d_w_words T).mono (by decide)) rfl rfl hr hg T.m_w_words T.F_w_words.kp T.b_w_words (a_cons (e_var 1) a_nil) (LenR.ok (l_cons l_nil))))
    (z_cons (s_setLc 4 [("_law_k", 11)] sc_law.nd (blkOk_by (N := ["_law_script", "_law_draw", "_law_turn", "_law_names_here", "_law_some", "_law_again", "_law_wish", "_law_thing", "_law_bend", "_law_copy", "_law_found", "_law_k"]) (sc := (defScope st_law)) (by decide +kernel)) (x_range rfl T.n_range (e_add rfl e_int (e_call ((d_w_take T).mono (by decide)) rfl rfl hr hg T.m_w_take T.F_w_take.kp T.b_w_take (a_cons (e_var 1) (a_cons e_int a_nil)) (LenR.ok (l_cons (l_cons l_nil))))) rfl) (fun _ _ _ _ _ => (pg_name (i := 11) sc_law.nd rfl (Or.inl rfl))) (g_name (i := 11)) (fun _ _ _ _ _ => ts_nil) (fun _ _ _ _ _ => (e_call ((d_w_dependency T).mono (by decide)) rfl rfl hr hg T.m_w_dependency T.F_w_dependency.kp T.b_w_dependency (a_cons (e_var 1) (a_cons (e_var 3) a_nil)) (LenR.ok (l_cons (l_cons l_nil))))))
    (z_cons (s_for (x_range rfl T.n_range e_int rfl) (pg_name (i := 5) sc_law.nd rfl (by first | exact Or.inl rfl | exact Or.inr rfl)) (g_name (i := 5)) (z_cons (s_set 6 sc_law.nd (e_call ((d_w_dependency T).mono (by decide)) rfl rfl hr hg T.m_w_dependency T.F_w_dependency.kp T.b_w_dependency (a_cons (e_var 1) (a_cons (e_var 3) a_nil)) (LenR.ok (l_cons (l_cons l_nil)))))
    (z_cons (s_set 7 sc_law.nd (e_call ((d_w_made T).mono (by decide)) rfl rfl hr hg T.m_w_made T.F_w_made.kp T.b_w_made (a_cons (e_var 1) (a_cons (e_var 4) (a_cons (e_var 6) a_nil))) (LenR.ok (l_cons (l_cons (l_cons l_nil))))))
    (z_cons (z_if (t_bool (w_and (t_ne rfl hr (e_bor 7) (e_lst a_nil)) (w_and1 (t_eq rfl hr (e_call ((d_w_take T).mono (by decide)) rfl rfl hr hg T.m_w_take T.F_w_take.kp T.b_w_take (a_cons (e_var 1) (a_cons e_int a_nil)) (LenR.ok (l_cons (l_cons l_nil)))) e_int)))) (z_cons (s_set 6 sc_law.nd (e_tup (a_cons (e_ix rfl (e_bor 6) e_int) (a_cons (e_ix rfl (e_ix rfl (e_bor 7) (e_neg e_int)) e_int) a_nil))))
    z_nil) z_nil)
    (z_cons (s_for (x_range rfl T.n_range (e_call ((d_w_take T).mono (by decide)) rfl rfl hr hg T.m_w_take T.F_w_take.kp T.b_w_take (a_cons (e_var 1) (a_cons e_int a_nil)) (LenR.ok (l_cons (l_cons l_nil)))) rfl) (pg_name (i := 8) sc_law.nd rfl (by first | exact Or.inl rfl | exact Or.inr rfl)) (g_name (i := 8)) (z_cons (s_set 7 sc_law.nd (e_call ((d_w_bent T).mono (by decide)) rfl rfl hr hg T.m_w_bent T.F_w_bent.kp T.b_w_bent (a_cons (e_var 1) (a_cons (e_var 7) (a_cons (e_var 4) (a_cons (e_var 3) a_nil)))) (LenR.ok (l_cons (l_cons (l_cons (l_cons l_nil)))))))
    z_nil))
    (z_cons (s_set 9 sc_law.nd (e_blt (cr_reprA hr.units hg) p_reprA T.n_repr bt_repr (a_cons (e_tup (a_cons (e_var 4) (a_cons (e_var 6) (a_cons (e_var 7) a_nil)))) a_nil)))
    (z_cons (s_set 10 sc_law.nd (e_callK0 ((d_is_derivation T).mono (by decide)) rfl rfl hr hg T.m_is_derivation T.F_is_derivation.kp T.kb_is_derivation_210 pm210 (k_cons (e_var 7) (k_cons (e_var 6) (k_cons (e_var 4) k_nil))) (q210_len (l_cons (l_cons (l_cons l_nil))))))
    (z_cons (z_if (t_bool (w_or (t_ne rfl hr (e_blt (cr_reprA hr.units hg) p_reprA T.n_repr bt_repr (a_cons (e_var 10) a_nil)) (e_blt (cr_reprA hr.units hg) p_reprA T.n_repr bt_repr (a_cons (e_call ((d_w_is_right T).mono (by decide)) rfl rfl hr hg T.m_w_is_right T.F_w_is_right.kp T.b_w_is_right (a_cons (e_var 7) (a_cons (e_var 4) (a_cons (e_var 6) a_nil))) (LenR.ok (l_cons (l_cons (l_cons l_nil))))) a_nil))) (w_or1 (t_ne rfl hr (e_blt (cr_reprA hr.units hg) p_reprA T.n_repr bt_repr (a_cons (e_tup (a_cons (e_var 4) (a_cons (e_var 6) (a_cons (e_var 7) a_nil)))) a_nil)) (e_bor 9))))) (z_cons (z_ret e_bl)
    z_nil) z_nil)
    z_nil))))))))
    z_nil))))
    (z_cons (z_ret e_bl)
    z_nil))
theorem d_law (T : Tx K mg A) : FnG Pr w K mg base CX0 7 A.a_law A.fd_law ["_law_script"] (spLaw K 12 r_law) :=
  law_ok (k := 6) (cls := A.cls) (N := ["_law_script", "_law_draw", "_law_turn", "_law_names_here", "_law_some", "_law_again", "_law_wish", "_law_thing", "_law_bend", "_law_copy", "_law_found", "_law_k"]) (run := r_law) (s0 := headS st_law) (rest := restS st_law) T.F_law sc_law (by decide) rfl (fun cdv A0 outer s H E hr hg => ps_set (i := 1) sc_law.nd rfl (by first | exact Or.inl rfl | exact Or.inr rfl) (pe_callG ((d_w_begin T).mono (by decide)) hr hg rfl T.m_w_begin T.F_w_begin.kp T.b_w_begin .nil pass0 (pa_cons (e_own 0) pa_nil) (by decide) rfl rfl))
    fun cdv A0 outer s H E hr hg W hK hc => b_law T cdv A0 outer s H E hr hg W hK hc
end
theorem all_mk {l : PySem.W.OpenLaw} {w : World} {K : PySem.W.Frag} {h : Heap} {mg : Str → Option Value} {fa f0 f1 f2 f3 f4 f5 f6 f7 f8 f9 f10 f11 f12 f13 f14 f15 f16 : Addr} (X : K.In h) (G : h.Ns mainGlobals mg) (hfa : mg "law" = some (.ref fa))
    {od0 an0 od1 an1 od2 an2 od3 an3 od4 an4 od5 an5 od6 an6 od7 an7 od8 an8 od9 an9 od10 an10 od11 an11 od12 an12 od13 an13 od14 an14 od15 an15 od16 an16 : Option Addr} {sl0 sl1 sl2 sl3 sl4 sl5 sl6 sl7 sl8 sl9 sl10 sl11 sl12 sl13 sl14 sl15 sl16 : Array (Option Value)} {oc0 kV0 dc0 pm0 cd0 ct0 oc1 kV1 dc1 pm1 cd1 ct1 oc2 kV2 dc2 pm2 cd2 ct2 oc3 kV3 dc3 pm3 cd3 ct3 oc4 kV4 dc4 pm4 cd4 ct4 oc5 kV5 dc5 pm5 cd5 ct5 oc6 kV6 dc6 pm6 cd6 ct6 oc7 kV7 dc7 pm7 cd7 ct7 oc8 kV8 dc8 pm8 cd8 ct8 oc9 kV9 dc9 pm9 cd9 ct9 oc10 kV10 dc10 pm10 cd10 ct10 oc11 kV11 dc11 pm11 cd11 ct11 oc12 kV12 dc12 pm12 cd12 ct12 oc13 kV13 dc13 pm13 cd13 ct13 oc14 kV14 dc14 pm14 cd14 ct14 oc15 kV15 dc15 pm15 cd15 ct15 oc16 kV16 dc16 pm16 cd16 ct16 : Value}
    {tk_LETTERS tk_LONGEST_NAME : Tok}
    (a0 : PySem.W.nsIn K mainGlobals "_law_begin" = some (some (.ref f0))) (l0 : K.lookup f0 = some ⟨oc0, od0, .func (PySem.W.fnOf "_law_begin" "_law_begin" (defArgs st_w_begin) (defBody st_w_begin) (defScope st_w_begin) .none kV0 dc0 pm0 an0 cd0 ct0), sl0⟩) (c0 : PySem.W.codeIn K cd0 "_law_begin" = true) (k0 : PySem.W.keepIn K (.ref f0) = true)
    (a1 : PySem.W.nsIn K mainGlobals "_law_take" = some (some (.ref f1))) (l1 : K.lookup f1 = some ⟨oc1, od1, .func (PySem.W.fnOf "_law_take" "_law_take" (defArgs st_w_take) (defBody st_w_take) (defScope st_w_take) .none kV1 dc1 pm1 an1 cd1 ct1), sl1⟩) (c1 : PySem.W.codeIn K cd1 "_law_take" = true) (k1 : PySem.W.keepIn K (.ref f1) = true)
    (a2 : PySem.W.nsIn K mainGlobals "is_name" = some (some (.ref f2))) (l2 : K.lookup f2 = some ⟨oc2, od2, .func (PySem.W.fnOf "is_name" "is_name" (defArgs st_is_name) (defBody st_is_name) (defScope st_is_name) .none kV2 dc2 pm2 an2 cd2 ct2), sl2⟩) (c2 : PySem.W.codeIn K cd2 "is_name" = true) (k2 : PySem.W.keepIn K (.ref f2) = true)
    (a3 : PySem.W.nsIn K mainGlobals "is_set" = some (some (.ref f3))) (l3 : K.lookup f3 = some ⟨oc3, od3, .func (PySem.W.fnOf "is_set" "is_set" (defArgs st_is_set) (defBody st_is_set) (defScope st_is_set) .none kV3 dc3 pm3 an3 cd3 ct3), sl3⟩) (c3 : PySem.W.codeIn K cd3 "is_set" = true) (k3 : PySem.W.keepIn K (.ref f3) = true)
    (a4 : PySem.W.nsIn K mainGlobals "is_dependency" = some (some (.ref f4))) (l4 : K.lookup f4 = some ⟨oc4, od4, .func (PySem.W.fnOf "is_dependency" "is_dependency" (defArgs st_is_dependency) (defBody st_is_dependency) (defScope st_is_dependency) .none kV4 dc4 pm4 an4 cd4 ct4), sl4⟩) (c4 : PySem.W.codeIn K cd4 "is_dependency" = true) (k4 : PySem.W.keepIn K (.ref f4) = true)
    (a5 : PySem.W.nsIn K mainGlobals "need_dependencies" = some (some (.ref f5))) (l5 : K.lookup f5 = some ⟨oc5, od5, .func (PySem.W.fnOf "need_dependencies" "need_dependencies" (defArgs st_need_dependencies) (defBody st_need_dependencies) (defScope st_need_dependencies) .none kV5 dc5 pm5 an5 cd5 ct5), sl5⟩) (c5 : PySem.W.codeIn K cd5 "need_dependencies" = true) (k5 : PySem.W.keepIn K (.ref f5) = true)
    (a6 : PySem.W.nsIn K mainGlobals "need_dependency" = some (some (.ref f6))) (l6 : K.lookup f6 = some ⟨oc6, od6, .func (PySem.W.fnOf "need_dependency" "need_dependency" (defArgs st_need_dependency) (defBody st_need_dependency) (defScope st_need_dependency) .none kV6 dc6 pm6 an6 cd6 ct6), sl6⟩) (c6 : PySem.W.codeIn K cd6 "need_dependency" = true) (k6 : PySem.W.keepIn K (.ref f6) = true)
    (a7 : PySem.W.nsIn K mainGlobals "is_derivation" = some (some (.ref f7))) (l7 : K.lookup f7 = some ⟨oc7, od7, .func (PySem.W.fnOf "is_derivation" "is_derivation" (defArgs st_is_derivation) (defBody st_is_derivation) (defScope st_is_derivation) .none kV7 dc7 pm7 an7 cd7 ct7), sl7⟩) (c7 : PySem.W.codeIn K cd7 "is_derivation" = true) (k7 : PySem.W.keepIn K (.ref f7) = true)
    (a8 : PySem.W.nsIn K mainGlobals "_law_pick" = some (some (.ref f8))) (l8 : K.lookup f8 = some ⟨oc8, od8, .func (PySem.W.fnOf "_law_pick" "_law_pick" (defArgs st_w_pick) (defBody st_w_pick) (defScope st_w_pick) .none kV8 dc8 pm8 an8 cd8 ct8), sl8⟩) (c8 : PySem.W.codeIn K cd8 "_law_pick" = true) (k8 : PySem.W.keepIn K (.ref f8) = true)
    (a9 : PySem.W.nsIn K mainGlobals "_law_names" = some (some (.ref f9))) (l9 : K.lookup f9 = some ⟨oc9, od9, .func (PySem.W.fnOf "_law_names" "_law_names" (defArgs st_w_names) (defBody st_w_names) (defScope st_w_names) .none kV9 dc9 pm9 an9 cd9 ct9), sl9⟩) (c9 : PySem.W.codeIn K cd9 "_law_names" = true) (k9 : PySem.W.keepIn K (.ref f9) = true)
    (a10 : PySem.W.nsIn K mainGlobals "_law_words" = some (some (.ref f10))) (l10 : K.lookup f10 = some ⟨oc10, od10, .func (PySem.W.fnOf "_law_words" "_law_words" (defArgs st_w_words) (defBody st_w_words) (defScope st_w_words) .none kV10 dc10 pm10 an10 cd10 ct10), sl10⟩) (c10 : PySem.W.codeIn K cd10 "_law_words" = true) (k10 : PySem.W.keepIn K (.ref f10) = true)
    (a11 : PySem.W.nsIn K mainGlobals "_law_set" = some (some (.ref f11))) (l11 : K.lookup f11 = some ⟨oc11, od11, .func (PySem.W.fnOf "_law_set" "_law_set" (defArgs st_w_set) (defBody st_w_set) (defScope st_w_set) .none kV11 dc11 pm11 an11 cd11 ct11), sl11⟩) (c11 : PySem.W.codeIn K cd11 "_law_set" = true) (k11 : PySem.W.keepIn K (.ref f11) = true)
    (a12 : PySem.W.nsIn K mainGlobals "_law_dependency" = some (some (.ref f12))) (l12 : K.lookup f12 = some ⟨oc12, od12, .func (PySem.W.fnOf "_law_dependency" "_law_dependency" (defArgs st_w_dependency) (defBody st_w_dependency) (defScope st_w_dependency) .none kV12 dc12 pm12 an12 cd12 ct12), sl12⟩) (c12 : PySem.W.codeIn K cd12 "_law_dependency" = true) (k12 : PySem.W.keepIn K (.ref f12) = true)
    (a13 : PySem.W.nsIn K mainGlobals "_law_made" = some (some (.ref f13))) (l13 : K.lookup f13 = some ⟨oc13, od13, .func (PySem.W.fnOf "_law_made" "_law_made" (defArgs st_w_made) (defBody st_w_made) (defScope st_w_made) .none kV13 dc13 pm13 an13 cd13 ct13), sl13⟩) (c13 : PySem.W.codeIn K cd13 "_law_made" = true) (k13 : PySem.W.keepIn K (.ref f13) = true)
    (a14 : PySem.W.nsIn K mainGlobals "_law_is_right" = some (some (.ref f14))) (l14 : K.lookup f14 = some ⟨oc14, od14, .func (PySem.W.fnOf "_law_is_right" "_law_is_right" (defArgs st_w_is_right) (defBody st_w_is_right) (defScope st_w_is_right) .none kV14 dc14 pm14 an14 cd14 ct14), sl14⟩) (c14 : PySem.W.codeIn K cd14 "_law_is_right" = true) (k14 : PySem.W.keepIn K (.ref f14) = true)
    (a15 : PySem.W.nsIn K mainGlobals "_law_bent" = some (some (.ref f15))) (l15 : K.lookup f15 = some ⟨oc15, od15, .func (PySem.W.fnOf "_law_bent" "_law_bent" (defArgs st_w_bent) (defBody st_w_bent) (defScope st_w_bent) .none kV15 dc15 pm15 an15 cd15 ct15), sl15⟩) (c15 : PySem.W.codeIn K cd15 "_law_bent" = true) (k15 : PySem.W.keepIn K (.ref f15) = true)
    (a16 : PySem.W.nsIn K mainGlobals "law" = some (some (.ref f16))) (l16 : K.lookup f16 = some ⟨oc16, od16, .func (PySem.W.fnOf "law" "law" (defArgs st_law) (defBody st_law) (defScope st_law) .none kV16 dc16 pm16 an16 cd16 ct16), sl16⟩) (c16 : PySem.W.codeIn K cd16 "law" = true) (k16 : PySem.W.keepIn K (.ref f16) = true)
    (v_LETTERS : PySem.W.nsIn K mainGlobals "LETTERS" = some (some (.str "abcdefghijklmnopqrstuvwxyz" tk_LETTERS)))
    (v_LONGEST_NAME : PySem.W.nsIn K mainGlobals "LONGEST_NAME" = some (some (.int 8 tk_LONGEST_NAME)))
    (z_abs : PySem.W.nsIn K mainGlobals "abs" = some none)
    (z_all : PySem.W.nsIn K mainGlobals "all" = some none)
    (z_int : PySem.W.nsIn K mainGlobals "int" = some none)
    (z_isinstance : PySem.W.nsIn K mainGlobals "isinstance" = some none)
    (z_len : PySem.W.nsIn K mainGlobals "len" = some none)
    (z_list : PySem.W.nsIn K mainGlobals "list" = some none)
    (z_min : PySem.W.nsIn K mainGlobals "min" = some none)
    (z_range : PySem.W.nsIn K mainGlobals "range" = some none)
    (z_repr : PySem.W.nsIn K mainGlobals "repr" = some none)
    (z_sorted : PySem.W.nsIn K mainGlobals "sorted" = some none)
    (z_str : PySem.W.nsIn K mainGlobals "str" = some none)
    (z_tuple : PySem.W.nsIn K mainGlobals "tuple" = some none)
    : ∃ fd : FuncData, (∀ (s : Shared) (u : Value), BindsTo s fd ⟨[u], []⟩ [("_law_script", u)]) ∧ ∀ b : Heap, K.In b → b.Ns mainGlobals mg → FnG l.prog w K mg b CX0 7 fa fd ["_law_script"] (spLaw K 12 r_law) := by
  have e := hfa.symm.trans (PySem.W.mg_of X G a16)
  cases e
  have F0 := fun_mk (st := st_w_begin) l0 c0 k0
  have b0 := F0.binds (ps := ["_law_script"]) fun _ _ _ _ _ _ us hl => match us, hl with | [_], _ => rfl
  have F1 := fun_mk (st := st_w_take) l1 c1 k1
  have b1 := F1.binds (ps := ["_law_draw", "_law_bound"]) fun _ _ _ _ _ _ us hl => match us, hl with | [_, _], _ => rfl
  have F2 := fun_mk (st := st_is_name) l2 c2 k2
  have b2 := F2.binds (ps := ["thing"]) fun _ _ _ _ _ _ us hl => match us, hl with | [_], _ => rfl
  have F3 := fun_mk (st := st_is_set) l3 c3 k3
  have b3 := F3.binds (ps := ["thing"]) fun _ _ _ _ _ _ us hl => match us, hl with | [_], _ => rfl
  have F4 := fun_mk (st := st_is_dependency) l4 c4 k4
  have b4 := F4.binds (ps := ["thing"]) fun _ _ _ _ _ _ us hl => match us, hl with | [_], _ => rfl
  have F5 := fun_mk (st := st_need_dependencies) l5 c5 k5
  have b5 := F5.binds (ps := ["dependencies"]) fun _ _ _ _ _ _ us hl => match us, hl with | [_], _ => rfl
  have F6 := fun_mk (st := st_need_dependency) l6 c6 k6
  have b6 := F6.binds (ps := ["dependency"]) fun _ _ _ _ _ _ us hl => match us, hl with | [_], _ => rfl
  have F7 := fun_mk (st := st_is_derivation) l7 c7 k7
  have b7 := F7.binds (ps := ["dependencies", "dependency", "value"]) fun _ _ _ _ _ _ us hl => match us, hl with | [_, _, _], _ => rfl
  have F8 := fun_mk (st := st_w_pick) l8 c8 k8
  have b8 := F8.binds (ps := ["_law_draw", "_law_some"]) fun _ _ _ _ _ _ us hl => match us, hl with | [_, _], _ => rfl
  have F9 := fun_mk (st := st_w_names) l9 c9 k9
  have b9 := F9.binds (ps := ["_law_draw", "_law_many"]) fun _ _ _ _ _ _ us hl => match us, hl with | [_, _], _ => rfl
  have F10 := fun_mk (st := st_w_words) l10 c10 k10
  have b10 := F10.binds (ps := ["_law_draw"]) fun _ _ _ _ _ _ us hl => match us, hl with | [_], _ => rfl
  have F11 := fun_mk (st := st_w_set) l11 c11 k11
  have b11 := F11.binds (ps := ["_law_draw", "_law_names_here"]) fun _ _ _ _ _ _ us hl => match us, hl with | [_, _], _ => rfl
  have F12 := fun_mk (st := st_w_dependency) l12 c12 k12
  have b12 := F12.binds (ps := ["_law_draw", "_law_names_here"]) fun _ _ _ _ _ _ us hl => match us, hl with | [_, _], _ => rfl
  have F13 := fun_mk (st := st_w_made) l13 c13 k13
  have b13 := F13.binds (ps := ["_law_draw", "_law_some", "_law_wish"]) fun _ _ _ _ _ _ us hl => match us, hl with | [_, _, _], _ => rfl
  have F14 := fun_mk (st := st_w_is_right) l14 c14 k14
  have b14 := F14.binds (ps := ["_law_thing", "_law_some", "_law_wish"]) fun _ _ _ _ _ _ us hl => match us, hl with | [_, _, _], _ => rfl
  have F15 := fun_mk (st := st_w_bent) l15 c15 k15
  have b15 := F15.binds (ps := ["_law_draw", "_law_thing", "_law_some", "_law_names_here"]) fun _ _ _ _ _ _ us hl => match us, hl with | [_, _, _, _], _ => rfl
  have F16 := fun_mk (st := st_law) l16 c16 k16
  have b16 := F16.binds (ps := ["_law_script"]) fun _ _ _ _ _ _ us hl => match us, hl with | [_], _ => rfl
  refine ⟨PySem.W.fnOf "law" "law" (defArgs st_law) (defBody st_law) (defScope st_law) .none kV16 dc16 pm16 an16 cd16 ct16, fun s v => .of_eq rfl, fun base _ _ => d_law (A := ⟨f0, f1, f2, f3, f4, f5, f6, f7, f8, f9, f10, f11, f12, f13, f14, f15, fa, PySem.W.fnOf "_law_begin" "_law_begin" (defArgs st_w_begin) (defBody st_w_begin) (defScope st_w_begin) .none kV0 dc0 pm0 an0 cd0 ct0, PySem.W.fnOf "_law_take" "_law_take" (defArgs st_w_take) (defBody st_w_take) (defScope st_w_take) .none kV1 dc1 pm1 an1 cd1 ct1, PySem.W.fnOf "is_name" "is_name" (defArgs st_is_name) (defBody st_is_name) (defScope st_is_name) .none kV2 dc2 pm2 an2 cd2 ct2, PySem.W.fnOf "is_set" "is_set" (defArgs st_is_set) (defBody st_is_set) (defScope st_is_set) .none kV3 dc3 pm3 an3 cd3 ct3, PySem.W.fnOf "is_dependency" "is_dependency" (defArgs st_is_dependency) (defBody st_is_dependency) (defScope st_is_dependency) .none kV4 dc4 pm4 an4 cd4 ct4, PySem.W.fnOf "need_dependencies" "need_dependencies" (defArgs st_need_dependencies) (defBody st_need_dependencies) (defScope st_need_dependencies) .none kV5 dc5 pm5 an5 cd5 ct5, PySem.W.fnOf "need_dependency" "need_dependency" (defArgs st_need_dependency) (defBody st_need_dependency) (defScope st_need_dependency) .none kV6 dc6 pm6 an6 cd6 ct6, PySem.W.fnOf "is_derivation" "is_derivation" (defArgs st_is_derivation) (defBody st_is_derivation) (defScope st_is_derivation) .none kV7 dc7 pm7 an7 cd7 ct7, PySem.W.fnOf "_law_pick" "_law_pick" (defArgs st_w_pick) (defBody st_w_pick) (defScope st_w_pick) .none kV8 dc8 pm8 an8 cd8 ct8, PySem.W.fnOf "_law_names" "_law_names" (defArgs st_w_names) (defBody st_w_names) (defScope st_w_names) .none kV9 dc9 pm9 an9 cd9 ct9, PySem.W.fnOf "_law_words" "_law_words" (defArgs st_w_words) (defBody st_w_words) (defScope st_w_words) .none kV10 dc10 pm10 an10 cd10 ct10, PySem.W.fnOf "_law_set" "_law_set" (defArgs st_w_set) (defBody st_w_set) (defScope st_w_set) .none kV11 dc11 pm11 an11 cd11 ct11, PySem.W.fnOf "_law_dependency" "_law_dependency" (defArgs st_w_dependency) (defBody st_w_dependency) (defScope st_w_dependency) .none kV12 dc12 pm12 an12 cd12 ct12, PySem.W.fnOf "_law_made" "_law_made" (defArgs st_w_made) (defBody st_w_made) (defScope st_w_made) .none kV13 dc13 pm13 an13 cd13 ct13, PySem.W.fnOf "_law_is_right" "_law_is_right" (defArgs st_w_is_right) (defBody st_w_is_right) (defScope st_w_is_right) .none kV14 dc14 pm14 an14 cd14 ct14, PySem.W.fnOf "_law_bent" "_law_bent" (defArgs st_w_bent) (defBody st_w_bent) (defScope st_w_bent) .none kV15 dc15 pm15 an15 cd15 ct15, PySem.W.fnOf "law" "law" (defArgs st_law) (defBody st_law) (defScope st_law) .none kV16 dc16 pm16 an16 cd16 ct16, tk_LETTERS, tk_LONGEST_NAME⟩) ?_⟩
  exact ⟨F0, PySem.W.mg_of X G a0, b0, F1, PySem.W.mg_of X G a1, b1, F2, PySem.W.mg_of X G a2, b2, F3, PySem.W.mg_of X G a3, b3, F4, PySem.W.mg_of X G a4, b4, F5, PySem.W.mg_of X G a5, b5, F6, PySem.W.mg_of X G a6, b6, F7, PySem.W.mg_of X G a7, b7, F8, PySem.W.mg_of X G a8, b8, F9, PySem.W.mg_of X G a9, b9, F10, PySem.W.mg_of X G a10, b10, F11, PySem.W.mg_of X G a11, b11, F12, PySem.W.mg_of X G a12, b12, F13, PySem.W.mg_of X G a13, b13, F14, PySem.W.mg_of X G a14, b14, F15, PySem.W.mg_of X G a15, b15, F16, PySem.W.mg_of X G a16, b16, kb210 F7 fun _ _ _ _ _ _ _ _ _ => rfl, PySem.W.mg_none_of X G z_abs, PySem.W.mg_none_of X G z_all, PySem.W.mg_none_of X G z_int, PySem.W.mg_none_of X G z_isinstance, PySem.W.mg_none_of X G z_len, PySem.W.mg_none_of X G z_list, PySem.W.mg_none_of X G z_min, PySem.W.mg_none_of X G z_range, PySem.W.mg_none_of X G z_repr, PySem.W.mg_none_of X G z_sorted, PySem.W.mg_none_of X G z_str, PySem.W.mg_none_of X G z_tuple, PySem.W.mg_of X G v_LETTERS, PySem.W.mg_of X G v_LONGEST_NAME⟩
end Sx
set_option Elab.async false
set_option linter.all false
set_option maxRecDepth 100000
set_option maxHeartbeats 4000000
set_option autoImplicit false
namespace Sx
open PySem L2
def az : Str := "abcdefghijklmnopqrstuvwxyz"
structure Nm (s : Str) : Prop where
  lo : 1 ≤ s.length
  hi : s.length ≤ 8
  az : ∀ c ∈ s.cps.toList, c ∈ az.cps.toList
theorem filter_tt {α : Type} (l : List α) : l.filter (fun _ => true) = l := List.filter_eq_self.mpr fun _ _ => rfl
theorem boolsOf_true {α : Type} (ds : List α) : boolsOf (ds.map fun _ => D.bl true) = some (ds.map fun _ => true) := by
  induction ds with
  | nil => rfl
  | cons d ds ih => simp only [List.map_cons, boolsOf, ih, Option.bind_some]
theorem all_true {α : Type} (ds : List α) : fAll [.lst (ds.map fun _ => D.bl true)] = some0 (.bl true) := by
  show (boolsOf _).bind _ = _
  rw [boolsOf_true]
  show some0 (.bl ((ds.map fun _ => true).all id)) = _
  rw [List.all_eq_true.mpr fun b hb => by obtain ⟨_, _, rfl⟩ := List.mem_map.mp hb; rfl]
theorem is_name_ok {s : Str} (h : Nm s) : f_is_name [.str s] = .ret (false, .bl true) := by
  have hl : s.length ≤ 65536 := Nat.le_trans h.hi (by decide)
  have c1 : rLc (iSeq (rVar 0)) none (tgN 1) rYes (run2 (rBor 1) (rC (.str "abcdefghijklmnopqrstuvwxyz")) fIn) [1] [some (.fz, .str s), none] = .ret (.fr (.lst ((signs s).map fun _ => .bl true)), [some (.fz, .str s), none]) := by
    refine (rLc_pure (en1 := [some (.fz, .str s), none]) (fun _ => true) (fun _ => .bl true) (ds := signs s) rfl (by unfold signs; rw [List.length_map]; exact Nat.le_trans h.hi (by decide)) fun d hd => ?_).trans (by rw [filter_tt]; rfl)
    obtain ⟨c, hc, rfl⟩ := List.mem_map.mp hd
    refine ⟨[some (.fz, .str s), some (.fz, .str ⟨#[c]⟩)], _, rfl, rfl, (fun z => by cases z), fun _ => ⟨.v (.bl true), [some (.fz, .str s), some (.fz, .str ⟨#[c]⟩)], ?_, rfl, rfl⟩⟩
    show ret1 (fInG false (.str ⟨#[c]⟩) (.str az)) _ = _
    rw [fIn_sign, decide_eq_true (h.az c hc)]
    rfl
  have e1 : fIsi [.str s, .ty "str"] = some0 (.bl true) := rfl
  have e2 : fLen [.str s] = some0 (.int s.length) := by simp [fLen, hl]
  have e3 : fLe (.int 1) (.int s.length) = some0 (.bl true) := by rw [fLe_int, decide_eq_true (by have := h.lo; omega)]
  have e4 : fLe (.int s.length) (.int 8) = some0 (.bl true) := by rw [fLe_int, decide_eq_true (by have := h.hi; omega)]
  have e5 : fAll [.lst ((signs s).map fun _ => .bl true)] = some0 (.bl true) := all_true _
  unfold f_is_name runFn r_is_name
  show ((sSeq _ _) [some (.fz, .str s), none]).bind _ = _
  simp only [sSeq, sIf, sRet, sNx, sSet, sPar, sTgt, sDrop, toT, rOr, rAnd, rNot, rIf, runN, run1, run2, rCons, rNil, rBor, rVar, rMov, rC, rChn, rDisp, rCall, rSlice, oNone, oSome, ret1, frc, frcs, onlyV, valO, Op.fz, mkO, boolOf, intOf, itemsOf, iSeq, tgN, T.ret_bind, T.ofOpt, retO, putO, flOf, some0, some1, Option.bind_some, Option.map_some, List.getElem?_cons_zero, List.getElem?_cons_succ, List.set_cons_zero, List.set_cons_succ, List.length_cons, List.length_nil, mkL, mkT, small, Bool.not_true, Bool.not_false, if_true, if_false, Bool.false_eq_true, ite_true, ite_false, Nat.reduceAdd, Nat.reduceLT, Nat.reduceLeDiff, e1, e2, e3, e4, e5, c1]
/-! lists of names -/
theorem strsOf_Sl (xs : List Str) : strsOf (Sl xs) = some xs := by
  induction xs with
  | nil => rfl
  | cons x xs ih => show (strsOf (Sl xs)).bind _ = _; rw [ih]; rfl
theorem mets_nodup {xs : List Str} (h : xs.Nodup) : mets xs = xs := by
  have : ∀ (ys σ : List Str), (σ ++ ys).Nodup → ys.foldl mStep σ = σ ++ ys := by
    intro ys
    induction ys with
    | nil => intro σ _; simp
    | cons y ys ih =>
      intro σ hn
      have no : σ.any (· == y) = false := by
        rw [List.any_eq_false]
        intro z hz e
        have e := beq_iff_eq.mp e
        subst e
        exact (List.nodup_append.mp hn).2.2 z hz z List.mem_cons_self rfl
      show ys.foldl mStep (mStep σ y) = _
      unfold mStep
      rw [no]
      show ys.foldl mStep (σ ++ [y]) = _
      rw [ih (σ ++ [y]) (by simpa using hn)]
      simp
  exact (this xs [] (by simpa using h))
/-- a def asked of all -/
theorem lc_asked {α : Type} {g : α → D} {f : Fn} {k : D} {xs : List α} {j i : Nat} {en : En} (hk : itemsOf (some k) = some (xs.map g)) (h : ∀ x ∈ xs, f [g x] = .ret (false, .bl true)) (hl : xs.length ≤ 4096) (h0 : en[j]? = some (some (.fz, k))) (hi : i < en.length) (hn : en[i]? = some none) :
    rLc (iSeq (rVar j)) none (tgN i) rYes (rCall f (rCons (rVar i) rNil)) [i] en = .ret (.fr (.lst (xs.map fun _ => .bl true)), en) := by
  have wp0 : wip en [i] = en := by
    show en.set i none = en
    apply List.ext_getElem?
    intro j
    by_cases e : i = j
    · subst e; rw [List.getElem?_set_self hi, hn]
    · rw [List.getElem?_set_ne e]
  have hb : back en en [i] = en := by
    show en.set i (match en[i]? with | some (some (.fz, d)) => some (.fz, d) | _ => none) = en
    rw [hn]
    exact wp0
  have hit : iSeq (rVar j) en = .ret (xs.map g, en) := by
    unfold iSeq rVar
    rw [h0]
    show (T.ofOpt (itemsOf (some k))).bind _ = _
    rw [hk]
    rfl
  refine (rLc_pure (en1 := en) (fun _ => true) (fun _ => .bl true) (ds := xs.map g) hit (by rw [List.length_map]; exact hl) fun d hd => ?_).trans (by rw [filter_tt, wp0, hb, List.map_map]; rfl)
  obtain ⟨x, hx, rfl⟩ := List.mem_map.mp hd
  have hs : (en.set i (some (.fz, g x)))[i]? = some (some (.fz, g x)) := List.getElem?_set_self hi
  refine ⟨en.set i (some (.fz, g x)), en.set i (some (.fz, g x)), by unfold tgN; rw [wp0, if_pos hi], rfl, (fun z => by cases z), fun _ => ⟨.v (.bl true), en.set i (some (.fz, g x)), ?_, rfl, ?_⟩⟩
  · simp only [rCall, rCons, rNil, rVar, hs, T.ret_bind, Op.fz, onlyV, Option.bind_some, T.ofOpt, h x hx, mkO]
    rfl
  · rw [wp0]
    show (en.set i (some (.fz, g x))).set i none = en
    rw [List.set_set]
    exact wp0
theorem lc_names {k : D} {xs : List Str} {i : Nat} {en : En} (hk : itemsOf (some k) = some (Sl xs)) (h : ∀ x ∈ xs, Nm x) (hl : xs.length ≤ 4096) (h0 : en[0]? = some (some (.fz, k))) (hi : i < en.length) (hi0 : i ≠ 0) (hn : en[i]? = some none) :
    rLc (iSeq (rVar 0)) none (tgN i) rYes (rCall f_is_name (rCons (rVar i) rNil)) [i] en = .ret (.fr (.lst (xs.map fun _ => .bl true)), en) := lc_asked (g := D.str) hk (fun x hx => is_name_ok (h x hx)) hl h0 hi hn
/-! sets -/
theorem ix_Sl {xs : List Str} {k : Nat} {x : Str} (h : xs[k]? = some x) : fIx (.tup (Sl xs)) (.int (k : Nat)) = some0 (.str x) ∧ fIx (.lst (Sl xs)) (.int (k : Nat)) = some0 (.str x) := by
  have : atI (Sl xs) (k : Nat) = some (.str x) := (ix_nat (by omega) (by unfold Sl; rw [List.getElem?_map]; show (xs[k]?).map _ = _; rw [h]; rfl)).1
  constructor <;> (unfold fIx; simp only [this, Option.bind_some])
theorem is_set_ok {xs : List Str} (h : ∀ x ∈ xs, Nm x) (so : xs.Pairwise Lt) (hl : xs.length ≤ 1000) : f_is_set [.tup (Sl xs)] = .ret (false, .bl true) := by
  have len : (Sl xs).length = xs.length := List.length_map ..
  have e1 : fIsi [.tup (Sl xs), .ty "tuple"] = some0 (.bl true) := rfl
  have e2 : fLen [.tup (Sl xs)] = some0 (.int xs.length) := by show some0 (.int ((Sl xs).length : Nat)) = _; rw [len]
  have e5 : fAll [.lst (xs.map fun _ => .bl true)] = some0 (.bl true) := all_true _
  have c1 := lc_names (i := 1) (en := [some (.fz, .tup (Sl xs)), none, none]) (k := .tup (Sl xs)) rfl h (by omega) rfl (by simp) (by decide) rfl
  have e6 : ∀ n, fAll [.lst ((List.range n).map fun _ => .bl true)] = some0 (.bl true) := fun n => all_true _
  have c2 : rLc (iRange (rCons (run2 (runN (rCons (rBor 0) rNil) fLen) (rC (.int 1)) fSub) rNil)) none (tgN 2) rYes (run2 (run2 (rBor 0) (rBor 2) fIx) (run2 (rBor 0) (run2 (rBor 2) (rC (.int 1)) fAdd) fIx) fLt) [2] [some (.fz, .tup (Sl xs)), none, none] = .ret (.fr (.lst ((List.range (xs.length - 1)).map fun _ => .bl true)), [some (.fz, .tup (Sl xs)), none, none]) := by
    refine (rLc_pure (en1 := [some (.fz, .tup (Sl xs)), none, none]) (fun _ => true) (fun _ => .bl true) (ds := (List.range (xs.length - 1)).map fun k => D.int (0 + (k : Nat))) ?_ (by simp; omega) fun d hd => ?_).trans (by rw [filter_tt, List.map_map]; rfl)
    · have hr : ((xs.length : Int) - 1).toNat = xs.length - 1 := by omega
      have hc : (xs.length : Int) - 1 ≤ 4096 ∧ -4096 ≤ (xs.length : Int) - 1 := by omega
      simp only [iRange, sSeq, sIf, sRet, sNx, sSet, sPar, sTgt, sDrop, toT, rOr, rAnd, rNot, rIf, runN, run1, run2, rCons, rNil, rBor, rVar, rMov, rC, rChn, rDisp, rCall, rSlice, oNone, oSome, ret1, frc, frcs, onlyV, valO, Op.fz, mkO, boolOf, intOf, itemsOf, iSeq, tgN, T.ret_bind, T.ofOpt, retO, putO, flOf, some0, some1, Option.bind_some, Option.map_some, List.getElem?_cons_zero, List.getElem?_cons_succ, List.set_cons_zero, List.set_cons_succ, List.length_cons, List.length_nil, mkL, mkT, small, Bool.not_true, Bool.not_false, if_true, if_false, Bool.false_eq_true, ite_true, ite_false, Nat.reduceAdd, Nat.reduceLT, Nat.reduceLeDiff, e2, fSub, fInt2, if_pos hc, hr]
    · obtain ⟨k, hk, rfl⟩ := List.mem_map.mp hd
      have hk := List.mem_range.mp hk
      obtain ⟨x, hx⟩ : ∃ x, xs[k]? = some x := ⟨_, List.getElem?_eq_getElem (by omega)⟩
      obtain ⟨y, hy⟩ : ∃ y, xs[k + 1]? = some y := ⟨_, List.getElem?_eq_getElem (by omega)⟩
      have lt : Lt x y := by
        have := List.pairwise_iff_getElem.mp so k (k + 1) (by omega) (by omega) (by omega)
        rw [List.getElem?_eq_getElem (by omega)] at hx hy
        cases hx; cases hy
        exact this
      have a1 : fIx (.tup (Sl xs)) (.int (0 + (k : Nat))) = some0 (.str x) := by rw [Int.zero_add]; exact (ix_Sl hx).1
      have a2 : fIx (.tup (Sl xs)) (.int (0 + (k : Nat) + 1)) = some0 (.str y) := by rw [Int.zero_add]; exact (ix_Sl hy).1
      have a3 : fAdd (.int (0 + (k : Nat))) (.int 1) = some0 (.int (0 + (k : Nat) + 1)) := rfl
      have a4 : fLt (.str x) (.str y) = some0 (.bl true) := by rw [fLt_str, decide_eq_true (p := x.cps.toList < y.cps.toList) lt]
      refine ⟨[some (.fz, .tup (Sl xs)), none, some (.fz, .int (0 + (k : Nat)))], _, rfl, rfl, (fun z => by cases z), fun _ => ⟨.v (.bl true), [some (.fz, .tup (Sl xs)), none, some (.fz, .int (0 + (k : Nat)))], ?_, rfl, rfl⟩⟩
      simp only [sSeq, sIf, sRet, sNx, sSet, sPar, sTgt, sDrop, toT, rOr, rAnd, rNot, rIf, runN, run1, run2, rCons, rNil, rBor, rVar, rMov, rC, rChn, rDisp, rCall, rSlice, oNone, oSome, ret1, frc, frcs, onlyV, valO, Op.fz, mkO, boolOf, intOf, itemsOf, iSeq, tgN, T.ret_bind, T.ofOpt, retO, putO, flOf, some0, some1, Option.bind_some, Option.map_some, List.getElem?_cons_zero, List.getElem?_cons_succ, List.set_cons_zero, List.set_cons_succ, List.length_cons, List.length_nil, mkL, mkT, small, Bool.not_true, Bool.not_false, if_true, if_false, Bool.false_eq_true, ite_true, ite_false, Nat.reduceAdd, Nat.reduceLT, Nat.reduceLeDiff, a1, a2, a3, a4]
  unfold f_is_set runFn r_is_set
  show ((sSeq _ _) [some (.fz, .tup (Sl xs)), none, none]).bind _ = _
  simp only [sSeq, sIf, sRet, sNx, sSet, sPar, sTgt, sDrop, toT, rOr, rAnd, rNot, rIf, runN, run1, run2, rCons, rNil, rBor, rVar, rMov, rC, rChn, rDisp, rCall, rSlice, oNone, oSome, ret1, frc, frcs, onlyV, valO, Op.fz, mkO, boolOf, intOf, itemsOf, iSeq, tgN, T.ret_bind, T.ofOpt, retO, putO, flOf, some0, some1, Option.bind_some, Option.map_some, List.getElem?_cons_zero, List.getElem?_cons_succ, List.set_cons_zero, List.set_cons_succ, List.length_cons, List.length_nil, mkL, mkT, small, Bool.not_true, Bool.not_false, if_true, if_false, Bool.false_eq_true, ite_true, ite_false, Nat.reduceAdd, Nat.reduceLT, Nat.reduceLeDiff, e1, e5, e6, c1, c2]
/-! dependencies -/
abbrev Dep := List Str × Str
def dD (d : Dep) : D := .tup [.tup (Sl d.1), .str d.2]
def dsD (ds : List Dep) : List D := ds.map dD
structure DepOk (d : Dep) : Prop where
  nm : ∀ x ∈ d.1, Nm x
  so : d.1.Pairwise Lt
  len : d.1.length ≤ 1000
  nc : Nm d.2
  ni : d.2 ∉ d.1
theorem pd_Sl {xs : List Str} : ∀ d ∈ Sl xs, Pd 0 d := fun d hd => by
  obtain ⟨x, _, rfl⟩ := List.mem_map.mp hd
  exact .str x 0
theorem pd_dep (d : Dep) : Pd 2 (dD d) := Pd.tup fun x hx => by
  simp only [List.mem_cons, List.not_mem_nil, or_false] at hx
  rcases hx with rfl | rfl
  · exact Pd.tup pd_Sl
  · exact .str _ _
theorem mem_Sl {x : Str} {xs : List Str} : D.str x ∈ Sl xs ↔ x ∈ xs := by
  unfold Sl
  rw [List.mem_map]
  exact ⟨fun ⟨y, h, e⟩ => by cases e; exact h, fun h => ⟨x, h, rfl⟩⟩
theorem in_Sl (x : Str) (xs : List Str) : fIn (.str x) (.lst (Sl xs)) = some0 (.bl (decide (x ∈ xs))) ∧ fNotIn (.str x) (.lst (Sl xs)) = some0 (.bl (decide (x ∉ xs))) ∧ fIn (.str x) (.tup (Sl xs)) = some0 (.bl (decide (x ∈ xs))) ∧ fNotIn (.str x) (.tup (Sl xs)) = some0 (.bl (decide (x ∉ xs))) := by
  refine ⟨?_, ?_, ?_, ?_⟩
  · show fInG false _ _ = _
    rw [fIn_lst false (.str x 0) pd_Sl (by decide)]
    simp only [mem_Sl]
    rfl
  · show fInG true _ _ = _
    rw [fIn_lst true (.str x 0) pd_Sl (by decide)]
    simp only [mem_Sl]
    rfl
  · show fInG false _ _ = _
    rw [fIn_tup false (.str x 0) pd_Sl (by decide)]
    simp only [mem_Sl]
    rfl
  · show fInG true _ _ = _
    rw [fIn_tup true (.str x 0) pd_Sl (by decide)]
    simp only [mem_Sl]
    rfl
theorem ix_dep (d : Dep) : fIx (dD d) (.int 0) = some0 (.tup (Sl d.1)) ∧ fIx (dD d) (.int 1) = some0 (.str d.2) := ⟨rfl, rfl⟩
theorem is_dependency_ok {d : Dep} (h : DepOk d) : f_is_dependency [dD d] = .ret (false, .bl true) := by
  have e1 : fIsi [dD d, .ty "tuple"] = some0 (.bl true) := rfl
  have e2 : fLen [dD d] = some0 (.int 2) := rfl
  have e3 : fNe (.int 2) (.int 2) = some0 (.bl false) := rfl
  have e4 := (in_Sl d.2 d.1).2.2.2
  rw [decide_eq_true h.ni] at e4
  unfold f_is_dependency runFn r_is_dependency
  show ((sSeq _ _) [some (.fz, dD d)]).bind _ = _
  simp only [sSeq, sIf, sRet, sNx, sSet, sPar, sTgt, sDrop, toT, rOr, rAnd, rNot, rIf, runN, run1, run2, rCons, rNil, rBor, rVar, rMov, rC, rChn, rDisp, rCall, rSlice, oNone, oSome, ret1, frc, frcs, onlyV, valO, Op.fz, mkO, boolOf, intOf, itemsOf, iSeq, tgN, T.ret_bind, T.ofOpt, retO, putO, flOf, some0, some1, Option.bind_some, Option.map_some, List.getElem?_cons_zero, List.getElem?_cons_succ, List.set_cons_zero, List.set_cons_succ, List.length_cons, List.length_nil, mkL, mkT, small, Bool.not_true, Bool.not_false, if_true, if_false, Bool.false_eq_true, ite_true, ite_false, Nat.reduceAdd, Nat.reduceLT, Nat.reduceLeDiff, e1, e2, e3, e4, (ix_dep d).1, (ix_dep d).2, is_set_ok h.nm h.so h.len, is_name_ok h.nc]
theorem need_dependencies_ok {k : D} {ds : List Dep} (hk : k = .lst (dsD ds) ∨ k = .tup (dsD ds)) (h : ∀ d ∈ ds, DepOk d) (hl : ds.length ≤ 4096) : f_need_dependencies [k] = .ret (false, .non) := by
  have hk' : itemsOf (some k) = some (ds.map dD) := by rcases hk with rfl | rfl <;> rfl
  have e1 : fIsi [k, .tup [.ty "list", .ty "tuple"]] = some0 (.bl true) := by rcases hk with rfl | rfl <;> rfl
  have e5 : fAll [.lst (ds.map fun _ => .bl true)] = some0 (.bl true) := all_true _
  have c1 := lc_asked (j := 0) (i := 1) (en := [some (.fz, k), none]) (g := dD) hk' (fun d hd => is_dependency_ok (h d hd)) hl rfl (by simp) rfl
  unfold f_need_dependencies runFn r_need_dependencies
  show ((sSeq _ _) [some (.fz, k), none]).bind _ = _
  simp only [sSeq, sIf, sRet, sNx, sSet, sPar, sTgt, sDrop, toT, rOr, rAnd, rNot, rIf, runN, run1, run2, rCons, rNil, rBor, rVar, rMov, rC, rChn, rDisp, rCall, rSlice, oNone, oSome, ret1, frc, frcs, onlyV, valO, Op.fz, mkO, boolOf, intOf, itemsOf, iSeq, tgN, T.ret_bind, T.ofOpt, retO, putO, flOf, some0, some1, Option.bind_some, Option.map_some, List.getElem?_cons_zero, List.getElem?_cons_succ, List.set_cons_zero, List.set_cons_succ, List.length_cons, List.length_nil, mkL, mkT, small, Bool.not_true, Bool.not_false, if_true, if_false, Bool.false_eq_true, ite_true, ite_false, Nat.reduceAdd, Nat.reduceLT, Nat.reduceLeDiff, e1, e5, c1]
theorem need_dependency_ok {d : Dep} (h : DepOk d) : f_need_dependency [dD d] = .ret (false, .non) := by
  unfold f_need_dependency runFn r_need_dependency
  show ((sSeq _ _) [some (.fz, dD d)]).bind _ = _
  simp only [sSeq, sIf, sRet, sNx, sSet, sPar, sTgt, sDrop, toT, rOr, rAnd, rNot, rIf, runN, run1, run2, rCons, rNil, rBor, rVar, rMov, rC, rChn, rDisp, rCall, rSlice, oNone, oSome, ret1, frc, frcs, onlyV, valO, Op.fz, mkO, boolOf, intOf, itemsOf, iSeq, tgN, T.ret_bind, T.ofOpt, retO, putO, flOf, some0, some1, Option.bind_some, Option.map_some, List.getElem?_cons_zero, List.getElem?_cons_succ, List.set_cons_zero, List.set_cons_succ, List.length_cons, List.length_nil, mkL, mkT, small, Bool.not_true, Bool.not_false, if_true, if_false, Bool.false_eq_true, ite_true, ite_false, Nat.reduceAdd, Nat.reduceLT, Nat.reduceLeDiff, is_dependency_ok h]
/-! steps -/
theorem nodup_len {α : Type} [DecidableEq α] : ∀ {l m : List α}, l.Nodup → (∀ x ∈ l, x ∈ m) → l.length ≤ m.length
  | [], m, _, _ => Nat.zero_le _
  | x :: l, m, hn, hs => by
    have hx : x ∈ m := hs x List.mem_cons_self
    have h2 := nodup_len (l := l) (m := m.erase x) (List.nodup_cons.mp hn).2 fun y hy => by
      have : y ≠ x := fun e => (List.nodup_cons.mp hn).1 (e ▸ hy)
      exact (List.mem_erase_of_ne this).mpr (hs y (List.mem_cons_of_mem _ hy))
    rw [List.length_erase_of_mem hx] at h2
    have : 0 < m.length := List.length_pos_of_mem hx
    rw [List.length_cons]
    omega
theorem boolsOf_map {α : Type} (p : α → Bool) (l : List α) : boolsOf (l.map fun x => D.bl (p x)) = some (l.map p) := by
  induction l with
  | nil => rfl
  | cons d ds ih => simp only [List.map_cons, boolsOf, ih, Option.bind_some]
theorem all_map {α : Type} (p : α → Bool) (l : List α) : fAll [.lst (l.map fun x => D.bl (p x))] = some0 (.bl (l.all p)) := by
  show (boolsOf _).bind _ = _
  rw [boolsOf_map]
  show some0 (.bl ((l.map p).all id)) = _
  rw [List.all_map]
  rfl
theorem back_none {en : En} {i : Nat} (hn : en[i]? = some none) : wip en [i] = en ∧ back en en [i] = en := by
  have hi := lt_of_get hn
  have wp0 : en.set i none = en := by
    apply List.ext_getElem?
    intro j
    by_cases e : i = j
    · subst e; rw [List.getElem?_set_self hi, hn]
    · rw [List.getElem?_set_ne e]
  refine ⟨wp0, ?_⟩
  show en.set i (match en[i]? with | some (some (.fz, d)) => some (.fz, d) | _ => none) = en
  rw [hn]
  exact wp0
/-- which of these texts stand in the list that slot b holds -/
theorem lc_in {ri : RunI} {o : List Str} {ks : List Str} {f : Fg} {b i : Nat} {en : En} (hr : ri en = .ret (Sl o, en)) (hl : o.length ≤ 4096) (hb : en[b]? = some (some (f, .lst (Sl ks)))) (hbi : b ≠ i) (hn : en[i]? = some none) :
    rLc ri none (tgN i) rYes (run2 (rBor i) (rBor b) fIn) [i] en = .ret (.fr (.lst (o.map fun x => .bl (decide (x ∈ ks)))), en) := by
  obtain ⟨wp0, bk⟩ := back_none hn
  have hi := lt_of_get hn
  refine (rLc_pure (en1 := en) (fun _ => true) (fun d => match fIn d (.lst (Sl ks)) with | some (_, v) => v | none => .non) (ds := Sl o) hr (by unfold Sl; rw [List.length_map]; exact hl) fun d hd => ?_).trans (by
    rw [filter_tt, wp0, bk]
    unfold Sl
    rw [List.map_map]
    congr 4
    congr 1
    funext x
    show (match fIn (.str x) (.lst (Sl ks)) with | some (_, v) => v | none => .non) = _
    rw [(in_Sl x ks).1]
    rfl)
  obtain ⟨x, hx, rfl⟩ := List.mem_map.mp hd
  have hs : (en.set i (some (.fz, D.str x)))[i]? = some (some (.fz, .str x)) := List.getElem?_set_self hi
  have hb2 : (en.set i (some (.fz, D.str x)))[b]? = some (some (f, .lst (Sl ks))) := by rw [List.getElem?_set_ne hbi.symm]; exact hb
  refine ⟨en.set i (some (.fz, .str x)), en.set i (some (.fz, .str x)), by unfold tgN; rw [wp0, if_pos hi], rfl, (fun z => by cases z), fun _ => ⟨.v (.bl (decide (x ∈ ks))), en.set i (some (.fz, .str x)), ?_, ?_, ?_⟩⟩
  · simp only [run2, rBor, hs, hb2, T.ret_bind, Op.fz, frc, Option.bind_some, ret1, (in_Sl x ks).1, some0, T.ofOpt, mkO, if_false, Bool.false_eq_true]
  · show some _ = some (match fIn (.str x) (.lst (Sl ks)) with | some (_, v) => v | none => .non)
    rw [(in_Sl x ks).1]
    rfl
  · rw [wp0]
    show (en.set i (some (.fz, .str x))).set i none = en
    rw [List.set_set]
    exact wp0
theorem Sl_snoc (xs : List Str) (x : Str) : Sl xs ++ [.str x] = Sl (xs ++ [x]) := by simp [Sl]
theorem dsD_snoc (xs : List Dep) (x : Dep) : dsD xs ++ [dD x] = dsD (xs ++ [x]) := by simp [dsD]
/-! comprehensions over dependencies -/
abbrev enD (en : En) (i j : Nat) (d : Dep) : En := (en.set i (some (.fz, .tup (Sl d.1)))).set j (some (.fz, .str d.2))
theorem lc_dep {ri : RunI} {rt : RunT} {re : Run} {en en1 : En} {ds : List Dep} {i j : Nat} (p : Dep → Bool) (y : Dep → D) (hr : ri en = .ret (dsD ds, en1)) (hl : ds.length ≤ 4096) (hij : i ≠ j) (hi : en1[i]? = some none) (hj : en1[j]? = some none)
    (ht : ∀ d ∈ ds, rt (enD en1 i j d) = .ret (p d, enD en1 i j d)) (he : ∀ d ∈ ds, p d = true → ∃ o, re (enD en1 i j d) = .ret (o, enD en1 i j d) ∧ valO o = some (y d)) :
    rLc ri none (tgTup 2 (tgCons (tgN i) (tgCons (tgN j) tgNil))) rt re [i, j] en = .ret (.fr (.lst ((ds.filter p).map y)), en1) := by
  have li := lt_of_get hi
  have lj := lt_of_get hj
  have w0 : wip en1 [i, j] = en1 := by
    show (en1.set j none).set i none = en1
    apply List.ext_getElem?
    intro k
    by_cases e : i = k
    · subst e; rw [List.getElem?_set_self (by rw [List.length_set]; exact li), hi]
    · rw [List.getElem?_set_ne e]
      by_cases e2 : j = k
      · subst e2; rw [List.getElem?_set_self lj, hj]
      · rw [List.getElem?_set_ne e2]
  have b0 : back en1 en1 [i, j] = en1 := by
    show (en1.set j (match en1[j]? with | some (some (.fz, d)) => some (.fz, d) | _ => none)).set i (match en1[i]? with | some (some (.fz, d)) => some (.fz, d) | _ => none) = en1
    rw [hi, hj]
    exact w0
  have wD : ∀ d, wip (enD en1 i j d) [i, j] = en1 := by
    intro d
    show (((en1.set i _).set j _).set j none).set i none = en1
    rw [List.set_set, List.set_comm _ _ hij, List.set_set]
    exact w0
  refine (rLc_map (en1 := en1) (g := dD) p y hr hl fun d hd => ?_).trans (by rw [w0, b0]; rfl)
  refine ⟨enD en1 i j d, enD en1 i j d, ?_, ht d hd, fun _ => by rw [wD, w0], fun hp => ?_⟩
  · rw [w0]
    show (if [D.tup (Sl d.1), D.str d.2].length = 2 then tgCons (tgN i) (tgCons (tgN j) tgNil) [D.tup (Sl d.1), .str d.2] en1 else none) = _
    rw [if_pos (show [D.tup (Sl d.1), D.str d.2].length = 2 from rfl)]
    show ((tgN i (.tup (Sl d.1)) en1).bind fun e => (tgN j (.str d.2) e).bind fun e => tgNil [] e) = _
    unfold tgN
    rw [if_pos li]
    show (Option.bind (if j < (en1.set i (some (.fz, D.tup (Sl d.1)))).length then some ((en1.set i (some (.fz, D.tup (Sl d.1)))).set j (some (.fz, .str d.2))) else none) fun e => tgNil [] e) = _
    rw [if_pos (by rw [List.length_set]; exact lj)]
    rfl
  · obtain ⟨o, h1, h2⟩ := he d hd hp
    exact ⟨o, _, h1, h2, by rw [wD, w0]⟩
theorem dsD_snd (s : List Dep) : (s.map fun d => D.str d.2) = Sl (s.map (·.2)) := by unfold Sl; rw [List.map_map]; rfl
/-! the law's own closure -/
/-- the texts that the list in slot b has not -/
theorem lc_out {ri : RunI} {o : List Str} {ks : List Str} {f : Fg} {b i : Nat} {en : En} (hr : ri en = .ret (Sl o, en)) (hl : o.length ≤ 4096) (hb : en[b]? = some (some (f, .lst (Sl ks)))) (hbi : b ≠ i) (hn : en[i]? = some none) :
    rLc ri none (tgN i) (toT (run2 (rBor i) (rBor b) fNotIn)) (rVar i) [i] en = .ret (.fr (.lst (Sl (o.filter fun x => decide (x ∉ ks)))), en) := by
  obtain ⟨wp0, bk⟩ := back_none hn
  have hi := lt_of_get hn
  refine (rLc_map (en1 := en) (g := D.str) (fun x => decide (x ∉ ks)) D.str hr hl fun x hx => ?_).trans (by rw [wp0, bk]; rfl)
  have hs : (en.set i (some (.fz, D.str x)))[i]? = some (some (.fz, .str x)) := List.getElem?_set_self hi
  have hb2 : (en.set i (some (.fz, D.str x)))[b]? = some (some (f, .lst (Sl ks))) := by rw [List.getElem?_set_ne hbi.symm]; exact hb
  have wD : wip (en.set i (some (.fz, .str x))) [i] = en := by
    show (en.set i (some (.fz, .str x))).set i none = en
    rw [List.set_set]
    exact wp0
  refine ⟨en.set i (some (.fz, .str x)), en.set i (some (.fz, .str x)), by unfold tgN; rw [wp0, if_pos hi], ?_, fun _ => by rw [wD, wp0], fun _ => ⟨.v (.str x), en.set i (some (.fz, .str x)), ?_, rfl, by rw [wD, wp0]⟩⟩
  · simp only [toT, run2, rBor, hs, hb2, T.ret_bind, Op.fz, frc, Option.bind_some, ret1, (in_Sl x ks).2.1, some0, T.ofOpt, mkO, if_false, Bool.false_eq_true, boolOf]
  · simp only [rVar, hs]
theorem eq_nil_Sl (l : List Str) : fEq (.lst (Sl l)) (.lst []) = some0 (.bl (decide (l = []))) ∧ fNe (.lst (Sl l)) (.lst []) = some0 (.bl (decide (l ≠ []))) := by
  have h : (D.lst (Sl l) = D.lst []) ↔ l = [] := by
    rw [D.lst.injEq]
    unfold Sl
    simp
  constructor
  · rw [fEq_pd (Pd.lst pd_Sl) (Pd.lst (n := 0) fun d hd => by simp at hd) (by decide)]
    congr 3
    exact propext h
  · rw [fNe_pd (Pd.lst pd_Sl) (Pd.lst (n := 0) fun d hd => by simp at hd) (by decide)]
    congr 3
    exact propext (not_congr h)
theorem cut1 (l : List Str) : cutD (Sl l) none (some 1) = Sl (l.take 1) := by
  unfold cutD
  rw [HT.sIx_none, show (some (1 : Int)) = some ((1 : Nat) : Int) from rfl, HT.sIx_nat]
  cases l with
  | nil => rfl
  | cons x l => simp [Sl]
/-! both closures are one -/
end Sx
set_option Elab.async false
set_option linter.all false
set_option maxRecDepth 100000
set_option maxHeartbeats 4000000
set_option autoImplicit false
namespace Sx
open PySem L2
/-! derivations -/
theorem fEq_str (a b : Str) : fEq (.str a) (.str b) = some0 (.bl (decide (a = b))) := by
  rw [fEq_pd (.str a 0) (.str b 0) (by decide)]
  congr 3
  exact propext ⟨fun h => by cases h; rfl, fun h => by rw [h]⟩
theorem cutN (l : List D) (n : Nat) : cutD l none (some (n : Int)) = l.take n := by
  unfold cutD
  rw [HT.sIx_none, HT.sIx_nat, Nat.sub_zero, List.drop_zero]
  by_cases h : n ≤ l.length
  · rw [Nat.min_eq_left h]
  · rw [Nat.min_eq_right (by omega), List.take_length, List.take_of_length_le (by omega)]
end Sx
set_option Elab.async false
set_option linter.all false
set_option maxRecDepth 100000
set_option maxHeartbeats 4000000
set_option autoImplicit false
namespace Sx
open PySem L2
/-! derivations judged -/
open Classical in
theorem fEq_no {n m : Nat} {x y : D} (hx : Pd n x) (hy : Pd m y) (hn : n ≤ 60) (h : ¬ x = y) : fEq x y = some0 (.bl false) := by
  rw [fEq_pd hx hy hn, decide_eq_false h]
open Classical in
theorem fEq_yes {n m : Nat} {x y : D} (hx : Pd n x) (hy : Pd m y) (hn : n ≤ 60) (h : x = y) : fEq x y = some0 (.bl true) := by
  rw [fEq_pd hx hy hn, decide_eq_true h]
open Classical in
theorem fNe_no {n m : Nat} {x y : D} (hx : Pd n x) (hy : Pd m y) (hn : n ≤ 60) (h : x = y) : fNe x y = some0 (.bl false) := by
  rw [fNe_pd hx hy hn, decide_eq_false (not_not_intro h)]
open Classical in
theorem fNe_yes {n m : Nat} {x y : D} (hx : Pd n x) (hy : Pd m y) (hn : n ≤ 60) (h : ¬ x = y) : fNe x y = some0 (.bl true) := by
  rw [fNe_pd hx hy hn, decide_eq_true h]
theorem sForL_nx {l : Option Nat} {t : Tg} {rb : RunS} {d : D} {ds : List D} {en en1 en2 : En} (ht : t d en = some en1) (hb : rb en1 = .ret (.nx, en2)) : sForL l t rb (d :: ds) en = sForL l t rb ds en2 := by
  rw [sForL]
  simp only [ht, T.ofOpt, T.ret_bind, hb]
theorem mem_dsD {d : Dep} {ds : List Dep} (h : d ∈ ds) : dD d ∈ dsD ds := List.mem_map.mpr ⟨d, h, rfl⟩
theorem pd_dsD {ds : List Dep} : ∀ d ∈ dsD ds, Pd 2 d := fun d hd => by
  obtain ⟨x, _, rfl⟩ := List.mem_map.mp hd
  exact pd_dep x
open Classical in
theorem notin_ds {kd : D} {d : Dep} {ds : List Dep} (hk : kd = .lst (dsD ds) ∨ kd = .tup (dsD ds)) (h : d ∈ ds) : fNotIn (dD d) kd = some0 (.bl false) := by
  rcases hk with rfl | rfl
  · show fInG true _ _ = _
    rw [fIn_lst true (pd_dep d) pd_dsD (by decide), if_pos rfl, decide_eq_false (not_not_intro (mem_dsD h))]
  · show fInG true _ _ = _
    rw [fIn_tup true (pd_dep d) pd_dsD (by decide), if_pos rfl, decide_eq_false (not_not_intro (mem_dsD h))]
theorem last_ix {v : List Dep} {d : Dep} (h : ∃ p, v = p ++ [d]) : fIx (.lst (dsD v)) (.int (-1)) = some0 (dD d) := by
  obtain ⟨p, rfl⟩ := h
  have : atI (dsD (p ++ [d])) (-1) = some (dD d) := by
    unfold atI ixN
    rw [if_neg (by decide), if_pos (by unfold dsD; simp; omega)]
    show (dsD (p ++ [d]))[_]? = _
    unfold dsD
    rw [List.map_append, List.length_append, List.length_map]
    have : (-1 + ((p.length + (List.map dD [d]).length : Nat) : Int)).toNat = p.length := by
      have : (List.map dD [d]).length = 1 := rfl
      rw [this]
      omega
    rw [this, List.getElem?_append_right (by simp)]
    simp
  unfold fIx
  simp only [this, Option.bind_some]
end Sx
set_option Elab.async false
set_option linter.all false
set_option maxRecDepth 100000
set_option maxHeartbeats 4000000
set_option autoImplicit false
namespace Sx
open PySem L2
/-! the law's own judging -/
theorem last_Sl {l : List Str} {x : Str} (h : ∃ p, l = p ++ [x]) : fIx (.lst (Sl l)) (.int (-1)) = some0 (.str x) := by
  obtain ⟨p, rfl⟩ := h
  have : atI (Sl (p ++ [x])) (-1) = some (.str x) := by
    unfold atI ixN
    rw [if_neg (by decide), if_pos (by unfold Sl; simp; omega)]
    show (Sl (p ++ [x]))[_]? = _
    unfold Sl
    rw [List.map_append, List.length_append, List.length_map]
    have : (-1 + ((p.length + (List.map D.str [x]).length : Nat) : Int)).toNat = p.length := by
      have : (List.map D.str [x]).length = 1 := rfl
      rw [this]
      omega
    rw [this, List.getElem?_append_right (by simp)]
    simp
  unfold fIx
  simp only [this, Option.bind_some]
end Sx
set_option Elab.async false
set_option linter.all false
set_option maxRecDepth 100000
set_option maxHeartbeats 4000000
set_option autoImplicit false
namespace Sx
open PySem L2
/-! draws -/
theorem ch_bind {α β : Type} (n : Nat) (k : Nat → T α) (f : α → T β) : (T.ch n k).bind f = .ch n fun i => (k i).bind f := rfl
theorem take_run {n : Nat} (h0 : 0 < n) (h1 : n ≤ 1073741824) : f_w_take [.drw, .int (n : Nat)] = .ch n fun i => .ret (false, .int i) := by
  show (if 0 < (n : Int) ∧ (n : Int) ≤ 1073741824 then T.ch (n : Int).toNat _ else .fail) = _
  rw [if_pos ⟨by omega, by omega⟩, Int.toNat_natCast]
theorem take_lit {n : Int} (h : 0 < n ∧ n ≤ 1073741824) : f_w_take [.drw, .int n] = .ch n.toNat fun i => .ret (false, .int i) := if_pos h
theorem ix_lst {xs : List D} {i : Nat} {x : D} (h : xs[i]? = some x) : fIx (.lst xs) (.int (i : Nat)) = some0 x := by
  unfold fIx
  simp only [(ix_nat (k := (i : Nat)) (by omega) (by simpa using h)).1, Option.bind_some]
theorem pick_wp {xs : List D} {Q : Bool × D → Prop} (h0 : xs ≠ []) (h1 : xs.length ≤ 4096) (h : ∀ x ∈ xs, Q (false, x)) : (f_w_pick [.drw, .lst xs]).wp Q := by
  have e1 : fLen [.lst xs] = some0 (.int (xs.length : Nat)) := rfl
  have e2 := take_run (n := xs.length) (List.length_pos_iff.mpr h0) (by omega)
  have he : en0 2 [.drw, .lst xs] = [some (.fz, .drw), some (.fz, .lst xs)] := rfl
  unfold f_w_pick runFn r_w_pick
  rw [he]
  simp only [sSeq, sIf, sRet, sNx, sSet, sPar, sTgt, sDrop, toT, rOr, rAnd, rNot, rIf, runN, run1, run2, rCons, rNil, rBor, rVar, rMov, rC, rChn, rDisp, rCall, rSlice, oNone, oSome, ret1, frc, frcs, onlyV, valO, Op.fz, mkO, boolOf, intOf, itemsOf, iSeq, tgN, T.ret_bind, T.ofOpt, retO, putO, flOf, some0, some1, Option.bind_some, Option.map_some, List.getElem?_cons_zero, List.getElem?_cons_succ, List.set_cons_zero, List.set_cons_succ, List.length_cons, List.length_nil, mkL, mkT, small, Bool.not_true, Bool.not_false, if_true, if_false, Bool.false_eq_true, ite_true, ite_false, Nat.reduceAdd, Nat.reduceLT, Nat.reduceLeDiff, e1, e2, ch_bind]
  intro i hi
  obtain ⟨x, hx⟩ : ∃ x, xs[i]? = some x := ⟨_, List.getElem?_eq_getElem hi⟩
  simp only [sSeq, sIf, sRet, sNx, sSet, sPar, sTgt, sDrop, toT, rOr, rAnd, rNot, rIf, runN, run1, run2, rCons, rNil, rBor, rVar, rMov, rC, rChn, rDisp, rCall, rSlice, oNone, oSome, ret1, frc, frcs, onlyV, valO, Op.fz, mkO, boolOf, intOf, itemsOf, iSeq, tgN, T.ret_bind, T.ofOpt, retO, putO, flOf, some0, some1, Option.bind_some, Option.map_some, List.getElem?_cons_zero, List.getElem?_cons_succ, List.set_cons_zero, List.set_cons_succ, List.length_cons, List.length_nil, mkL, mkT, small, Bool.not_true, Bool.not_false, if_true, if_false, Bool.false_eq_true, ite_true, ite_false, Nat.reduceAdd, Nat.reduceLT, Nat.reduceLeDiff, ix_lst hx]
  exact h x (List.mem_of_getElem? hx)
theorem pick_str {z : Str} {Q : Bool × D → Prop} (h0 : 0 < z.length) (h1 : z.length ≤ 4096) (h : ∀ c ∈ z.cps.toList, Q (false, .str ⟨#[c]⟩)) : (f_w_pick [.drw, .str z]).wp Q := by
  have hl : z.length ≤ 65536 := by omega
  have e1 : fLen [.str z] = some0 (.int (z.length : Nat)) := by simp [fLen, hl]
  have e2 := take_run (n := z.length) h0 (by omega)
  have he : en0 2 [.drw, .str z] = [some (.fz, .drw), some (.fz, .str z)] := rfl
  unfold f_w_pick runFn r_w_pick
  rw [he]
  simp only [sSeq, sIf, sRet, sNx, sSet, sPar, sTgt, sDrop, toT, rOr, rAnd, rNot, rIf, runN, run1, run2, rCons, rNil, rBor, rVar, rMov, rC, rChn, rDisp, rCall, rSlice, oNone, oSome, ret1, frc, frcs, onlyV, valO, Op.fz, mkO, boolOf, intOf, itemsOf, iSeq, tgN, T.ret_bind, T.ofOpt, retO, putO, flOf, some0, some1, Option.bind_some, Option.map_some, List.getElem?_cons_zero, List.getElem?_cons_succ, List.set_cons_zero, List.set_cons_succ, List.length_cons, List.length_nil, mkL, mkT, small, Bool.not_true, Bool.not_false, if_true, if_false, Bool.false_eq_true, ite_true, ite_false, Nat.reduceAdd, Nat.reduceLT, Nat.reduceLeDiff, e1, e2, ch_bind]
  intro i hi
  have hi' : i < z.cps.toList.length := by simpa [Str.length] using hi
  obtain ⟨c, hc⟩ : ∃ c, z.cps.toList[i]? = some c := ⟨_, List.getElem?_eq_getElem hi'⟩
  have e3 : fIx (.str z) (.int (i : Nat)) = some0 (.str ⟨#[c]⟩) := by
    have a := (ix_nat (xs := z.cps.toList) (k := (i : Nat)) (v := c) (by omega) (by rw [Int.toNat_natCast]; exact hc)).1
    unfold fIx
    simp only [if_pos hl, a, Option.bind_some]
  simp only [sSeq, sIf, sRet, sNx, sSet, sPar, sTgt, sDrop, toT, rOr, rAnd, rNot, rIf, runN, run1, run2, rCons, rNil, rBor, rVar, rMov, rC, rChn, rDisp, rCall, rSlice, oNone, oSome, ret1, frc, frcs, onlyV, valO, Op.fz, mkO, boolOf, intOf, itemsOf, iSeq, tgN, T.ret_bind, T.ofOpt, retO, putO, flOf, some0, some1, Option.bind_some, Option.map_some, List.getElem?_cons_zero, List.getElem?_cons_succ, List.set_cons_zero, List.set_cons_succ, List.length_cons, List.length_nil, mkL, mkT, small, Bool.not_true, Bool.not_false, if_true, if_false, Bool.false_eq_true, ite_true, ite_false, Nat.reduceAdd, Nat.reduceLT, Nat.reduceLeDiff, e3]
  exact h c (List.mem_of_getElem? hc)
theorem erase_perm : ∀ {l : List D} {i : Nat} {y : D}, l[i]? = some y → (y :: l.eraseIdx i).Perm l
  | [], i, y, h => by simp at h
  | x :: l, 0, y, h => by
    simp at h
    subst h
    exact .refl _
  | x :: l, i + 1, y, h => by
    have h : l[i]? = some y := by simpa using h
    show (y :: x :: l.eraseIdx i).Perm (x :: l)
    exact (List.Perm.swap x y _).trans ((erase_perm h).cons x)
end Sx
set_option Elab.async false
set_option linter.all false
set_option maxRecDepth 100000
set_option maxHeartbeats 4000000
set_option autoImplicit false
namespace Sx
open PySem L2
/-! comprehensions whose tests draw -/
theorem rLcL_sub {α : Type} {g : α → D} {t : Tg} {rt : RunT} {re : Run} {vs : List Nat} {e0 : En} (y : α → D) : ∀ (xs : List α) (acc : List D),
    (∀ d ∈ xs, ∃ e2, t (g d) e0 = some e2 ∧ (rt e2).wp fun b => wip b.2 vs = e0 ∧ (b.1 = true → ∃ o e4, re b.2 = .ret (o, e4) ∧ valO o = some (y d) ∧ wip e4 vs = e0)) →
    (rLcL t rt re vs (xs.map g) e0 acc).wp fun r => ∃ ys : List α, ys.Sublist xs ∧ r = (acc ++ ys.map y, e0)
  | [], acc, _ => ⟨[], .slnil, by simp⟩
  | d :: ds, acc, h => by
    obtain ⟨e2, h1, h2⟩ := h d List.mem_cons_self
    have ih := fun acc => rLcL_sub (g := g) (t := t) (rt := rt) (re := re) (vs := vs) (e0 := e0) y ds acc fun d hd => h d (List.mem_cons_of_mem _ hd)
    rw [List.map_cons, rLcL, h1]
    show ((rt e2).bind _).wp _
    refine (T.wp_bind _ _ _).mpr (T.wp_mono h2 fun b ⟨h3, h4⟩ => ?_)
    obtain ⟨b, e3⟩ := b
    cases b with
    | false =>
      show (rLcL t rt re vs (ds.map g) (wip e3 vs) acc).wp _
      have h3 : wip e3 vs = e0 := h3
      rw [h3]
      exact T.wp_mono (ih acc) fun r ⟨ys, a, b⟩ => ⟨ys, a.cons d, b⟩
    | true =>
      obtain ⟨o, e4, g1, g2, g3⟩ := h4 rfl
      have g1 : re e3 = .ret (o, e4) := g1
      show ((re e3).bind _).wp _
      rw [g1]
      show ((T.ofOpt (valO o)).bind _).wp _
      rw [g2]
      show (rLcL t rt re vs (ds.map g) (wip e4 vs) (acc ++ [y d])).wp _
      rw [g3]
      exact T.wp_mono (ih (acc ++ [y d])) fun r ⟨ys, a, b⟩ => ⟨d :: ys, a.cons₂ d, by rw [b]; simp⟩
theorem rLc_sub {α : Type} {g : α → D} {ri : RunI} {l : Option Nat} {t : Tg} {rt : RunT} {re : Run} {vs : List Nat} {en en1 : En} {xs : List α} (y : α → D) (hi : ri en = .ret (xs.map g, en1)) (hl : xs.length ≤ 4096)
    (h : ∀ d ∈ xs, ∃ e2, t (g d) (wip en1 vs) = some e2 ∧ (rt e2).wp fun b => wip b.2 vs = wip en1 vs ∧ (b.1 = true → ∃ o e4, re b.2 = .ret (o, e4) ∧ valO o = some (y d) ∧ wip e4 vs = wip en1 vs)) :
    (rLc ri l t rt re vs en).wp fun r => ∃ ys : List α, ys.Sublist xs ∧ r = (.fr (.lst (ys.map y)), unl l (back (wip en1 vs) en1 vs)) := by
  unfold rLc
  rw [hi]
  show (if (xs.map g).length ≤ 4096 then _ else _ : T (Op × En)).wp _
  rw [if_pos (by rw [List.length_map]; exact hl)]
  refine (T.wp_bind _ _ _).mpr (T.wp_mono (rLcL_sub y xs [] h) fun r ⟨ys, a, b⟩ => ⟨ys, a, ?_⟩)
  rw [b]
  rfl
theorem set_wp {xs : List Str} (nd : xs.Nodup) (hl : xs.length ≤ 1000) : (f_w_set [.drw, .lst (Sl xs)]).wp fun r => ∃ ys : List Str, r = (false, .tup (Sl ys)) ∧ ys.Pairwise Lt ∧ ys.Sublist (srt xs) := by
  have he : en0 3 [.drw, .lst (Sl xs)] = [some (.fz, .drw), some (.fz, .lst (Sl xs)), none] := rfl
  have e1 := sorted_Sl (xs := xs) (by omega)
  have sl : (srt xs).length = xs.length := (srt_perm xs).length_eq
  have c := rLc_sub (l := none) (t := tgN 2) (rt := toT (run2 (rCall f_w_take (rCons (rVar 0) (rCons (rC (.int 3)) rNil))) (rC (.int 0)) fEq)) (re := rVar 2) (vs := [2]) (ri := iSeq (runN (rCons (rVar 1) rNil) fSorted)) (g := D.str) (xs := srt xs) D.str
    (en := [some (.fz, .drw), some (.fz, .lst (Sl xs)), none]) (en1 := [some (.fz, .drw), some (.fz, .lst (Sl xs)), none]) (by
      simp only [sSeq, sIf, sRet, sNx, sSet, sPar, sTgt, sDrop, toT, rOr, rAnd, rNot, rIf, runN, run1, run2, rCons, rNil, rBor, rVar, rMov, rC, rChn, rDisp, rCall, rSlice, oNone, oSome, ret1, frc, frcs, onlyV, valO, Op.fz, mkO, boolOf, intOf, itemsOf, iSeq, tgN, T.ret_bind, T.ofOpt, retO, putO, flOf, some0, some1, Option.bind_some, Option.map_some, List.getElem?_cons_zero, List.getElem?_cons_succ, List.set_cons_zero, List.set_cons_succ, List.length_cons, List.length_nil, mkL, mkT, small, Bool.not_true, Bool.not_false, if_true, if_false, Bool.false_eq_true, ite_true, ite_false, Nat.reduceAdd, Nat.reduceLT, Nat.reduceLeDiff, e1]
      rfl) (by omega) (fun x hx => ⟨[some (.fz, .drw), some (.fz, .lst (Sl xs)), some (.fz, .str x)], rfl, by
      have e2 := take_lit (n := 3) (by decide)
      simp only [sSeq, sIf, sRet, sNx, sSet, sPar, sTgt, sDrop, toT, rOr, rAnd, rNot, rIf, runN, run1, run2, rCons, rNil, rBor, rVar, rMov, rC, rChn, rDisp, rCall, rSlice, oNone, oSome, ret1, frc, frcs, onlyV, valO, Op.fz, mkO, boolOf, intOf, itemsOf, iSeq, tgN, T.ret_bind, T.ofOpt, retO, putO, flOf, some0, some1, Option.bind_some, Option.map_some, List.getElem?_cons_zero, List.getElem?_cons_succ, List.set_cons_zero, List.set_cons_succ, List.length_cons, List.length_nil, mkL, mkT, small, Bool.not_true, Bool.not_false, if_true, if_false, Bool.false_eq_true, ite_true, ite_false, Nat.reduceAdd, Nat.reduceLT, Nat.reduceLeDiff, e2, ch_bind]
      intro i hi
      have e3 : fEq (.int (i : Nat)) (.int 0) = some0 (.bl (decide ((i : Int) = 0))) := by
        by_cases z : (i : Int) = 0
        · rw [decide_eq_true z]; exact fEq_yes (.int _ 0) (.int _ 0) (by decide) (by rw [z])
        · rw [decide_eq_false z]; exact fEq_no (.int _ 0) (.int _ 0) (by decide) fun q => z (by cases q; rfl)
      simp only [sSeq, sIf, sRet, sNx, sSet, sPar, sTgt, sDrop, toT, rOr, rAnd, rNot, rIf, runN, run1, run2, rCons, rNil, rBor, rVar, rMov, rC, rChn, rDisp, rCall, rSlice, oNone, oSome, ret1, frc, frcs, onlyV, valO, Op.fz, mkO, boolOf, intOf, itemsOf, iSeq, tgN, T.ret_bind, T.ofOpt, retO, putO, flOf, some0, some1, Option.bind_some, Option.map_some, List.getElem?_cons_zero, List.getElem?_cons_succ, List.set_cons_zero, List.set_cons_succ, List.length_cons, List.length_nil, mkL, mkT, small, Bool.not_true, Bool.not_false, if_true, if_false, Bool.false_eq_true, ite_true, ite_false, Nat.reduceAdd, Nat.reduceLT, Nat.reduceLeDiff, e3]
      exact ⟨rfl, fun _ => ⟨.v (.str x), _, rfl, rfl, rfl⟩⟩⟩)
  unfold f_w_set runFn r_w_set
  rw [he]
  refine (T.wp_bind _ _ _).mpr ?_
  unfold sSeq sRet runN rCons
  refine (T.wp_bind _ _ _).mpr ((T.wp_bind _ _ _).mpr ((T.wp_bind _ _ _).mpr ((T.wp_bind _ _ _).mpr (T.wp_mono c fun r ⟨ys, h1, h2⟩ => ?_))))
  rw [h2]
  have e4 : fTuple [.lst (Sl ys)] = some0 (.tup (Sl ys)) := rfl
  have : (ys.map D.str) = Sl ys := rfl
  rw [this]
  simp only [sSeq, sIf, sRet, sNx, sSet, sPar, sTgt, sDrop, toT, rOr, rAnd, rNot, rIf, runN, run1, run2, rCons, rNil, rBor, rVar, rMov, rC, rChn, rDisp, rCall, rSlice, oNone, oSome, ret1, frc, frcs, onlyV, valO, Op.fz, mkO, boolOf, intOf, itemsOf, iSeq, tgN, T.ret_bind, T.ofOpt, retO, putO, flOf, some0, some1, Option.bind_some, Option.map_some, List.getElem?_cons_zero, List.getElem?_cons_succ, List.set_cons_zero, List.set_cons_succ, List.length_cons, List.length_nil, mkL, mkT, small, Bool.not_true, Bool.not_false, if_true, if_false, Bool.false_eq_true, ite_true, ite_false, Nat.reduceAdd, Nat.reduceLT, Nat.reduceLeDiff, e4]
  exact ⟨ys, rfl, (srt_lt nd).sublist h1, h1⟩
end Sx
set_option Elab.async false
set_option linter.all false
set_option maxRecDepth 100000
set_option maxHeartbeats 4000000
set_option autoImplicit false
namespace Sx
open PySem L2
theorem fNe_str (a b : Str) : fNe (.str a) (.str b) = some0 (.bl (decide (a ≠ b))) := by
  by_cases h : a = b
  · rw [decide_eq_false (not_not_intro h)]
    exact fNe_no (.str a 0) (.str b 0) (by decide) (by rw [h])
  · rw [decide_eq_true h]
    exact fNe_yes (.str a 0) (.str b 0) (by decide) fun z => h (by cases z; rfl)
theorem dep_wp {xs : List Str} (h0 : xs ≠ []) (nd : xs.Nodup) (hn : ∀ x ∈ xs, Nm x) (hl : xs.length ≤ 1000) :
    (f_w_dependency [.drw, .lst (Sl xs)]).wp fun r => ∃ d : Dep, r = (false, dD d) ∧ DepOk d ∧ d.2 ∈ xs ∧ (∀ x ∈ d.1, x ∈ xs) ∧ d.1.length ≤ xs.length := by
  have he : en0 4 [.drw, .lst (Sl xs)] = [some (.fz, .drw), some (.fz, .lst (Sl xs)), none, none] := rfl
  have ne : Sl xs ≠ [] := fun z => h0 (by simpa [Sl] using z)
  unfold f_w_dependency
  refine wp_fn ?_
  rw [he]
  unfold r_w_dependency
  refine wp_seq (wp_set (wp_call (wp_eq (x := ([.v .drw, .v (.lst (Sl xs))], [some (.fz, .drw), some (.fz, .lst (Sl xs)), none, none])) rfl ⟨_, rfl, pick_wp ne (by unfold Sl; rw [List.length_map]; omega) fun cD hcD => ⟨_, rfl, .inl ⟨_, rfl, ?_⟩⟩⟩)))
  obtain ⟨c, hc, rfl⟩ := List.mem_map.mp hcD
  show (sSeq _ _ [some (.fz, .drw), some (.fz, .lst (Sl xs)), some (.fz, .str c), none]).wp _
  have c1 : rLc (iSeq (rVar 1)) none (tgN 3) (toT (run2 (rBor 3) (rBor 2) fNe)) (rVar 3) [3] [some (.fz, .drw), some (.fz, .lst (Sl xs)), some (.fz, .str c), none] = .ret (.fr (.lst (Sl (xs.filter fun x => decide (x ≠ c)))), [some (.fz, .drw), some (.fz, .lst (Sl xs)), some (.fz, .str c), none]) := by
    refine (rLc_map (en1 := [some (.fz, .drw), some (.fz, .lst (Sl xs)), some (.fz, .str c), none]) (g := D.str) (fun x => decide (x ≠ c)) D.str rfl (by omega) fun x hx => ?_).trans (by rfl)
    refine ⟨[some (.fz, .drw), some (.fz, .lst (Sl xs)), some (.fz, .str c), some (.fz, .str x)], [some (.fz, .drw), some (.fz, .lst (Sl xs)), some (.fz, .str c), some (.fz, .str x)], rfl, ?_, fun _ => rfl, fun _ => ⟨.v (.str x), [some (.fz, .drw), some (.fz, .lst (Sl xs)), some (.fz, .str c), some (.fz, .str x)], rfl, rfl, rfl⟩⟩
    simp only [sSeq, sIf, sRet, sNx, sSet, sPar, sTgt, sDrop, toT, rOr, rAnd, rNot, rIf, runN, run1, run2, rCons, rNil, rBor, rVar, rMov, rC, rChn, rDisp, rCall, rSlice, oNone, oSome, ret1, frc, frcs, onlyV, valO, Op.fz, mkO, boolOf, intOf, itemsOf, iSeq, tgN, T.ret_bind, T.ofOpt, retO, putO, flOf, some0, some1, Option.bind_some, Option.map_some, List.getElem?_cons_zero, List.getElem?_cons_succ, List.set_cons_zero, List.set_cons_succ, List.length_cons, List.length_nil, mkL, mkT, small, Bool.not_true, Bool.not_false, if_true, if_false, Bool.false_eq_true, ite_true, ite_false, Nat.reduceAdd, Nat.reduceLT, Nat.reduceLeDiff, fNe_str x c]
  have sub : (xs.filter fun x => decide (x ≠ c)).Nodup := nd.filter _
  have len : (xs.filter fun x => decide (x ≠ c)).length ≤ xs.length := List.length_filter_le _ _
  let E : En := [some (.fz, .drw), some (.fz, .lst (Sl xs)), some (.fz, .str c), none]
  refine wp_seq (wp_ret (wp_disp (wp_cons (wp_call ?_))))
  refine wp_cons (wp_eq (x := (.v .drw, E)) rfl ?_)
  refine wp_cons (wp_eq c1 ?_)
  refine wp_eq (x := ([], E)) rfl ⟨_, rfl, ?_⟩
  refine T.wp_mono (set_wp sub (by omega)) fun r ⟨ys, e, so, su⟩ => ?_
  rw [e]
  have mem : ∀ x ∈ ys, x ∈ xs ∧ x ≠ c := fun x hx => by
    have := srt_mem.mp (su.subset hx)
    have := List.mem_filter.mp this
    exact ⟨this.1, of_decide_eq_true this.2⟩
  have ly : ys.length ≤ xs.length := by
    have := su.length_le
    rw [(srt_perm _).length_eq] at this
    omega
  refine wp_eq (x := ([.v (.str c)], [some (.fz, .drw), some (.fz, .lst (Sl xs)), some (.fz, .str c), none])) rfl ⟨_, rfl, _, rfl, .inr ⟨(by intro z; cases z), _, rfl, (ys, c), rfl, ?_⟩⟩
  exact ⟨⟨fun x hx => hn x (mem x hx).1, so, by show ys.length ≤ 1000; omega, hn c hc, fun z => (mem c z).2 rfl⟩, hc, fun x hx => (mem x hx).1, ly⟩
end Sx
set_option Elab.async false
set_option linter.all false
set_option maxRecDepth 100000
set_option maxHeartbeats 4000000
set_option autoImplicit false
namespace Sx
open PySem L2
/-! texts -/
theorem glued_list (parts : List Str) : (Txt.join "" parts).cps.toList = parts.flatMap fun p => p.cps.toList := by
  have f : ∀ (l : List Str) (acc : Array Nat), (l.foldl (fun acc p => acc ++ ("" : Str).cps ++ p.cps) acc).toList = acc.toList ++ l.flatMap fun p => p.cps.toList := by
    intro l
    induction l with
    | nil => intro acc; simp
    | cons p l ih =>
      intro acc
      rw [List.foldl_cons, ih]
      have : ("" : Str).cps = #[] := rfl
      simp [this]
  show ((parts.drop 1).foldl (fun acc p => acc ++ ("" : Str).cps ++ p.cps) (parts.headD Str.empty).cps).toList = _
  rw [f]
  cases parts with
  | nil => rfl
  | cons p l => simp
theorem nm_join {cs : List Nat} (h1 : 1 ≤ cs.length) (h2 : cs.length ≤ 8) (h : ∀ c ∈ cs, c ∈ az.cps.toList) : Nm (Txt.join "" (cs.map fun c => ⟨#[c]⟩)) := by
  have e : (Txt.join "" (cs.map fun c => (⟨#[c]⟩ : Str))).cps.toList = cs := by
    rw [glued_list, List.flatMap_map]
    induction cs with
    | nil => rfl
    | cons c cs _ => simp
  have l : (Txt.join "" (cs.map fun c => (⟨#[c]⟩ : Str))).length = cs.length := by
    show Array.size _ = _
    rw [← Array.length_toList, e]
  exact ⟨by rw [l]; exact h1, by rw [l]; exact h2, by rw [e]; exact h⟩
theorem nm_of {s : Str} {l : List Nat} (e : s.cps.toList = l) (h1 : 1 ≤ l.length) (h2 : l.length ≤ 8) (h : ∀ c ∈ l, c ∈ az.cps.toList) : Nm s := by
  have n : s.length = l.length := by
    show Array.size _ = _
    rw [← Array.length_toList, e]
  exact ⟨by rw [n]; exact h1, by rw [n]; exact h2, by rw [e]; exact h⟩
theorem Nm.list {s : Str} (h : Nm s) : 1 ≤ s.cps.toList.length ∧ s.cps.toList.length ≤ 8 := by
  have : s.cps.toList.length = s.length := Array.length_toList
  have := h.lo
  have := h.hi
  omega
theorem app_list (a b : Str) : (a ++ b).cps.toList = a.cps.toList ++ b.cps.toList := by
  show (a.cps ++ b.cps).toList = _
  exact Array.toList_append
theorem cut_list (z : Str) (n : Nat) (hi : Option Int) (e : HT.sIx z.length z.length hi = n) : (cutS z none hi).cps.toList = z.cps.toList.take n := by
  unfold cutS
  simp [HT.sIx_none, e]
/-- word[:-1] + letter -/
theorem nm_last {s : Str} {c : Nat} (h : Nm s) (hc : c ∈ az.cps.toList) : Nm (cutS s none (some (-1)) ++ ⟨#[c]⟩) := by
  obtain ⟨h1, h2⟩ := h.list
  have l : s.cps.toList.length = s.length := Array.length_toList
  have e : HT.sIx s.length s.length (some (-1)) = s.length - 1 := by
    unfold HT.sIx
    simp only
    rw [if_pos (by decide)]
    omega
  refine nm_of (l := s.cps.toList.take (s.length - 1) ++ [c]) (by rw [app_list, cut_list s _ _ e]) ?_ ?_ ?_
  · simp
  · rw [List.length_append, List.length_take]; simp; omega
  · intro x hx
    rcases List.mem_append.mp hx with hx | hx
    · exact h.az x (List.mem_of_mem_take hx)
    · rw [List.mem_singleton] at hx; rw [hx]; exact hc
/-- word[:7] + letter -/
theorem nm_seven {s : Str} {c : Nat} (h : Nm s) (hc : c ∈ az.cps.toList) : Nm (cutS s none (some 7) ++ ⟨#[c]⟩) := by
  obtain ⟨h1, h2⟩ := h.list
  have l : s.cps.toList.length = s.length := Array.length_toList
  have e : HT.sIx s.length s.length (some 7) = min 7 s.length := by
    rw [show (some (7 : Int)) = some ((7 : Nat) : Int) from rfl, HT.sIx_nat]
  refine nm_of (l := s.cps.toList.take (min 7 s.length) ++ [c]) (by rw [app_list, cut_list s _ _ e]) ?_ ?_ ?_
  · simp
  · rw [List.length_append, List.length_take]; simp; omega
  · intro x hx
    rcases List.mem_append.mp hx with hx | hx
    · exact h.az x (List.mem_of_mem_take hx)
    · rw [List.mem_singleton] at hx; rw [hx]; exact hc
theorem az_nodup : az.cps.toList.Nodup := by decide +kernel
theorem az_len : az.cps.toList.length = 26 := by decide +kernel
theorem sev_inj {s : Str} {c d : Nat} (h : cutS s none (some 7) ++ (⟨#[c]⟩ : Str) = cutS s none (some 7) ++ ⟨#[d]⟩) : c = d := by
  have := congrArg (fun z : Str => z.cps.toList) h
  simp only [app_list] at this
  have := List.append_cancel_left this
  simpa using this
/-- one of the others is new -/
theorem fresh_sev {found : List Str} {s : Str} (hl : found.length < 26) : ∃ c ∈ az.cps.toList, cutS s none (some 7) ++ (⟨#[c]⟩ : Str) ∉ found := by
  refine Classical.byContradiction fun z => ?_
  have all : ∀ c ∈ az.cps.toList, cutS s none (some 7) ++ (⟨#[c]⟩ : Str) ∈ found := fun c hc => Classical.byContradiction fun q => z ⟨c, hc, q⟩
  have nd : (az.cps.toList.map fun c => cutS s none (some 7) ++ (⟨#[c]⟩ : Str)).Nodup := by
    exact List.pairwise_map.mpr (az_nodup.imp fun {a b} ne e => ne (sev_inj e))
  have := nodup_len (m := found) nd fun x hx => by
    obtain ⟨c, hc, rfl⟩ := List.mem_map.mp hx
    exact all c hc
  rw [List.length_map, az_len] at this
  omega
end Sx
set_option Elab.async false
set_option linter.all false
set_option maxRecDepth 100000
set_option maxHeartbeats 4000000
set_option autoImplicit false
namespace Sx
open PySem L2
/-! a turn of the names -/
def sev (w : Str) (c : Nat) : Str := cutS w none (some 7) ++ ⟨#[c]⟩
abbrev E11 (m : D) (pool found : List Str) (t : Slot) (w : Str) (o : Slot) : En := [some (.fz, .drw), some (.fz, m), some (.ow, .lst (Sl pool)), some (.fz, .str az), some (.ow, .lst (Sl found)), t, some (.fz, .str w), o, none, none, none]
theorem lc_others {m : D} {pool found : List Str} {t o : Slot} {w : Str} (hw : Nm w) :
    rLc (iSeq (rVar 3)) none (tgN 9) rYes (run2 (rSlice (rBor 6) oNone (oSome (rC (.int 7)))) (rBor 9) fAdd) [9] (E11 m pool found t w o) = .ret (.fr (.lst (Sl (az.cps.toList.map (sev w)))), E11 m pool found t w o) := by
  have hl : w.length ≤ 65536 := Nat.le_trans hw.hi (by decide)
  have e1 : fSl (.str w) none (some 7) = some0 (.str (cutS w none (some 7))) := by
    unfold fSl
    simp only [if_pos hl]
  have lc : (cutS w none (some 7)).length ≤ 8 := by
    have e : HT.sIx w.length w.length (some 7) = min 7 w.length := by rw [show (some (7 : Int)) = some ((7 : Nat) : Int) from rfl, HT.sIx_nat]
    have q := cut_list w _ _ e
    have : (cutS w none (some 7)).cps.toList.length = (cutS w none (some 7)).length := Array.length_toList
    rw [← this, q, List.length_take]
    have := hw.hi
    omega
  refine (rLc_map (en1 := E11 m pool found t w o) (g := fun c => D.str ⟨#[c]⟩) (xs := az.cps.toList) (fun _ => true) (fun c => .str (sev w c)) rfl (by rw [az_len]; decide) fun c hc => ?_).trans (by rw [filter_tt]; unfold Sl; rw [List.map_map]; rfl)
  have e2 : fAdd (.str (cutS w none (some 7))) (.str ⟨#[c]⟩) = some0 (.str (sev w c)) := by
    show (if (cutS w none (some 7)).length + (⟨#[c]⟩ : Str).length ≤ 65536 then some0 (.str (cutS w none (some 7) ++ ⟨#[c]⟩)) else none) = _
    have l1 : (⟨#[c]⟩ : Str).length = 1 := rfl
    rw [if_pos (by omega)]
    rfl
  refine ⟨[some (.fz, .drw), some (.fz, m), some (.ow, .lst (Sl pool)), some (.fz, .str az), some (.ow, .lst (Sl found)), t, some (.fz, .str w), o, none, some (.fz, .str ⟨#[c]⟩), none], _, rfl, rfl, (fun z => by cases z), fun _ => ⟨.v (.str (sev w c)), [some (.fz, .drw), some (.fz, m), some (.ow, .lst (Sl pool)), some (.fz, .str az), some (.ow, .lst (Sl found)), t, some (.fz, .str w), o, none, some (.fz, .str ⟨#[c]⟩), none], ?_, rfl, rfl⟩⟩
  simp only [sSeq, sIf, sRet, sNx, sSet, sPar, sTgt, sDrop, toT, rOr, rAnd, rNot, rIf, runN, run1, run2, rCons, rNil, rBor, rVar, rMov, rC, rChn, rDisp, rCall, rSlice, oNone, oSome, ret1, frc, frcs, onlyV, valO, Op.fz, mkO, boolOf, intOf, itemsOf, iSeq, tgN, T.ret_bind, T.ofOpt, retO, putO, flOf, some0, some1, Option.bind_some, Option.map_some, List.getElem?_cons_zero, List.getElem?_cons_succ, List.set_cons_zero, List.set_cons_succ, List.length_cons, List.length_nil, mkL, mkT, small, Bool.not_true, Bool.not_false, if_true, if_false, Bool.false_eq_true, ite_true, ite_false, Nat.reduceAdd, Nat.reduceLT, Nat.reduceLeDiff, e1, e2]
end Sx
set_option Elab.async false
set_option linter.all false
set_option maxRecDepth 100000
set_option maxHeartbeats 4000000
set_option autoImplicit false
namespace Sx
open PySem L2
theorem wp_if {rc : RunT} {a b : RunS} {en : En} {Q : Fl × En → Prop} (h : (rc en).wp fun x => (if x.1 then a x.2 else b x.2).wp Q) : (sIf rc a b en).wp Q :=
  (T.wp_bind _ _ _).mpr h
theorem wp_nx {a b : RunS} {en : En} {Q : Fl × En → Prop} (h : (a en).wp fun r => ∃ e, r = (.nx, e) ∧ (b e).wp Q) : (sSeq a b en).wp Q :=
  wp_seq (T.wp_mono h fun _ q => .inl q)
theorem fEq_int (i j : Int) : fEq (.int i) (.int j) = some0 (.bl (decide (i = j))) := by
  by_cases z : i = j
  · rw [decide_eq_true z]; exact fEq_yes (.int _ 0) (.int _ 0) (by decide) (by rw [z])
  · rw [decide_eq_false z]; exact fEq_no (.int _ 0) (.int _ 0) (by decide) fun q => z (by cases q; rfl)
theorem coin {j : Nat} {n : Int} {en : En} (k : 0 < n ∧ n ≤ 1073741824) (h0 : en[j]? = some (some (.fz, .drw))) :
    toT (run2 (rCall f_w_take (rCons (rVar j) (rCons (rC (.int n)) rNil))) (rC (.int 0)) fEq) en = .ch n.toNat fun i => .ret (decide ((i : Int) = 0), en) := by
  have e2 := take_lit k
  unfold toT run2 rCall rCons rNil rVar rC
  simp only [h0, sSeq, sIf, sRet, sNx, sSet, sPar, sTgt, sDrop, toT, rOr, rAnd, rNot, rIf, runN, run1, run2, rCons, rNil, rBor, rVar, rMov, rC, rChn, rDisp, rCall, rSlice, oNone, oSome, ret1, frc, frcs, onlyV, valO, Op.fz, mkO, boolOf, intOf, itemsOf, iSeq, tgN, T.ret_bind, T.ofOpt, retO, putO, flOf, some0, some1, Option.bind_some, Option.map_some, List.getElem?_cons_zero, List.getElem?_cons_succ, List.set_cons_zero, List.set_cons_succ, List.length_cons, List.length_nil, mkL, mkT, small, Bool.not_true, Bool.not_false, if_true, if_false, Bool.false_eq_true, ite_true, ite_false, Nat.reduceAdd, Nat.reduceLT, Nat.reduceLeDiff, e2, ch_bind, fEq_int]
theorem map_erase {α β : Type} (f : α → β) : ∀ (l : List α) (i : Nat), (l.map f).eraseIdx i = (l.eraseIdx i).map f
  | [], _ => rfl
  | _ :: _, 0 => rfl
  | x :: l, i + 1 => by
    show f x :: (l.map f).eraseIdx i = f x :: (l.eraseIdx i).map f
    rw [map_erase f l i]
/-! one turn -/
abbrev EN (m : D) (pool found : List Str) (t w o : Slot) : En := [some (.fz, .drw), some (.fz, m), some (.ow, .lst (Sl pool)), some (.fz, .str az), some (.ow, .lst (Sl found)), t, w, o, none, none, none]
theorem n_pop {m : D} {pool found : List Str} {t w o : Slot} (h0 : pool ≠ []) (hl : pool.length < 4000) (hp : ∀ x ∈ pool, Nm x) :
    ((sSet 6 (rPopI 2 (rCall f_w_take (rCons (rVar 0) (rCons (runN (rCons (rBor 2) rNil) fLen) rNil))))) (EN m pool found t w o)).wp fun r => ∃ x pool', r = (.nx, EN m pool' found t (some (.fz, .str x)) o) ∧ Nm x ∧ pool'.length + 1 = pool.length ∧ ∀ y ∈ pool', Nm y := by
  have ll : (Sl pool).length = pool.length := List.length_map ..
  have e1 : fLen [.lst (Sl pool)] = some0 (.int (pool.length : Nat)) := by rw [← ll]; rfl
  have e2 := take_run (n := pool.length) (List.length_pos_iff.mpr h0) (by omega)
  simp only [EN, sSeq, sIf, sRet, sNx, sSet, sPar, sTgt, sDrop, toT, rOr, rAnd, rNot, rIf, runN, run1, run2, rCons, rNil, rBor, rVar, rMov, rC, rChn, rDisp, rCall, rSlice, oNone, oSome, ret1, frc, frcs, onlyV, valO, Op.fz, mkO, boolOf, intOf, itemsOf, iSeq, tgN, T.ret_bind, T.ofOpt, retO, putO, flOf, some0, some1, Option.bind_some, Option.map_some, List.getElem?_cons_zero, List.getElem?_cons_succ, List.set_cons_zero, List.set_cons_succ, List.length_cons, List.length_nil, mkL, mkT, small, Bool.not_true, Bool.not_false, if_true, if_false, Bool.false_eq_true, ite_true, ite_false, Nat.reduceAdd, Nat.reduceLT, Nat.reduceLeDiff, rPopI, ownL, e1, e2, ch_bind]
  intro i hi
  obtain ⟨y, hy⟩ : ∃ y, pool[i]? = some y := ⟨_, List.getElem?_eq_getElem hi⟩
  have hy' : (Sl pool)[i]? = some (.str y) := by unfold Sl; rw [List.getElem?_map, hy]; rfl
  have hc : (0 : Int) ≤ (i : Nat) ∧ ((i : Nat) : Int) < 4096 := by omega
  simp only [sSeq, sIf, sRet, sNx, sSet, sPar, sTgt, sDrop, toT, rOr, rAnd, rNot, rIf, runN, run1, run2, rCons, rNil, rBor, rVar, rMov, rC, rChn, rDisp, rCall, rSlice, oNone, oSome, ret1, frc, frcs, onlyV, valO, Op.fz, mkO, boolOf, intOf, itemsOf, iSeq, tgN, T.ret_bind, T.ofOpt, retO, putO, flOf, some0, some1, Option.bind_some, Option.map_some, List.getElem?_cons_zero, List.getElem?_cons_succ, List.set_cons_zero, List.set_cons_succ, List.length_cons, List.length_nil, mkL, mkT, small, Bool.not_true, Bool.not_false, if_true, if_false, Bool.false_eq_true, ite_true, ite_false, Nat.reduceAdd, Nat.reduceLT, Nat.reduceLeDiff, if_pos hc, Int.toNat_natCast, hy', ownL]
  refine ⟨y, pool.eraseIdx i, ?_, hp y (List.mem_of_getElem? hy), ?_, fun z hz => hp z (List.mem_of_mem_eraseIdx hz)⟩
  · unfold Sl
    rw [map_erase]
  · rw [List.length_eraseIdx, if_pos hi]; omega
theorem pick_az {Q : Bool × D → Prop} (h : ∀ c ∈ az.cps.toList, Q (false, .str ⟨#[c]⟩)) : (f_w_pick [.drw, .str az]).wp Q :=
  pick_str (by show 0 < az.cps.size; rw [← Array.length_toList, az_len]; decide) (by show az.cps.size ≤ _; rw [← Array.length_toList, az_len]; decide) h
/-- a comprehension whose value is drawn -/
theorem rLcL_drawn {α : Type} {P : α → Prop} {y : α → D} {t : Tg} {re : Run} {vs : List Nat} {e0 : En} : ∀ (xs : List D) (acc : List α),
    (∀ d ∈ xs, ∃ e2, t d e0 = some e2 ∧ (re e2).wp fun o => ∃ a, P a ∧ valO o.1 = some (y a) ∧ wip o.2 vs = e0) →
    (rLcL t rYes re vs xs e0 (acc.map y)).wp fun r => ∃ ys : List α, ys.length = xs.length ∧ (∀ a ∈ ys, P a) ∧ r = ((acc ++ ys).map y, e0)
  | [], acc, _ => ⟨[], rfl, by simp, by simp [rLcL]⟩
  | d :: ds, acc, h => by
    obtain ⟨e2, h1, h2⟩ := h d List.mem_cons_self
    rw [rLcL, h1]
    show ((re e2).bind _).wp _
    refine (T.wp_bind _ _ _).mpr (T.wp_mono h2 fun o ⟨a, pa, h3, h4⟩ => ?_)
    show ((T.ofOpt (valO o.1)).bind _).wp _
    rw [h3]
    show (rLcL t rYes re vs ds (wip o.2 vs) (acc.map y ++ [y a])).wp _
    rw [h4]
    have ih := rLcL_drawn (P := P) (y := y) (t := t) (re := re) (vs := vs) (e0 := e0) ds (acc ++ [a]) fun d hd => h d (List.mem_cons_of_mem _ hd)
    rw [List.map_append] at ih
    exact T.wp_mono ih fun r ⟨ys, l, p, q⟩ => ⟨a :: ys, by simp [l], fun b hb => (List.mem_cons.mp hb).elim (fun e => e ▸ pa) (p b), by rw [q]; simp⟩
theorem rLc_drawn {α : Type} (P : α → Prop) (y : α → D) (R : List D → Prop) {ri : RunI} {l : Option Nat} {t : Tg} {re : Run} {vs : List Nat} {en en1 : En} (hi : (ri en).wp fun r => r.2 = en1 ∧ r.1.length ≤ 4096 ∧ R r.1)
    (h : ∀ xs, R xs → ∀ d ∈ xs, ∃ e2, t d (wip en1 vs) = some e2 ∧ (re e2).wp fun o => ∃ a, P a ∧ valO o.1 = some (y a) ∧ wip o.2 vs = wip en1 vs) :
    (rLc ri l t rYes re vs en).wp fun r => ∃ (xs : List D) (ys : List α), R xs ∧ ys.length = xs.length ∧ (∀ a ∈ ys, P a) ∧ r = (.fr (.lst (ys.map y)), unl l (back (wip en1 vs) en1 vs)) := by
  unfold rLc
  refine (T.wp_bind _ _ _).mpr (T.wp_mono hi fun r ⟨h1, hl, hR⟩ => ?_)
  obtain ⟨xs, e⟩ := r
  cases h1
  show (if xs.length ≤ 4096 then _ else _ : T (Op × En)).wp _
  rw [if_pos hl]
  refine (T.wp_bind _ _ _).mpr (T.wp_mono (rLcL_drawn (P := P) (y := y) xs [] (h xs hR)) fun r ⟨ys, a, b, c⟩ => ⟨xs, ys, hR, a, b, ?_⟩)
  rw [c]
  simp
theorem wp_strM {x : Str} {f : Str → List D → Option (Bool × D)} {rs : Runs} {en : En} {Q : Op × En → Prop} (h : (rs en).wp fun b => ∃ r, ((frcs b.2 b.1).bind fun ds => f x ds) = some r ∧ Q (mkO r, b.2)) : (rStrM (rC (.str x)) rs f en).wp Q := by
  show ((rs en).bind fun b => ret1 ((frcs b.2 b.1).bind fun ds => f x ds) b.2).wp Q
  exact (T.wp_bind _ _ _).mpr (T.wp_mono h fun r ⟨d, h1, q⟩ => by
    show (ret1 _ r.2).wp _
    rw [h1]
    exact q)
theorem wp_run2 {ra rb : Run} {f : D → D → Option (Bool × D)} {en : En} {Q : Op × En → Prop} (h : (ra en).wp fun a => (rb a.2).wp fun b => ∃ r, ((frc b.2 a.1.fz).bind fun x => (frc b.2 b.1.fz).bind fun y => f x y) = some r ∧ Q (mkO r, b.2)) : (run2 ra rb f en).wp Q :=
  (T.wp_bind _ _ _).mpr (T.wp_mono h fun a h => (T.wp_bind _ _ _).mpr (T.wp_mono h fun r ⟨d, h1, q⟩ => by
    show (ret1 _ r.2).wp _
    rw [h1]
    exact q))
def wordR : RunS := (sSeq (sSet 6 (rStrM (rC (.str "")) (rCons (rLc (iRange (rCons (run2 (rC (.int 1)) (rCall f_w_take (rCons (rVar 0) (rCons (rC (.int 8)) rNil))) fAdd) rNil)) none (tgN 8) rYes (rCall f_w_pick (rCons (rVar 0) (rCons (rVar 3) rNil))) [8]) rNil) fJoin)) sNx)
theorem n_word {m : D} {pool found : List Str} {t w o : Slot} : (wordR (EN m pool found t w o)).wp fun r => ∃ x, r = (.nx, EN m pool found t (some (.fz, .str x)) o) ∧ Nm x := by
  have e2 := take_lit (n := 8) (by decide)
  have c := rLc_drawn (l := none) (t := tgN 8) (vs := [8]) (fun c => c ∈ az.cps.toList) (fun c => D.str ⟨#[c]⟩) (fun xs => 1 ≤ xs.length ∧ xs.length ≤ 8) (ri := iRange (rCons (run2 (rC (.int 1)) (rCall f_w_take (rCons (rVar 0) (rCons (rC (.int 8)) rNil))) fAdd) rNil)) (re := rCall f_w_pick (rCons (rVar 0) (rCons (rVar 3) rNil)))
    (en := EN m pool found t w o) (en1 := EN m pool found t w o) (by
      simp only [EN, iRange, sSeq, sIf, sRet, sNx, sSet, sPar, sTgt, sDrop, toT, rOr, rAnd, rNot, rIf, runN, run1, run2, rCons, rNil, rBor, rVar, rMov, rC, rChn, rDisp, rCall, rSlice, oNone, oSome, ret1, frc, frcs, onlyV, valO, Op.fz, mkO, boolOf, intOf, itemsOf, iSeq, tgN, T.ret_bind, T.ofOpt, retO, putO, flOf, some0, some1, Option.bind_some, Option.map_some, List.getElem?_cons_zero, List.getElem?_cons_succ, List.set_cons_zero, List.set_cons_succ, List.length_cons, List.length_nil, mkL, mkT, small, Bool.not_true, Bool.not_false, if_true, if_false, Bool.false_eq_true, ite_true, ite_false, Nat.reduceAdd, Nat.reduceLT, Nat.reduceLeDiff, e2, ch_bind]
      intro i hi
      have hi : i < 8 := hi
      have a1 : fAdd (.int 1) (.int (i : Nat)) = some0 (.int (1 + (i : Int))) := rfl
      have a2 : 1 + (i : Int) ≤ 4096 ∧ -4096 ≤ 1 + (i : Int) := by omega
      have a3 : (1 + (i : Int)).toNat = 1 + i := by omega
      simp only [sSeq, sIf, sRet, sNx, sSet, sPar, sTgt, sDrop, toT, rOr, rAnd, rNot, rIf, runN, run1, run2, rCons, rNil, rBor, rVar, rMov, rC, rChn, rDisp, rCall, rSlice, oNone, oSome, ret1, frc, frcs, onlyV, valO, Op.fz, mkO, boolOf, intOf, itemsOf, iSeq, tgN, T.ret_bind, T.ofOpt, retO, putO, flOf, some0, some1, Option.bind_some, Option.map_some, List.getElem?_cons_zero, List.getElem?_cons_succ, List.set_cons_zero, List.set_cons_succ, List.length_cons, List.length_nil, mkL, mkT, small, Bool.not_true, Bool.not_false, if_true, if_false, Bool.false_eq_true, ite_true, ite_false, Nat.reduceAdd, Nat.reduceLT, Nat.reduceLeDiff, a1, if_pos a2, a3]
      refine ⟨rfl, ?_, ?_, ?_⟩ <;> (rw [List.length_map, List.length_range]; omega)) (fun xs _ d _ => ⟨[some (.fz, .drw), some (.fz, m), some (.ow, .lst (Sl pool)), some (.fz, .str az), some (.ow, .lst (Sl found)), t, w, o, some (.fz, d), none, none], rfl, wp_call (wp_eq rfl ⟨_, rfl, pick_az fun c hc => ⟨c, hc, rfl, rfl⟩⟩)⟩)
  unfold wordR
  refine wp_nx (wp_set (wp_strM (wp_cons (T.wp_mono c fun r ⟨xs, cs, hx, hl, hc, e⟩ => ?_))))
  rw [e]
  have s1 : cs.map (fun c => D.str ⟨#[c]⟩) = Sl (cs.map fun c => ⟨#[c]⟩) := by unfold Sl; rw [List.map_map]; rfl
  have s2 : ∀ l : List Nat, ((l.map fun c => (⟨#[c]⟩ : Str)).map (·.length)).sum = l.length := fun l => by
    induction l with
    | nil => rfl
    | cons c l ih =>
      rw [List.map_cons, List.map_cons, List.sum_cons, ih, List.length_cons]
      have : (⟨#[c]⟩ : Str).length = 1 := rfl
      omega
  have s3 : fJoin "" [.lst (Sl (cs.map fun c => ⟨#[c]⟩))] = some0 (.str (Txt.join "" (cs.map fun c => ⟨#[c]⟩))) := by
    unfold fJoin
    simp only [strsOf_Sl, Option.bind_some]
    rw [if_pos]
    rw [s2, List.length_map]
    have : ("" : Str).length = 0 := rfl
    rw [this]
    omega
  refine wp_eq (x := ([], EN m pool found t w o)) rfl ⟨(false, .str (Txt.join "" (cs.map fun c => ⟨#[c]⟩))), ?_, EN m pool found t (some (.fz, .str (Txt.join "" (cs.map fun c => ⟨#[c]⟩)))) o, rfl, _, rfl, _, rfl, nm_join (by omega) (by omega) hc⟩
  rw [s1]
  exact s3
def lastR : RunS := (sSeq (sSet 6 (run2 (rSlice (run2 (rBor 4) (run1 (rC (.int 1)) fNeg) fIx) oNone (oSome (run1 (rC (.int 1)) fNeg))) (rCall f_w_pick (rCons (rVar 0) (rCons (rVar 3) rNil))) fAdd)) sNx)
theorem n_last {m : D} {pool found : List Str} {t w o : Slot} (hf : found ≠ []) (hn : ∀ x ∈ found, Nm x) : (lastR (EN m pool found t w o)).wp fun r => ∃ x, r = (.nx, EN m pool found t (some (.fz, .str x)) o) ∧ Nm x := by
  obtain ⟨p, z, hz⟩ : ∃ p z, found = p ++ [z] := by
    rcases List.eq_nil_or_concat found with h | ⟨p, z, h⟩
    · exact absurd h hf
    · exact ⟨p, z, by simpa using h⟩
  have nz : Nm z := hn z (by rw [hz]; simp)
  have zl : z.length ≤ 65536 := Nat.le_trans nz.hi (by decide)
  have e1 := last_Sl ⟨p, hz⟩
  have e2 : fNeg (.int 1) = some0 (.int (-1)) := rfl
  have e3 : fSl (.str z) none (some (-1)) = some0 (.str (cutS z none (some (-1)))) := by
    unfold fSl
    simp only [if_pos zl]
  have a : rSlice (run2 (rBor 4) (run1 (rC (.int 1)) fNeg) fIx) oNone (oSome (run1 (rC (.int 1)) fNeg)) (EN m pool found t w o) = .ret (.v (.str (cutS z none (some (-1)))), EN m pool found t w o) := by
    simp only [EN, sSeq, sIf, sRet, sNx, sSet, sPar, sTgt, sDrop, toT, rOr, rAnd, rNot, rIf, runN, run1, run2, rCons, rNil, rBor, rVar, rMov, rC, rChn, rDisp, rCall, rSlice, oNone, oSome, ret1, frc, frcs, onlyV, valO, Op.fz, mkO, boolOf, intOf, itemsOf, iSeq, tgN, T.ret_bind, T.ofOpt, retO, putO, flOf, some0, some1, Option.bind_some, Option.map_some, List.getElem?_cons_zero, List.getElem?_cons_succ, List.set_cons_zero, List.set_cons_succ, List.length_cons, List.length_nil, mkL, mkT, small, Bool.not_true, Bool.not_false, if_true, if_false, Bool.false_eq_true, ite_true, ite_false, Nat.reduceAdd, Nat.reduceLT, Nat.reduceLeDiff, e1, e2, e3]
  unfold lastR
  refine wp_nx (wp_set (wp_run2 (wp_eq a (wp_call (wp_eq (x := ([.v .drw, .v (.str az)], EN m pool found t w o)) rfl ⟨_, rfl, pick_az fun c hc => ?_⟩)))))
  have nl := nm_last nz hc
  have ll : (cutS z none (some (-1)) ++ (⟨#[c]⟩ : Str)).length = (cutS z none (some (-1))).length + (⟨#[c]⟩ : Str).length := by
    show Array.size (_ ++ _) = _
    exact Array.size_append
  have e4 : fAdd (.str (cutS z none (some (-1)))) (.str ⟨#[c]⟩) = some0 (.str (cutS z none (some (-1)) ++ ⟨#[c]⟩)) := by
    show (if (cutS z none (some (-1))).length + (⟨#[c]⟩ : Str).length ≤ 65536 then some0 (.str (cutS z none (some (-1)) ++ (⟨#[c]⟩ : Str))) else none) = _
    rw [if_pos]
    have := nl.hi
    omega
  exact ⟨_, e4, _, rfl, _, rfl, _, rfl, nl⟩
theorem rLc_to {ri ri' : RunI} {l : Option Nat} {t : Tg} {rt : RunT} {re : Run} {vs : List Nat} {en en1 : En} {xs : List D} (h : ri en = .ret (xs, en1)) (h' : ri' en1 = .ret (xs, en1)) : rLc ri l t rt re vs en = rLc ri' l t rt re vs en1 := by
  unfold rLc
  rw [h, h']
def newR : RunS := (sSeq (sSet 7 (run2 (rDisp mkL (rCons (rVar 6) rNil)) (rLc (iSeq (rVar 3)) none (tgN 9) rYes (run2 (rSlice (rBor 6) oNone (oSome (rC (.int 7)))) (rBor 9) fAdd) [9]) fAdd))
    (sSeq (sDrop (rApp 4 (run2 (rLc (iSeq (rVar 7)) none (tgN 10) (toT (run2 (rBor 10) (rBor 4) fNotIn)) (rVar 10) [10]) (rC (.int 0)) fIx)))
    sNx))
theorem n_new {m : D} {pool found : List Str} {t o : Slot} {w : Str} (hw : Nm w) (hl : found.length < 26) : ∃ x o', newR (EN m pool found t (some (.fz, .str w)) o) = .ret (.nx, EN m pool (found ++ [x]) t (some (.fz, .str w)) o') ∧ Nm x ∧ x ∉ found := by
  have c1 := lc_others (m := m) (pool := pool) (found := found) (t := t) (o := o) hw
  have la : (az.cps.toList.map (sev w)).length = 26 := by rw [List.length_map, az_len]
  have e1 : fAdd (.lst [.str w]) (.lst (Sl (az.cps.toList.map (sev w)))) = some1 (.lst (Sl (w :: az.cps.toList.map (sev w)))) := by
    show (if [D.str w].length + (Sl (az.cps.toList.map (sev w))).length ≤ 4096 then some1 (.lst ([.str w] ++ Sl (az.cps.toList.map (sev w)))) else none) = _
    rw [if_pos]
    · rfl
    · show 1 + (Sl _).length ≤ 4096
      unfold Sl
      rw [List.length_map, la]
      decide
  have s1 : sSet 7 (run2 (rDisp mkL (rCons (rVar 6) rNil)) (rLc (iSeq (rVar 3)) none (tgN 9) rYes (run2 (rSlice (rBor 6) oNone (oSome (rC (.int 7)))) (rBor 9) fAdd) [9]) fAdd) (EN m pool found t (some (.fz, .str w)) o) = .ret (.nx, EN m pool found t (some (.fz, .str w)) (some (.ow, .lst (Sl (w :: az.cps.toList.map (sev w)))))) := by
    unfold E11 at c1
    simp only [EN, sSet, run2, rDisp, rCons, rVar, rNil, List.getElem?_cons_zero, List.getElem?_cons_succ, T.ret_bind, Op.fz, onlyV, Option.bind_some, mkL, small, List.length_cons, List.length_nil, Nat.reduceAdd, Nat.reduceLeDiff, if_true, ret1, T.ofOpt, mkO, c1, frc, e1, some1, putO, Nat.reduceLT, List.set_cons_zero, List.set_cons_succ]
  obtain ⟨c, hc, hcn⟩ := fresh_sev (s := w) hl
  have c2 := lc_out (ri := iSeq (rVar 7)) (o := w :: az.cps.toList.map (sev w)) (ks := found) (f := .ow) (b := 4) (i := 10) (en := EN m pool found t (some (.fz, .str w)) (some (.fz, .lst (Sl (w :: az.cps.toList.map (sev w)))))) rfl (by rw [List.length_cons, la]; decide) rfl (by decide) rfl
  have c3 := (rLc_to (ri := iSeq (rVar 7)) (ri' := iSeq (rVar 7)) (l := none) (t := tgN 10) (rt := toT (run2 (rBor 10) (rBor 4) fNotIn)) (re := rVar 10) (vs := [10]) (en := EN m pool found t (some (.fz, .str w)) (some (.ow, .lst (Sl (w :: az.cps.toList.map (sev w)))))) (en1 := EN m pool found t (some (.fz, .str w)) (some (.fz, .lst (Sl (w :: az.cps.toList.map (sev w)))))) rfl rfl).trans c2
  have ne : (w :: az.cps.toList.map (sev w)).filter (fun x => decide (x ∉ found)) ≠ [] := fun z => by
    have := List.filter_eq_nil_iff.mp z (sev w c) (List.mem_cons_of_mem _ (List.mem_map.mpr ⟨c, hc, rfl⟩))
    exact this (decide_eq_true hcn)
  obtain ⟨x, r, hx⟩ := List.exists_cons_of_ne_nil ne
  have hm := List.mem_filter.mp (show x ∈ (w :: az.cps.toList.map (sev w)).filter (fun x => decide (x ∉ found)) by rw [hx]; exact List.mem_cons_self)
  rw [hx] at c3
  have nx : Nm x := by
    rcases List.mem_cons.mp hm.1 with rfl | h
    · exact hw
    · obtain ⟨d, hd, rfl⟩ := List.mem_map.mp h
      exact nm_seven hw hd
  have e5 : fIx (.lst (Sl (x :: r))) (.int 0) = some0 (.str x) := (ix_Sl (k := 0) rfl).2
  have l4 : (Sl found).length < 4096 := by unfold Sl; rw [List.length_map]; omega
  refine ⟨x, some (.fz, .lst (Sl (w :: az.cps.toList.map (sev w)))), ?_, nx, of_decide_eq_true hm.2⟩
  have s2 : sDrop (rApp 4 (run2 (rLc (iSeq (rVar 7)) none (tgN 10) (toT (run2 (rBor 10) (rBor 4) fNotIn)) (rVar 10) [10]) (rC (.int 0)) fIx)) (EN m pool found t (some (.fz, .str w)) (some (.ow, .lst (Sl (w :: az.cps.toList.map (sev w)))))) = .ret (.nx, EN m pool (found ++ [x]) t (some (.fz, .str w)) (some (.fz, .lst (Sl (w :: az.cps.toList.map (sev w)))))) := by
    simp only [EN] at c3
    simp only [EN, sDrop, rApp, ownL, run2, List.getElem?_cons_zero, List.getElem?_cons_succ, T.ofOpt, T.ret_bind, c3, rC, Op.fz, frc, Option.bind_some, e5, ret1, some0, mkO, valO, if_pos l4, List.set_cons_zero, List.set_cons_succ, Sl_snoc, Bool.false_eq_true, if_false]
  unfold newR sSeq
  rw [s1, T.ret_bind]
  simp only [s2, T.ret_bind]
  rfl
end Sx
set_option Elab.async false
set_option linter.all false
set_option maxRecDepth 100000
set_option maxHeartbeats 1000000
set_option autoImplicit false
namespace Sx
open PySem L2
def nturnR : RunS := (sSeq (sSet 6 (rPopI 2 (rCall f_w_take (rCons (rVar 0) (rCons (runN (rCons (rBor 2) rNil) fLen) rNil)))))
    (sSeq (sIf (toT (run2 (rCall f_w_take (rCons (rVar 0) (rCons (rC (.int 3)) rNil))) (rC (.int 0)) fEq)) wordR sNx)
    (sSeq (sIf (toT (rAnd (run2 (rBor 4) (rDisp mkL rNil) fNe) (run2 (rCall f_w_take (rCons (rVar 0) (rCons (rC (.int 8)) rNil))) (rC (.int 0)) fEq))) lastR sNx)
    newR)))
theorem nturn {m : D} {pool found : List Str} {t w o : Slot} (h0 : pool ≠ []) (hl : pool.length < 4000) (hp : ∀ x ∈ pool, Nm x) (hf : found.length < 26) (hn : ∀ x ∈ found, Nm x) :
    (nturnR (EN m pool found t w o)).wp fun r => ∃ x pool' w' o', r = (.nx, EN m pool' (found ++ [x]) t w' o') ∧ Nm x ∧ x ∉ found ∧ pool'.length + 1 = pool.length ∧ ∀ y ∈ pool', Nm y := by
  unfold nturnR
  refine wp_nx (T.wp_mono (n_pop h0 hl hp) fun r ⟨x, pool', e, nx, lp, hp'⟩ => ⟨_, e, ?_⟩)
  have fin : ∀ y, Nm y → (newR (EN m pool' found t (some (.fz, .str y)) o)).wp fun r => ∃ x pool' w' o', r = (.nx, EN m pool' (found ++ [x]) t w' o') ∧ Nm x ∧ x ∉ found ∧ pool'.length + 1 = pool.length ∧ ∀ y ∈ pool', Nm y := fun y ny => by
    obtain ⟨x, o', e, h1, h2⟩ := n_new (m := m) (pool := pool') (found := found) (t := t) (o := o) ny hf
    exact wp_eq e ⟨x, pool', _, o', rfl, h1, h2, lp, hp'⟩
  have two : ∀ y, Nm y → (sSeq (sIf (toT (rAnd (run2 (rBor 4) (rDisp mkL rNil) fNe) (run2 (rCall f_w_take (rCons (rVar 0) (rCons (rC (.int 8)) rNil))) (rC (.int 0)) fEq))) lastR sNx) newR (EN m pool' found t (some (.fz, .str y)) o)).wp fun r => ∃ x pool' w' o', r = (.nx, EN m pool' (found ++ [x]) t w' o') ∧ Nm x ∧ x ∉ found ∧ pool'.length + 1 = pool.length ∧ ∀ y ∈ pool', Nm y := fun y ny => by
    have c := coin (j := 0) (n := 8) (en := EN m pool' found t (some (.fz, .str y)) o) (by decide) rfl
    have e1 := (eq_nil_Sl found).2
    have e2 := take_lit (n := 8) (by decide)
    refine wp_nx (wp_if ?_)
    by_cases z : found = []
    · rw [decide_eq_false (not_not_intro z)] at e1
      have : toT (rAnd (run2 (rBor 4) (rDisp mkL rNil) fNe) (run2 (rCall f_w_take (rCons (rVar 0) (rCons (rC (.int 8)) rNil))) (rC (.int 0)) fEq)) (EN m pool' found t (some (.fz, .str y)) o) = .ret (false, EN m pool' found t (some (.fz, .str y)) o) := by
        simp only [EN, sSeq, sIf, sRet, sNx, sSet, sPar, sTgt, sDrop, toT, rOr, rAnd, rNot, rIf, runN, run1, run2, rCons, rNil, rBor, rVar, rMov, rC, rChn, rDisp, rCall, rSlice, oNone, oSome, ret1, frc, frcs, onlyV, valO, Op.fz, mkO, boolOf, intOf, itemsOf, iSeq, tgN, T.ret_bind, T.ofOpt, retO, putO, flOf, some0, some1, Option.bind_some, Option.map_some, List.getElem?_cons_zero, List.getElem?_cons_succ, List.set_cons_zero, List.set_cons_succ, List.length_cons, List.length_nil, mkL, mkT, small, Bool.not_true, Bool.not_false, if_true, if_false, Bool.false_eq_true, ite_true, ite_false, Nat.reduceAdd, Nat.reduceLT, Nat.reduceLeDiff, e1, Nat.zero_le]
      rw [this]
      exact ⟨_, rfl, fin y ny⟩
    · rw [decide_eq_true z] at e1
      have : toT (rAnd (run2 (rBor 4) (rDisp mkL rNil) fNe) (run2 (rCall f_w_take (rCons (rVar 0) (rCons (rC (.int 8)) rNil))) (rC (.int 0)) fEq)) (EN m pool' found t (some (.fz, .str y)) o) = .ch 8 fun i => .ret (decide ((i : Int) = 0), EN m pool' found t (some (.fz, .str y)) o) := by
        simp only [EN, sSeq, sIf, sRet, sNx, sSet, sPar, sTgt, sDrop, toT, rOr, rAnd, rNot, rIf, runN, run1, run2, rCons, rNil, rBor, rVar, rMov, rC, rChn, rDisp, rCall, rSlice, oNone, oSome, ret1, frc, frcs, onlyV, valO, Op.fz, mkO, boolOf, intOf, itemsOf, iSeq, tgN, T.ret_bind, T.ofOpt, retO, putO, flOf, some0, some1, Option.bind_some, Option.map_some, List.getElem?_cons_zero, List.getElem?_cons_succ, List.set_cons_zero, List.set_cons_succ, List.length_cons, List.length_nil, mkL, mkT, small, Bool.not_true, Bool.not_false, if_true, if_false, Bool.false_eq_true, ite_true, ite_false, Nat.reduceAdd, Nat.reduceLT, Nat.reduceLeDiff, e1, Nat.zero_le, e2, ch_bind, fEq_int]
        rfl
      rw [this]
      intro i hi
      show (if decide ((i : Int) = 0) = true then _ else _ : T (Fl × En)).wp _
      split
      · exact T.wp_mono (n_last z hn) fun r ⟨x, e, nx⟩ => ⟨_, e, fin x nx⟩
      · exact ⟨_, rfl, fin y ny⟩
  refine wp_nx (wp_if ?_)
  rw [coin (j := 0) (n := 3) (by decide) rfl]
  intro i hi
  show (if decide ((i : Int) = 0) = true then _ else _ : T (Fl × En)).wp _
  split
  · exact T.wp_mono n_word fun r ⟨x, e, nx⟩ => ⟨_, e, two x nx⟩
  · exact ⟨_, rfl, two x nx⟩
theorem wp_loop {l : Option Nat} {t : Tg} {rb : RunS} {Q : Fl × En → Prop} (I : List D → En → Prop) (hend : ∀ en, I [] en → Q (.nx, unl l en))
    (step : ∀ d ds en, I (d :: ds) en → ∃ e1, t d en = some e1 ∧ (rb e1).wp fun r => (r.1 = .nx ∧ I ds r.2) ∨ ∃ c, r.1 = .rt c ∧ Q (.rt c, r.2)) : ∀ (ds : List D) (en : En), I ds en → (sForL l t rb ds en).wp Q
  | [], en, h => hend en h
  | d :: ds, en, h => by
    obtain ⟨e1, h1, h2⟩ := step d ds en h
    rw [sForL]
    simp only [h1, T.ofOpt, T.ret_bind]
    refine (T.wp_bind _ _ _).mpr (T.wp_mono h2 fun r q => ?_)
    obtain ⟨f, e⟩ := r
    rcases q with ⟨rfl, q⟩ | ⟨c, rfl, q⟩
    · exact wp_loop I hend step ds e q
    · exact q
def nmB (s : Str) : Bool := decide (1 ≤ s.length) && decide (s.length ≤ 8) && s.cps.toList.all fun c => decide (c ∈ az.cps.toList)
theorem nmB_ok {s : Str} (h : nmB s = true) : Nm s := by
  unfold nmB at h
  simp only [Bool.and_eq_true, decide_eq_true_eq, List.all_eq_true] at h
  exact ⟨h.1.1, h.1.2, h.2⟩
def pool0 : List Str := ["a", "b", "ab", "ba", "row", "column", "one", "other", "tell", "zzzzzzzz", "x", "y", "none", "name"]
theorem pool0_ok : ∀ x ∈ pool0, Nm x := fun x hx => by
  have : pool0.all nmB = true := by decide +kernel
  exact nmB_ok (List.all_eq_true.mp this x hx)
theorem names_wp {n : Nat} (hn : n ≤ 14) : (f_w_names [.drw, .int (n : Nat)]).wp fun r => ∃ xs, r = (true, .lst (Sl xs)) ∧ xs.length = n ∧ xs.Nodup ∧ ∀ x ∈ xs, Nm x := by
  have he : en0 11 [.drw, .int (n : Nat)] = [some (.fz, .drw), some (.fz, .int (n : Nat)), none, none, none, none, none, none, none, none, none] := rfl
  have hR : r_w_names = (sSeq (sSet 2 (rDisp mkL (rCons (rC (.str "a")) (rCons (rC (.str "b")) (rCons (rC (.str "ab")) (rCons (rC (.str "ba")) (rCons (rC (.str "row")) (rCons (rC (.str "column")) (rCons (rC (.str "one")) (rCons (rC (.str "other")) (rCons (rC (.str "tell")) (rCons (rC (.str "zzzzzzzz")) (rCons (rC (.str "x")) (rCons (rC (.str "y")) (rCons (rC (.str "none")) (rCons (rC (.str "name")) rNil))))))))))))))))
    (sSeq (sPar 3 4 (rC (.str az)) (rDisp mkL rNil))
    (sSeq (sFor (iRange (rCons (rVar 1) rNil)) none (tgN 5) nturnR)
    (sSeq (sRet (rMov 4)) sNx)))) := by
    unfold r_w_names nturnR wordR lastR newR
    rfl
  unfold f_w_names
  refine wp_fn ?_
  rw [he, hR]
  have s1 : sSet 2 (rDisp mkL (rCons (rC (.str "a")) (rCons (rC (.str "b")) (rCons (rC (.str "ab")) (rCons (rC (.str "ba")) (rCons (rC (.str "row")) (rCons (rC (.str "column")) (rCons (rC (.str "one")) (rCons (rC (.str "other")) (rCons (rC (.str "tell")) (rCons (rC (.str "zzzzzzzz")) (rCons (rC (.str "x")) (rCons (rC (.str "y")) (rCons (rC (.str "none")) (rCons (rC (.str "name")) rNil))))))))))))))) [some (.fz, .drw), some (.fz, .int (n : Nat)), none, none, none, none, none, none, none, none, none] = .ret (.nx, [some (.fz, .drw), some (.fz, .int (n : Nat)), some (.ow, .lst (Sl pool0)), none, none, none, none, none, none, none, none]) := by
    rfl
  have s2 : sPar 3 4 (rC (.str az)) (rDisp mkL rNil) [some (.fz, .drw), some (.fz, .int (n : Nat)), some (.ow, .lst (Sl pool0)), none, none, none, none, none, none, none, none] = .ret (.nx, EN (.int (n : Nat)) pool0 [] none none none) := by
    rfl
  refine wp_nx (wp_eq s1 ⟨_, rfl, wp_nx (wp_eq s2 ⟨_, rfl, wp_nx ?_⟩)⟩)
  have it : iRange (rCons (rVar 1) rNil) (EN (.int (n : Nat)) pool0 [] none none none) = .ret ((List.range n).map fun k => D.int (0 + (k : Nat)), EN (.int (n : Nat)) pool0 [] none none none) := by
    have a2 : (n : Int) ≤ 4096 ∧ -4096 ≤ (n : Int) := by omega
    simp only [EN, iRange, sSeq, sIf, sRet, sNx, sSet, sPar, sTgt, sDrop, toT, rOr, rAnd, rNot, rIf, runN, run1, run2, rCons, rNil, rBor, rVar, rMov, rC, rChn, rDisp, rCall, rSlice, oNone, oSome, ret1, frc, frcs, onlyV, valO, Op.fz, mkO, boolOf, intOf, itemsOf, iSeq, tgN, T.ret_bind, T.ofOpt, retO, putO, flOf, some0, some1, Option.bind_some, Option.map_some, List.getElem?_cons_zero, List.getElem?_cons_succ, List.set_cons_zero, List.set_cons_succ, List.length_cons, List.length_nil, mkL, mkT, small, Bool.not_true, Bool.not_false, if_true, if_false, Bool.false_eq_true, ite_true, ite_false, Nat.reduceAdd, Nat.reduceLT, Nat.reduceLeDiff, if_pos a2, Int.toNat_natCast]
  unfold sFor
  rw [it, T.ret_bind]
  refine wp_loop (fun ds en => ∃ pool found t w o, en = EN (.int (n : Nat)) pool found t w o ∧ ds.length ≤ pool.length ∧ pool.length ≤ 14 ∧ (∀ x ∈ pool, Nm x) ∧ found.length + ds.length = n ∧ found.Nodup ∧ ∀ x ∈ found, Nm x) ?_ ?_ _ _ ⟨pool0, [], none, none, none, rfl, by rw [List.length_map, List.length_range]; exact hn, by decide, pool0_ok, by simp, .nil, by simp⟩
  · rintro en ⟨pool, found, t, w, o, rfl, _, _, _, hl, nd, hf⟩
    refine ⟨_, rfl, wp_seq (T.wp_mono (R := fun r => (∃ e, r = (.nx, e) ∧ (sNx e).wp fun r => ∃ c, flOf r.1 = some c ∧ ∃ xs, c = (true, .lst (Sl xs)) ∧ xs.length = n ∧ xs.Nodup ∧ ∀ x ∈ xs, Nm x) ∨ r.1 ≠ .nx ∧ ∃ c, flOf r.1 = some c ∧ ∃ xs, c = (true, .lst (Sl xs)) ∧ xs.length = n ∧ xs.Nodup ∧ ∀ x ∈ xs, Nm x) (wp_ret (wp_eq (x := (.fr (.lst (Sl found)), (EN (.int (n : Nat)) pool found t w o).set 4 none)) rfl ⟨_, rfl, .inr ⟨(by intro z; cases z), _, rfl, found, rfl, by simpa using hl, nd, hf⟩⟩)) fun _ h => h)⟩
  · rintro d ds en ⟨pool, found, t, w, o, rfl, hp, hp2, hpn, hl, nd, hf⟩
    rw [List.length_cons] at hp hl
    refine ⟨EN (.int (n : Nat)) pool found (some (.fz, d)) w o, rfl, T.wp_mono (nturn (fun z => by rw [z] at hp; simp at hp) (by omega) hpn (by omega) hf) fun r ⟨x, pool', w', o', e, nx, xn, lp, hp'⟩ => .inl ?_⟩
    rw [e]
    refine ⟨rfl, pool', found ++ [x], _, w', o', rfl, by omega, by omega, hp', by rw [List.length_append]; simp; omega, ?_, fun y hy => ?_⟩
    · exact List.nodup_append.mpr ⟨nd, by simp, fun a ha b hb e => xn (by rw [← List.mem_singleton.mp hb, ← e]; exact ha)⟩
    · rcases List.mem_append.mp hy with hy | hy
      · exact hf y hy
      · rw [List.mem_singleton] at hy; rw [hy]; exact nx
end Sx
set_option Elab.async false
set_option linter.all false
set_option maxRecDepth 100000
set_option maxHeartbeats 1000000
set_option autoImplicit false
namespace Sx
open PySem L2
theorem back1 (en : En) (i : Nat) (h : en[i]? = some none) : back (wip en [i]) en [i] = en := by
  obtain ⟨a, b⟩ := back_none h
  rw [a, b]
/-! comprehensions that draw, by an invariant -/
theorem rLcL_inv {α : Type} {P : α → Prop} {y : α → D} {J : En → Prop} {t : Tg} {re : Run} {vs : List Nat} : ∀ (xs : List D) (acc : List α) (e0 : En), J e0 →
    (∀ d ∈ xs, ∀ e, J e → ∃ e2, t d e = some e2 ∧ (re e2).wp fun o => ∃ a, P a ∧ valO o.1 = some (y a) ∧ J (wip o.2 vs)) →
    (rLcL t rYes re vs xs e0 (acc.map y)).wp fun r => ∃ ys : List α, ys.length = xs.length ∧ (∀ a ∈ ys, P a) ∧ r.1 = (acc ++ ys).map y ∧ J r.2
  | [], acc, e0, hj, _ => ⟨[], rfl, by simp, by simp, hj⟩
  | d :: ds, acc, e0, hj, h => by
    obtain ⟨e2, h1, h2⟩ := h d List.mem_cons_self e0 hj
    rw [rLcL, h1]
    show ((re e2).bind _).wp _
    refine (T.wp_bind _ _ _).mpr (T.wp_mono h2 fun o ⟨a, pa, h3, h4⟩ => ?_)
    show ((T.ofOpt (valO o.1)).bind _).wp _
    rw [h3]
    show (rLcL t rYes re vs ds (wip o.2 vs) (acc.map y ++ [y a])).wp _
    have ih := rLcL_inv (P := P) (y := y) (J := J) (t := t) (re := re) (vs := vs) ds (acc ++ [a]) (wip o.2 vs) h4 fun d hd => h d (List.mem_cons_of_mem _ hd)
    rw [List.map_append] at ih
    exact T.wp_mono ih fun r ⟨ys, l, p, q, j⟩ => ⟨a :: ys, by simp [l], fun b hb => (List.mem_cons.mp hb).elim (fun e => e ▸ pa) (p b), by rw [q]; simp, j⟩
theorem rLc_inv {α : Type} (P : α → Prop) (y : α → D) (J : En → Prop) (R : List D → Prop) {ri : RunI} {l : Option Nat} {t : Tg} {re : Run} {vs : List Nat} {en en1 : En} (hi : (ri en).wp fun r => r.2 = en1 ∧ r.1.length ≤ 4096 ∧ R r.1) (hj : J (wip en1 vs))
    (h : ∀ xs, R xs → ∀ d ∈ xs, ∀ e, J e → ∃ e2, t d e = some e2 ∧ (re e2).wp fun o => ∃ a, P a ∧ valO o.1 = some (y a) ∧ J (wip o.2 vs)) :
    (rLc ri l t rYes re vs en).wp fun r => ∃ (xs : List D) (ys : List α) (e : En), R xs ∧ ys.length = xs.length ∧ (∀ a ∈ ys, P a) ∧ J e ∧ r = (.fr (.lst (ys.map y)), unl l (back e en1 vs)) := by
  unfold rLc
  refine (T.wp_bind _ _ _).mpr (T.wp_mono hi fun r ⟨h1, hl, hR⟩ => ?_)
  obtain ⟨xs, e⟩ := r
  cases h1
  show (if xs.length ≤ 4096 then _ else _ : T (Op × En)).wp _
  rw [if_pos hl]
  refine (T.wp_bind _ _ _).mpr (T.wp_mono (rLcL_inv (P := P) (y := y) (J := J) xs [] _ hj (h xs hR)) fun r ⟨ys, a, b, c, j⟩ => ⟨xs, ys, r.2, hR, a, b, j, ?_⟩)
  rw [c]
  simp
end Sx
set_option Elab.async false
set_option linter.all false
set_option maxRecDepth 100000
set_option maxHeartbeats 400000
set_option autoImplicit false
namespace Sx
open PySem L2
theorem words_wp : (f_w_words [.drw]).wp fun r => ∃ xs, r = (true, .lst (Sl xs)) ∧ xs.length = 5 ∧ xs.Pairwise Lt ∧ xs.Nodup ∧ ∀ x ∈ xs, Nm x := by
  have he : en0 1 [.drw] = [some (.fz, .drw)] := rfl
  unfold f_w_words
  refine wp_fn ?_
  rw [he]
  unfold r_w_words
  have nw := names_wp (n := 5) (by decide)
  have e5 : ((5 : Nat) : Int) = 5 := rfl
  rw [e5] at nw
  refine wp_seq (wp_ret (wp_runN (wp_cons (wp_call ?_))))
  refine wp_eq (x := ([.v .drw, .v (.int 5)], [some (.fz, .drw)])) rfl ⟨_, rfl, ?_⟩
  refine T.wp_mono nw fun r ⟨xs, e, hl, nd, hn⟩ => ?_
  rw [e]
  have e3 := sorted_Sl (xs := xs) (by omega)
  refine wp_eq (x := ([], [some (.fz, .drw)])) rfl ⟨_, e3, _, rfl, .inr ⟨(by intro z; cases z), _, rfl, srt xs, rfl, ?_, srt_lt nd, (srt_perm xs).nodup_iff.mpr nd, fun x hx => hn x (srt_mem.mp hx)⟩⟩
  rw [(srt_perm xs).length_eq]
  exact hl
end Sx
set_option Elab.async false
set_option linter.all false
set_option maxRecDepth 100000
set_option maxHeartbeats 1000000
set_option autoImplicit false
namespace Sx
open PySem L2
/-! data of texts, None, lists and tuples: == tells it apart -/
mutual
theorem eqv_cl : ∀ (p q : PyData), cl p = true → cl q = true → (PyData.eqv p q = true ↔ p = q)
  | .none, .none, _, _ => by simp [PyData.eqv]
  | .none, .str _, _, _ => by simp [PyData.eqv]
  | .none, .list _, _, _ => by simp [PyData.eqv]
  | .none, .tuple _, _, _ => by simp [PyData.eqv]
  | .str _, .none, _, _ => by simp [PyData.eqv]
  | .str i, .str j, _, _ => by simp [PyData.eqv]
  | .str _, .list _, _, _ => by simp [PyData.eqv]
  | .str _, .tuple _, _, _ => by simp [PyData.eqv]
  | .list _, .none, _, _ => by simp [PyData.eqv]
  | .list _, .str _, _, _ => by simp [PyData.eqv]
  | .list xs, .list ys, h, g => by
    rw [cl] at h g
    rw [PyData.eqv, PyData.list.injEq]
    exact eqvL_cl xs ys h g
  | .list _, .tuple _, _, _ => by simp [PyData.eqv]
  | .tuple _, .none, _, _ => by simp [PyData.eqv]
  | .tuple _, .str _, _, _ => by simp [PyData.eqv]
  | .tuple _, .list _, _, _ => by simp [PyData.eqv]
  | .tuple xs, .tuple ys, h, g => by
    rw [cl] at h g
    rw [PyData.eqv, PyData.tuple.injEq]
    exact eqvL_cl xs ys h g
  | .bool _, _, h, _ => by simp [cl] at h
  | .int _, _, h, _ => by simp [cl] at h
  | .dict _, _, h, _ => by simp [cl] at h
  | _, .bool _, _, h => by simp [cl] at h
  | _, .int _, _, h => by simp [cl] at h
  | _, .dict _, _, h => by simp [cl] at h
theorem eqvL_cl : ∀ (xs ys : List PyData), clL xs = true → clL ys = true → (PyData.eqvAll xs ys = true ↔ xs = ys)
  | [], [], _, _ => by simp [PyData.eqvAll]
  | x :: xs, y :: ys, h, g => by
    rw [PyData.eqvAll, Bool.and_eq_true, List.cons.injEq, eqv_cl x y (clL_cons h).1 (clL_cons g).1, eqvL_cl xs ys (clL_cons h).2 (clL_cons g).2]
  | [], _ :: _, _, _ => by simp [PyData.eqvAll]
  | _ :: _, [], _, _ => by simp [PyData.eqvAll]
end
mutual
theorem cl_shows : ∀ (p : PyData), cl p = true → p.showable = true ∧ p.hasDict = false ∧ p.leavesShort 1000 = true
  | .none, _ => ⟨rfl, rfl, rfl⟩
  | .str x, h => ⟨rfl, rfl, by
    rw [PyData.leavesShort, List.all_eq_true]
    intro c hc
    have := List.all_eq_true.mp h c hc
    rw [Bool.and_eq_true, decide_eq_true_eq, decide_eq_true_eq] at this
    exact decide_eq_true (by omega)⟩
  | .list xs, h => by
    rw [cl] at h
    obtain ⟨a, b, c⟩ := clL_shows xs h
    exact ⟨by rw [PyData.showable]; exact a, by rw [PyData.hasDict]; exact b, by rw [PyData.leavesShort]; exact c⟩
  | .tuple xs, h => by
    rw [cl] at h
    obtain ⟨a, b, c⟩ := clL_shows xs h
    exact ⟨by rw [PyData.showable]; exact a, by rw [PyData.hasDict]; exact b, by rw [PyData.leavesShort]; exact c⟩
  | .bool _, h => by cases h
  | .int _, h => by cases h
  | .dict _, h => by cases h
theorem clL_shows : ∀ (ps : List PyData), clL ps = true → PyData.showableAll ps = true ∧ PyData.hasDictAll ps = false ∧ PyData.leavesShortAll 1000 ps = true
  | [], _ => ⟨rfl, rfl, rfl⟩
  | p :: ps, h => by
    obtain ⟨a, b, c⟩ := cl_shows p (clL_cons h).1
    obtain ⟨a2, b2, c2⟩ := clL_shows ps (clL_cons h).2
    exact ⟨by rw [PyData.showableAll, a, a2]; rfl, by rw [PyData.hasDictAll, b, b2]; rfl, by rw [PyData.leavesShortAll, c, c2]; rfl⟩
end
def Cp (n b : Nat) (d : D) : Prop := ∃ p, py d = some p ∧ cl p = true ∧ p.depth ≤ n ∧ p.bulk ≤ b
theorem Cp.mono {n b m c : Nat} {d : D} (h : Cp n b d) (h1 : n ≤ m) (h2 : b ≤ c) : Cp m c d := by
  obtain ⟨p, e1, e2, e3, e4⟩ := h
  exact ⟨p, e1, e2, by omega, by omega⟩
theorem CpL {n b : Nat} : ∀ {ds : List D}, (∀ d ∈ ds, Cp n b d) → ∃ ps, pyL ds = some ps ∧ clL ps = true ∧ PyData.depthAll ps ≤ n ∧ PyData.bulkAll ps ≤ (b + 1) * ds.length
  | [], _ => ⟨[], rfl, rfl, by simp [PyData.depthAll], by simp [PyData.bulkAll]⟩
  | d :: ds, h => by
    obtain ⟨p, e1, e2, e3, e4⟩ := h d List.mem_cons_self
    obtain ⟨ps, f1, f2, f3, f4⟩ := CpL fun e he => h e (List.mem_cons_of_mem _ he)
    refine ⟨p :: ps, ?_, by rw [clL, e2, f2]; rfl, by rw [PyData.depthAll]; omega, ?_⟩
    · rw [pyL, e1, f1]
      rfl
    · rw [PyData.bulkAll, List.length_cons, Nat.mul_succ]
      omega
theorem Cp.non : Cp 0 0 .non := ⟨_, rfl, rfl, by simp [PyData.depth], by simp [PyData.bulk]⟩
theorem az_low : ∀ c ∈ az.cps.toList, 97 ≤ c ∧ c ≤ 122 := by decide +kernel
theorem Cp.str {s : Str} (h : Nm s) : Cp 0 8 (.str s) := ⟨.str s, rfl, by
  show low s = true
  unfold low
  rw [List.all_eq_true]
  intro c hc
  obtain ⟨a, b⟩ := az_low c (h.az c hc)
  rw [decide_eq_true a, decide_eq_true b]
  rfl, by simp [PyData.depth], by rw [PyData.bulk]; exact h.hi⟩
theorem Cp.tup {n b : Nat} {ds : List D} (h : ∀ d ∈ ds, Cp n b d) : Cp (n + 1) ((b + 1) * ds.length) (.tup ds) := by
  obtain ⟨ps, f1, f2, f3, f4⟩ := CpL h
  exact ⟨.tuple ps, by rw [py, f1]; rfl, by rw [cl]; exact f2, by rw [PyData.depth]; omega, by rw [PyData.bulk]; exact f4⟩
theorem Cp.lst {n b : Nat} {ds : List D} (h : ∀ d ∈ ds, Cp n b d) : Cp (n + 1) ((b + 1) * ds.length) (.lst ds) := by
  obtain ⟨ps, f1, f2, f3, f4⟩ := CpL h
  exact ⟨.list ps, by rw [py, f1]; rfl, by rw [cl]; exact f2, by rw [PyData.depth]; omega, by rw [PyData.bulk]; exact f4⟩
theorem any_cl {x : D} {p : PyData} (hx : py x = some p) (hp : cl p = true) : ∀ {ds : List D} {ps : List PyData}, pyL ds = some ps → clL ps = true → ((ps.any fun z => PyData.eqv z p) = true ↔ x ∈ ds)
  | [], ps, h, _ => by cases h; simp
  | d :: ds, ps, h, g => by
    rw [pyL] at h
    obtain ⟨q, e1, h⟩ := Option.bind_eq_some_iff.mp h
    obtain ⟨qs, e2, h⟩ := Option.bind_eq_some_iff.mp h
    cases h
    rw [List.any_cons, Bool.or_eq_true, any_cl hx hp e2 (clL_cons g).2, eqv_cl q p (clL_cons g).1 hp, List.mem_cons]
    refine or_congr ⟨fun e => py_inj x d p hx (by rw [e1, e]), fun e => ?_⟩ Iff.rfl
    subst e
    exact Option.some.inj (e1.symm.trans hx)
open Classical in
theorem fIn_cl {n b m c : Nat} {x : D} {ds : List D} (neg : Bool) (hx : Cp n b x) (hy : ∀ d ∈ ds, Cp m c d) (hn : n ≤ 60) : fInG neg x (.lst ds) = some0 (.bl (if neg then decide (x ∉ ds) else decide (x ∈ ds))) := by
  obtain ⟨p, h1, h2, h3, h4⟩ := hx
  obtain ⟨ps, g1, g2, g3, g4⟩ := CpL hy
  have : fInG neg x (.lst ds) = (py x).bind fun p => (pyL ds).bind fun ps => if p.depth ≤ 60 then some0 (.bl (if neg then !ps.any fun z => PyData.eqv z p else ps.any fun z => PyData.eqv z p)) else none := by
    unfold fInG
    cases x <;> rfl
  rw [this, h1, g1]
  show (if p.depth ≤ 60 then _ else _) = _
  have e : (ps.any fun z => PyData.eqv z p) = decide (x ∈ ds) := by
    rw [Bool.eq_iff_iff, any_cl h1 h2 g1 g2, decide_eq_true_eq]
  rw [if_pos (by omega), e]
  cases neg <;> simp
/-! repr of such data -/
theorem pyQ_pyL : ∀ {ds : List D} {ps : List PyData}, pyL ds = some ps → PyData.hasDictAll ps = false → pyQ ds = some ps
  | [], ps, h, _ => by cases h; rfl
  | d :: ds, ps, h, g => by
    rw [pyL] at h
    obtain ⟨q, e1, h⟩ := Option.bind_eq_some_iff.mp h
    obtain ⟨qs, e2, h⟩ := Option.bind_eq_some_iff.mp h
    cases h
    have g : q.hasDict = false ∧ PyData.hasDictAll qs = false := by simpa [PyData.hasDictAll] using g
    have one : pyQ1 d = some q := by
      unfold pyQ1
      split
      · cases e1
      · rw [e1]
        show (if q.hasDict = true then none else some q) = _
        rw [g.1]
        rfl
    rw [pyQ, one, pyQ_pyL e2 g.2]
    rfl
theorem repr_cl {n b : Nat} {d : D} (h : Cp n b d) (hn : n ≤ 50) (hb : b ≤ 10000) (hk : d = .non ∨ (∃ l, d = .lst l) ∨ ∃ l, d = .tup l) : ∃ p, py d = some p ∧ cl p = true ∧ fReprA [d] = some0 (.str p.shown) := by
  obtain ⟨p, e1, e2, e3, e4⟩ := h
  obtain ⟨s1, s2, s3⟩ := cl_shows p e2
  refine ⟨p, e1, e2, ?_⟩
  rcases hk with rfl | ⟨l, rfl⟩ | ⟨l, rfl⟩
  · cases e1
    unfold PyData.shown
    rfl
  · show (py (.lst l)).bind (fun p => if shOk p then some0 (.str p.shown) else none) = _
    rw [e1]
    show (if shOk p = true then _ else _) = _
    rw [if_pos]
    unfold shOk
    rw [s1, s2, s3, decide_eq_true (show p.bulk ≤ 10000 by omega), decide_eq_true (show p.depth ≤ 50 by omega)]
    rfl
  · rw [py] at e1
    obtain ⟨ps, f1, f2⟩ := Option.bind_eq_some_iff.mp e1
    cases f2
    rw [PyData.hasDict] at s2
    show (pyQ l).bind (fun ps => if shOkD (.tuple ps) then some0 (.str (PyData.tuple ps).shown) else none) = _
    rw [pyQ_pyL f1 s2]
    show (if shOkD (PyData.tuple ps) = true then _ else _) = _
    rw [if_pos]
    unfold shOkD
    rw [s1, s3, decide_eq_true (show (PyData.tuple ps).bulk ≤ 10000 by omega), decide_eq_true (show (PyData.tuple ps).depth ≤ 50 by omega)]
    rfl
end Sx
set_option Elab.async false
set_option linter.all false
set_option maxRecDepth 100000
set_option maxHeartbeats 1000000
set_option autoImplicit false
namespace Sx
open PySem L2
/-! steps of any kind -/
def Prt (d : D) : Prop := d = .non ∨ (∃ s, d = .str s ∧ Nm s) ∨ ∃ xs : List Str, d = .tup (Sl xs) ∧ (∀ x ∈ xs, Nm x) ∧ xs.length ≤ 5
def Stp (d : D) : Prop := d = .non ∨ ∃ ps : List D, (∀ p ∈ ps, Prt p) ∧ ps.length ≤ 3 ∧ (d = .tup ps ∨ d = .lst ps)
theorem sl_cp {xs : List Str} (h : ∀ x ∈ xs, Nm x) : ∀ d ∈ Sl xs, Cp 0 8 d := fun d hd => by
  obtain ⟨x, hx, rfl⟩ := List.mem_map.mp hd
  exact Cp.str (h x hx)
theorem Prt.cp {d : D} (h : Prt d) : Cp 1 45 d := by
  rcases h with rfl | ⟨s, rfl, hs⟩ | ⟨xs, rfl, hs, hl⟩
  · exact Cp.non.mono (by omega) (by omega)
  · exact (Cp.str hs).mono (by omega) (by omega)
  · have len : (Sl xs).length = xs.length := List.length_map ..
    exact (Cp.tup (sl_cp hs)).mono (by omega) (by rw [len]; omega)
theorem Stp.cp {d : D} (h : Stp d) : Cp 2 138 d := by
  rcases h with rfl | ⟨ps, hp, hl, e⟩
  · exact Cp.non.mono (by omega) (by omega)
  · rcases e with rfl | rfl
    · exact (Cp.tup fun p h => (hp p h).cp).mono (by omega) (by omega)
    · exact (Cp.lst fun p h => (hp p h).cp).mono (by omega) (by omega)
theorem dep_stp {d : Dep} (h : DepOk d) (l : d.1.length ≤ 5) : Stp (dD d) := .inr ⟨[.tup (Sl d.1), .str d.2], fun p hp => by
  rcases List.mem_cons.mp hp with rfl | hp
  · exact .inr (.inr ⟨d.1, rfl, h.nm, l⟩)
  · rw [List.mem_singleton] at hp
    subst hp
    exact .inr (.inl ⟨d.2, rfl, h.nc⟩), by simp, .inl rfl⟩
theorem Stp.kind {d : D} (h : Stp d) : d = .non ∨ (∃ l, d = .lst l) ∨ ∃ l, d = .tup l := by
  rcases h with rfl | ⟨ps, _, _, rfl | rfl⟩
  · exact .inl rfl
  · exact .inr (.inr ⟨ps, rfl⟩)
  · exact .inr (.inl ⟨ps, rfl⟩)
def asc (xs : List Str) (k : Nat) : Bool := match xs[k]?, xs[k + 1]? with
  | some x, some y => decide (x.cps.toList < y.cps.toList)
  | _, _ => false
theorem is_set_sl {xs : List Str} (h : ∀ x ∈ xs, Nm x) (hl : xs.length ≤ 1000) : ∃ b, f_is_set [.tup (Sl xs)] = .ret (false, .bl b) := by
  refine ⟨(List.range (xs.length - 1)).all (asc xs), ?_⟩
  have len : (Sl xs).length = xs.length := List.length_map ..
  have e1 : fIsi [.tup (Sl xs), .ty "tuple"] = some0 (.bl true) := rfl
  have e2 : fLen [.tup (Sl xs)] = some0 (.int xs.length) := by show some0 (.int ((Sl xs).length : Nat)) = _; rw [len]
  have e5 : fAll [.lst (xs.map fun _ => .bl true)] = some0 (.bl true) := all_true _
  have c1 := lc_names (i := 1) (en := [some (.fz, .tup (Sl xs)), none, none]) (k := .tup (Sl xs)) rfl h (by omega) rfl (by simp) (by decide) rfl
  have e6 := all_map (asc xs) (List.range (xs.length - 1))
  have c2 : rLc (iRange (rCons (run2 (runN (rCons (rBor 0) rNil) fLen) (rC (.int 1)) fSub) rNil)) none (tgN 2) rYes (run2 (run2 (rBor 0) (rBor 2) fIx) (run2 (rBor 0) (run2 (rBor 2) (rC (.int 1)) fAdd) fIx) fLt) [2] [some (.fz, .tup (Sl xs)), none, none] = .ret (.fr (.lst ((List.range (xs.length - 1)).map fun k => .bl (asc xs k))), [some (.fz, .tup (Sl xs)), none, none]) := by
    refine (rLc_map (en1 := [some (.fz, .tup (Sl xs)), none, none]) (fun _ => true) (fun k => .bl (asc xs k)) (g := fun k : Nat => D.int (0 + (k : Nat))) (xs := List.range (xs.length - 1)) ?_ (by simp; omega) fun k hk => ?_).trans (by rw [filter_tt]; rfl)
    · have hr : ((xs.length : Int) - 1).toNat = xs.length - 1 := by omega
      have hc : (xs.length : Int) - 1 ≤ 4096 ∧ -4096 ≤ (xs.length : Int) - 1 := by omega
      simp only [iRange, sSeq, sIf, sRet, sNx, sSet, sPar, sTgt, sDrop, toT, rOr, rAnd, rNot, rIf, runN, run1, run2, rCons, rNil, rBor, rVar, rMov, rC, rChn, rDisp, rCall, rSlice, oNone, oSome, ret1, frc, frcs, onlyV, valO, Op.fz, mkO, boolOf, intOf, itemsOf, iSeq, tgN, T.ret_bind, T.ofOpt, retO, putO, flOf, some0, some1, Option.bind_some, Option.map_some, List.getElem?_cons_zero, List.getElem?_cons_succ, List.set_cons_zero, List.set_cons_succ, List.length_cons, List.length_nil, mkL, mkT, small, Bool.not_true, Bool.not_false, if_true, if_false, Bool.false_eq_true, ite_true, ite_false, Nat.reduceAdd, Nat.reduceLT, Nat.reduceLeDiff, e2, fSub, fInt2, if_pos hc, hr]
    · have hk := List.mem_range.mp hk
      obtain ⟨x, hx⟩ : ∃ x, xs[k]? = some x := ⟨_, List.getElem?_eq_getElem (by omega)⟩
      obtain ⟨y, hy⟩ : ∃ y, xs[k + 1]? = some y := ⟨_, List.getElem?_eq_getElem (by omega)⟩
      have a1 : fIx (.tup (Sl xs)) (.int (0 + (k : Nat))) = some0 (.str x) := by rw [Int.zero_add]; exact (ix_Sl hx).1
      have a2 : fIx (.tup (Sl xs)) (.int (0 + (k : Nat) + 1)) = some0 (.str y) := by rw [Int.zero_add]; exact (ix_Sl hy).1
      have a3 : fAdd (.int (0 + (k : Nat))) (.int 1) = some0 (.int (0 + (k : Nat) + 1)) := rfl
      have a4 : fLt (.str x) (.str y) = some0 (.bl (asc xs k)) := by
        rw [fLt_str]
        unfold asc
        rw [hx, hy]
      refine ⟨[some (.fz, .tup (Sl xs)), none, some (.fz, .int (0 + (k : Nat)))], _, rfl, rfl, (fun z => by cases z), fun _ => ⟨.v (.bl (asc xs k)), [some (.fz, .tup (Sl xs)), none, some (.fz, .int (0 + (k : Nat)))], ?_, rfl, rfl⟩⟩
      simp only [sSeq, sIf, sRet, sNx, sSet, sPar, sTgt, sDrop, toT, rOr, rAnd, rNot, rIf, runN, run1, run2, rCons, rNil, rBor, rVar, rMov, rC, rChn, rDisp, rCall, rSlice, oNone, oSome, ret1, frc, frcs, onlyV, valO, Op.fz, mkO, boolOf, intOf, itemsOf, iSeq, tgN, T.ret_bind, T.ofOpt, retO, putO, flOf, some0, some1, Option.bind_some, Option.map_some, List.getElem?_cons_zero, List.getElem?_cons_succ, List.set_cons_zero, List.set_cons_succ, List.length_cons, List.length_nil, mkL, mkT, small, Bool.not_true, Bool.not_false, if_true, if_false, Bool.false_eq_true, ite_true, ite_false, Nat.reduceAdd, Nat.reduceLT, Nat.reduceLeDiff, a1, a2, a3, a4]
  unfold f_is_set runFn r_is_set
  show ((sSeq _ _) [some (.fz, .tup (Sl xs)), none, none]).bind _ = _
  simp only [sSeq, sIf, sRet, sNx, sSet, sPar, sTgt, sDrop, toT, rOr, rAnd, rNot, rIf, runN, run1, run2, rCons, rNil, rBor, rVar, rMov, rC, rChn, rDisp, rCall, rSlice, oNone, oSome, ret1, frc, frcs, onlyV, valO, Op.fz, mkO, boolOf, intOf, itemsOf, iSeq, tgN, T.ret_bind, T.ofOpt, retO, putO, flOf, some0, some1, Option.bind_some, Option.map_some, List.getElem?_cons_zero, List.getElem?_cons_succ, List.set_cons_zero, List.set_cons_succ, List.length_cons, List.length_nil, mkL, mkT, small, Bool.not_true, Bool.not_false, if_true, if_false, Bool.false_eq_true, ite_true, ite_false, Nat.reduceAdd, Nat.reduceLT, Nat.reduceLeDiff, e1, e5, e6, c1, c2]
theorem is_set_any {p : D} (h : Prt p) : ∃ b, f_is_set [p] = .ret (false, .bl b) ∧ (b = true → ∃ xs : List Str, p = .tup (Sl xs)) := by
  rcases h with rfl | ⟨s, rfl, hs⟩ | ⟨xs, rfl, hs, hl⟩
  · have e1 : fIsi [.non, .ty "tuple"] = some0 (.bl false) := rfl
    refine ⟨false, ?_, fun z => by cases z⟩
    unfold f_is_set runFn r_is_set
    show ((sSeq _ _) [some (.fz, .non), none, none]).bind _ = _
    simp only [sSeq, sIf, sRet, sNx, sSet, sPar, sTgt, sDrop, toT, rOr, rAnd, rNot, rIf, runN, run1, run2, rCons, rNil, rBor, rVar, rMov, rC, rChn, rDisp, rCall, rSlice, oNone, oSome, ret1, frc, frcs, onlyV, valO, Op.fz, mkO, boolOf, intOf, itemsOf, iSeq, tgN, T.ret_bind, T.ofOpt, retO, putO, flOf, some0, some1, Option.bind_some, Option.map_some, List.getElem?_cons_zero, List.getElem?_cons_succ, List.set_cons_zero, List.set_cons_succ, List.length_cons, List.length_nil, mkL, mkT, small, Bool.not_true, Bool.not_false, if_true, if_false, Bool.false_eq_true, ite_true, ite_false, Nat.reduceAdd, Nat.reduceLT, Nat.reduceLeDiff, e1]
  · have e1 : fIsi [.str s, .ty "tuple"] = some0 (.bl false) := rfl
    refine ⟨false, ?_, fun z => by cases z⟩
    unfold f_is_set runFn r_is_set
    show ((sSeq _ _) [some (.fz, .str s), none, none]).bind _ = _
    simp only [sSeq, sIf, sRet, sNx, sSet, sPar, sTgt, sDrop, toT, rOr, rAnd, rNot, rIf, runN, run1, run2, rCons, rNil, rBor, rVar, rMov, rC, rChn, rDisp, rCall, rSlice, oNone, oSome, ret1, frc, frcs, onlyV, valO, Op.fz, mkO, boolOf, intOf, itemsOf, iSeq, tgN, T.ret_bind, T.ofOpt, retO, putO, flOf, some0, some1, Option.bind_some, Option.map_some, List.getElem?_cons_zero, List.getElem?_cons_succ, List.set_cons_zero, List.set_cons_succ, List.length_cons, List.length_nil, mkL, mkT, small, Bool.not_true, Bool.not_false, if_true, if_false, Bool.false_eq_true, ite_true, ite_false, Nat.reduceAdd, Nat.reduceLT, Nat.reduceLeDiff, e1]
  · obtain ⟨b, e⟩ := is_set_sl hs (by omega)
    exact ⟨b, e, fun _ => ⟨xs, rfl⟩⟩
theorem is_name_any {p : D} (h : Prt p) : ∃ b, f_is_name [p] = .ret (false, .bl b) ∧ (b = true → ∃ s, p = .str s) := by
  rcases h with rfl | ⟨s, rfl, hs⟩ | ⟨xs, rfl, hs, hl⟩
  · have e1 : fIsi [.non, .ty "str"] = some0 (.bl false) := rfl
    refine ⟨false, ?_, fun z => by cases z⟩
    unfold f_is_name runFn r_is_name
    show ((sSeq _ _) [some (.fz, .non), none]).bind _ = _
    simp only [sSeq, sIf, sRet, sNx, sSet, sPar, sTgt, sDrop, toT, rOr, rAnd, rNot, rIf, runN, run1, run2, rCons, rNil, rBor, rVar, rMov, rC, rChn, rDisp, rCall, rSlice, oNone, oSome, ret1, frc, frcs, onlyV, valO, Op.fz, mkO, boolOf, intOf, itemsOf, iSeq, tgN, T.ret_bind, T.ofOpt, retO, putO, flOf, some0, some1, Option.bind_some, Option.map_some, List.getElem?_cons_zero, List.getElem?_cons_succ, List.set_cons_zero, List.set_cons_succ, List.length_cons, List.length_nil, mkL, mkT, small, Bool.not_true, Bool.not_false, if_true, if_false, Bool.false_eq_true, ite_true, ite_false, Nat.reduceAdd, Nat.reduceLT, Nat.reduceLeDiff, e1]
  · exact ⟨true, is_name_ok hs, fun _ => ⟨s, rfl⟩⟩
  · have e1 : fIsi [.tup (Sl xs), .ty "str"] = some0 (.bl false) := rfl
    refine ⟨false, ?_, fun z => by cases z⟩
    unfold f_is_name runFn r_is_name
    show ((sSeq _ _) [some (.fz, .tup (Sl xs)), none]).bind _ = _
    simp only [sSeq, sIf, sRet, sNx, sSet, sPar, sTgt, sDrop, toT, rOr, rAnd, rNot, rIf, runN, run1, run2, rCons, rNil, rBor, rVar, rMov, rC, rChn, rDisp, rCall, rSlice, oNone, oSome, ret1, frc, frcs, onlyV, valO, Op.fz, mkO, boolOf, intOf, itemsOf, iSeq, tgN, T.ret_bind, T.ofOpt, retO, putO, flOf, some0, some1, Option.bind_some, Option.map_some, List.getElem?_cons_zero, List.getElem?_cons_succ, List.set_cons_zero, List.set_cons_succ, List.length_cons, List.length_nil, mkL, mkT, small, Bool.not_true, Bool.not_false, if_true, if_false, Bool.false_eq_true, ite_true, ite_false, Nat.reduceAdd, Nat.reduceLT, Nat.reduceLeDiff, e1]
theorem is_dep_any {d : D} (h : Stp d) : ∃ b, f_is_dependency [d] = .ret (false, .bl b) := by
  rcases h with rfl | ⟨ps, hp, hl, rfl | rfl⟩
  · have e1 : fIsi [.non, .ty "tuple"] = some0 (.bl false) := rfl
    refine ⟨false, ?_⟩
    unfold f_is_dependency runFn r_is_dependency
    show ((sSeq _ _) [some (.fz, .non)]).bind _ = _
    simp only [sSeq, sIf, sRet, sNx, sSet, sPar, sTgt, sDrop, toT, rOr, rAnd, rNot, rIf, runN, run1, run2, rCons, rNil, rBor, rVar, rMov, rC, rChn, rDisp, rCall, rSlice, oNone, oSome, ret1, frc, frcs, onlyV, valO, Op.fz, mkO, boolOf, intOf, itemsOf, iSeq, tgN, T.ret_bind, T.ofOpt, retO, putO, flOf, some0, some1, Option.bind_some, Option.map_some, List.getElem?_cons_zero, List.getElem?_cons_succ, List.set_cons_zero, List.set_cons_succ, List.length_cons, List.length_nil, mkL, mkT, small, Bool.not_true, Bool.not_false, if_true, if_false, Bool.false_eq_true, ite_true, ite_false, Nat.reduceAdd, Nat.reduceLT, Nat.reduceLeDiff, e1]
  · have e1 : fIsi [.tup ps, .ty "tuple"] = some0 (.bl true) := rfl
    have e2 : fLen [.tup ps] = some0 (.int (ps.length : Nat)) := rfl
    have e3 : fNe (.int (ps.length : Nat)) (.int 2) = some0 (.bl (decide ((ps.length : Int) ≠ 2))) := by
      rw [fNe_pd (.int _ 0) (.int 2 0) (by decide)]
      simp
    by_cases h2 : ps.length = 2
    · match ps, h2, hp with
      | [p, q], _, hp =>
        have f2 : fLen [.tup [p, q]] = some0 (.int 2) := rfl
        have f3 : fNe (.int 2) (.int 2) = some0 (.bl false) := rfl
        obtain ⟨b1, s1, t1⟩ := is_set_any (hp p List.mem_cons_self)
        obtain ⟨b2, s2, t2⟩ := is_name_any (hp q (List.mem_cons_of_mem _ List.mem_cons_self))
        have i0 : fIx (.tup [p, q]) (.int 0) = some0 p := rfl
        have i1 : fIx (.tup [p, q]) (.int 1) = some0 q := rfl
        have main : ∃ b, (sSeq (sIf (toT (rOr (rNot (runN (rCons (rBor 0) (rCons (rC (.ty "tuple")) rNil)) fIsi)) (run2 (runN (rCons (rBor 0) rNil) fLen) (rC (.int 2)) fNe))) (sSeq (sRet (rC (.bl false))) sNx) sNx)
          (sSeq (sRet (rAnd (rCall f_is_set (rCons (run2 (rBor 0) (rC (.int 0)) fIx) rNil)) (rAnd (rCall f_is_name (rCons (run2 (rBor 0) (rC (.int 1)) fIx) rNil)) (run2 (run2 (rBor 0) (rC (.int 1)) fIx) (run2 (rBor 0) (rC (.int 0)) fIx) fNotIn)))) sNx)) [some (.fz, .tup [p, q])] = .ret (.rt (false, .bl b), [some (.fz, .tup [p, q])]) := by
          cases b1 with
          | false => exact ⟨false, by simp only [sSeq, sIf, sRet, sNx, sSet, sPar, sTgt, sDrop, toT, rOr, rAnd, rNot, rIf, runN, run1, run2, rCons, rNil, rBor, rVar, rMov, rC, rChn, rDisp, rCall, rSlice, oNone, oSome, ret1, frc, frcs, onlyV, valO, Op.fz, mkO, boolOf, intOf, itemsOf, iSeq, tgN, T.ret_bind, T.ofOpt, retO, putO, flOf, some0, some1, Option.bind_some, Option.map_some, List.getElem?_cons_zero, List.getElem?_cons_succ, List.set_cons_zero, List.set_cons_succ, List.length_cons, List.length_nil, mkL, mkT, small, Bool.not_true, Bool.not_false, if_true, if_false, Bool.false_eq_true, ite_true, ite_false, Nat.reduceAdd, Nat.reduceLT, Nat.reduceLeDiff, e1, f2, f3, i0, i1, s1]⟩
          | true =>
            cases b2 with
            | false => exact ⟨false, by simp only [sSeq, sIf, sRet, sNx, sSet, sPar, sTgt, sDrop, toT, rOr, rAnd, rNot, rIf, runN, run1, run2, rCons, rNil, rBor, rVar, rMov, rC, rChn, rDisp, rCall, rSlice, oNone, oSome, ret1, frc, frcs, onlyV, valO, Op.fz, mkO, boolOf, intOf, itemsOf, iSeq, tgN, T.ret_bind, T.ofOpt, retO, putO, flOf, some0, some1, Option.bind_some, Option.map_some, List.getElem?_cons_zero, List.getElem?_cons_succ, List.set_cons_zero, List.set_cons_succ, List.length_cons, List.length_nil, mkL, mkT, small, Bool.not_true, Bool.not_false, if_true, if_false, Bool.false_eq_true, ite_true, ite_false, Nat.reduceAdd, Nat.reduceLT, Nat.reduceLeDiff, e1, f2, f3, i0, i1, s1, s2]⟩
            | true =>
              obtain ⟨xs, rfl⟩ := t1 rfl
              obtain ⟨s, rfl⟩ := t2 rfl
              exact ⟨decide (s ∉ xs), by simp only [sSeq, sIf, sRet, sNx, sSet, sPar, sTgt, sDrop, toT, rOr, rAnd, rNot, rIf, runN, run1, run2, rCons, rNil, rBor, rVar, rMov, rC, rChn, rDisp, rCall, rSlice, oNone, oSome, ret1, frc, frcs, onlyV, valO, Op.fz, mkO, boolOf, intOf, itemsOf, iSeq, tgN, T.ret_bind, T.ofOpt, retO, putO, flOf, some0, some1, Option.bind_some, Option.map_some, List.getElem?_cons_zero, List.getElem?_cons_succ, List.set_cons_zero, List.set_cons_succ, List.length_cons, List.length_nil, mkL, mkT, small, Bool.not_true, Bool.not_false, if_true, if_false, Bool.false_eq_true, ite_true, ite_false, Nat.reduceAdd, Nat.reduceLT, Nat.reduceLeDiff, e1, f2, f3, i0, i1, s1, s2, (in_Sl s xs).2.2.2]⟩
        obtain ⟨b, e⟩ := main
        refine ⟨b, ?_⟩
        unfold f_is_dependency runFn r_is_dependency
        show ((sSeq _ _) [some (.fz, .tup [p, q])]).bind _ = _
        rw [e]
        rfl
    · have e4 : fNe (.int (ps.length : Nat)) (.int 2) = some0 (.bl true) := by
        rw [e3, decide_eq_true (by omega)]
      refine ⟨false, ?_⟩
      unfold f_is_dependency runFn r_is_dependency
      show ((sSeq _ _) [some (.fz, .tup ps)]).bind _ = _
      simp only [sSeq, sIf, sRet, sNx, sSet, sPar, sTgt, sDrop, toT, rOr, rAnd, rNot, rIf, runN, run1, run2, rCons, rNil, rBor, rVar, rMov, rC, rChn, rDisp, rCall, rSlice, oNone, oSome, ret1, frc, frcs, onlyV, valO, Op.fz, mkO, boolOf, intOf, itemsOf, iSeq, tgN, T.ret_bind, T.ofOpt, retO, putO, flOf, some0, some1, Option.bind_some, Option.map_some, List.getElem?_cons_zero, List.getElem?_cons_succ, List.set_cons_zero, List.set_cons_succ, List.length_cons, List.length_nil, mkL, mkT, small, Bool.not_true, Bool.not_false, if_true, if_false, Bool.false_eq_true, ite_true, ite_false, Nat.reduceAdd, Nat.reduceLT, Nat.reduceLeDiff, e1, e2, e4]
  · have e1 : fIsi [.lst ps, .ty "tuple"] = some0 (.bl false) := rfl
    refine ⟨false, ?_⟩
    unfold f_is_dependency runFn r_is_dependency
    show ((sSeq _ _) [some (.fz, .lst ps)]).bind _ = _
    simp only [sSeq, sIf, sRet, sNx, sSet, sPar, sTgt, sDrop, toT, rOr, rAnd, rNot, rIf, runN, run1, run2, rCons, rNil, rBor, rVar, rMov, rC, rChn, rDisp, rCall, rSlice, oNone, oSome, ret1, frc, frcs, onlyV, valO, Op.fz, mkO, boolOf, intOf, itemsOf, iSeq, tgN, T.ret_bind, T.ofOpt, retO, putO, flOf, some0, some1, Option.bind_some, Option.map_some, List.getElem?_cons_zero, List.getElem?_cons_succ, List.set_cons_zero, List.set_cons_succ, List.length_cons, List.length_nil, mkL, mkT, small, Bool.not_true, Bool.not_false, if_true, if_false, Bool.false_eq_true, ite_true, ite_false, Nat.reduceAdd, Nat.reduceLT, Nat.reduceLeDiff, e1]
end Sx
set_option Elab.async false
set_option linter.all false
set_option maxRecDepth 100000
set_option maxHeartbeats 1000000
set_option autoImplicit false
namespace Sx
open PySem L2
/-! which lists of steps are derivations -/
def Goes (ds : List Dep) (k : List Str) (s : D) : Prop := ∃ d ∈ ds, s = dD d ∧ d.2 ∉ k ∧ ∀ x ∈ d.1, x ∈ k
open Classical in
noncomputable def go (ds : List Dep) : List Str → List D → Option (List Str)
  | k, [] => some k
  | k, s :: r => if h : Goes ds k s then go ds (k ++ [h.choose.2]) r else none
theorem go_yes {ds : List Dep} {k : List Str} {s : D} {r : List D} (h : Goes ds k s) : ∃ d ∈ ds, s = dD d ∧ d.2 ∉ k ∧ (∀ x ∈ d.1, x ∈ k) ∧ go ds k (s :: r) = go ds (k ++ [d.2]) r := by
  obtain ⟨h1, h2, h3, h4⟩ := h.choose_spec
  exact ⟨h.choose, h1, h2, h3, h4, by rw [go, dif_pos h]⟩
theorem go_no {ds : List Dep} {k : List Str} {s : D} {r : List D} (h : ¬ Goes ds k s) : go ds k (s :: r) = none := by rw [go, dif_neg h]
theorem go_last {ds : List Dep} : ∀ {ss : List D} {k k' : List Str}, go ds k ss = some k' → ss ≠ [] → ∃ p q d, ss = p ++ [dD d] ∧ k' = q ++ [d.2]
  | [], _, _, _, h => absurd rfl h
  | s :: r, k, k', e, _ => by
    by_cases h : Goes ds k s
    · obtain ⟨d, _, rfl, _, _, e2⟩ := go_yes (r := r) h
      rw [e2] at e
      by_cases hr : r = []
      · subst hr
        rw [go] at e
        cases e
        exact ⟨[], k, d, rfl, rfl⟩
      · obtain ⟨p, q, d', h1, h2⟩ := go_last e hr
        exact ⟨dD d :: p, q, d', by rw [h1]; rfl, h2⟩
    · rw [go_no h] at e
      cases e
theorem dD_inj {d e : Dep} (h : dD d = dD e) : d = e := by
  obtain ⟨a, b⟩ := d
  obtain ⟨a', b'⟩ := e
  unfold dD at h
  injection h with h
  injection h with h1 h2
  injection h1 with h1
  injection h2 with h2
  injection h2 with h2
  have : a = a' := by
    have f : ∀ {l m : List Str}, Sl l = Sl m → l = m := fun {l m} e => by
      exact (List.map_inj_right (fun x y z => by injection z)).mp e
    exact f h1
  have e2 : b = b' := h2
  rw [this, e2]
theorem mem_dsD_iff {s : D} {ds : List Dep} : s ∈ dsD ds ↔ ∃ d ∈ ds, s = dD d := by
  unfold dsD
  rw [List.mem_map]
  exact ⟨fun ⟨d, h, e⟩ => ⟨d, h, e.symm⟩, fun ⟨d, h, e⟩ => ⟨d, h, e.symm⟩⟩
theorem dsD_cp {ds : List Dep} (h : ∀ d ∈ ds, DepOk d ∧ d.1.length ≤ 5) : ∀ d ∈ dsD ds, Cp 2 138 d := fun x hx => by
  obtain ⟨d, hd, rfl⟩ := mem_dsD_iff.mp hx
  exact (dep_stp (h d hd).1 (h d hd).2).cp
abbrev ED (ds : List Dep) (w : Dep) (v : D) (k : List Str) (o : Slot) : En := [some (.fz, .lst (dsD ds)), some (.fz, dD w), some (.fz, v), some (.ow, .lst (Sl k)), o, none]
def stepR : RunS := (sSeq (sIf (toT (rOr (rNot (rCall f_is_dependency (rCons (rVar 4) rNil))) (run2 (rBor 4) (rBor 0) fNotIn))) (sSeq (sRet (rC (.bl false))) sNx) sNx)
    (sSeq (sIf (toT (rOr (run2 (run2 (rBor 4) (rC (.int 1)) fIx) (rBor 3) fIn) (rNot (runN (rCons (rLc (iSeq (run2 (rBor 4) (rC (.int 0)) fIx)) none (tgN 5) rYes (run2 (rBor 5) (rBor 3) fIn) [5]) rNil) fAll)))) (sSeq (sRet (rC (.bl false))) sNx) sNx)
    (sSeq (sDrop (rApp 3 (run2 (rBor 4) (rC (.int 1)) fIx))) sNx)))
theorem step_in {ds : List Dep} {w : Dep} {v : D} {k : List Str} {d : Dep} (h : ∀ d ∈ ds, DepOk d ∧ d.1.length ≤ 5) (hd : d ∈ ds) (hk : k.length < 4000) :
    (d.2 ∉ k ∧ (∀ x ∈ d.1, x ∈ k) → stepR (ED ds w v k (some (.fz, dD d))) = .ret (.nx, ED ds w v (k ++ [d.2]) (some (.fz, dD d)))) ∧
    (¬ (d.2 ∉ k ∧ ∀ x ∈ d.1, x ∈ k) → stepR (ED ds w v k (some (.fz, dD d))) = .ret (.rt (false, .bl false), ED ds w v k (some (.fz, dD d)))) := by
  obtain ⟨ok, l5⟩ := h d hd
  have a1 := is_dependency_ok ok
  have a2 : fNotIn (dD d) (.lst (dsD ds)) = some0 (.bl false) := notin_ds (.inl rfl) hd
  have i0 := (ix_dep d).1
  have i1 := (ix_dep d).2
  have c1 : rLc (iSeq (run2 (rBor 4) (rC (.int 0)) fIx)) none (tgN 5) rYes (run2 (rBor 5) (rBor 3) fIn) [5] (ED ds w v k (some (.fz, dD d))) = _ := lc_in (o := d.1) (ks := k) (by simp only [ED, sSeq, sIf, sRet, sNx, sSet, sPar, sTgt, sDrop, toT, rOr, rAnd, rNot, rIf, runN, run1, run2, rCons, rNil, rBor, rVar, rMov, rC, rChn, rDisp, rCall, rSlice, oNone, oSome, ret1, frc, frcs, onlyV, valO, Op.fz, mkO, boolOf, intOf, itemsOf, iSeq, tgN, T.ret_bind, T.ofOpt, retO, putO, flOf, some0, some1, Option.bind_some, Option.map_some, List.getElem?_cons_zero, List.getElem?_cons_succ, List.set_cons_zero, List.set_cons_succ, List.length_cons, List.length_nil, mkL, mkT, small, Bool.not_true, Bool.not_false, if_true, if_false, Bool.false_eq_true, ite_true, ite_false, Nat.reduceAdd, Nat.reduceLT, Nat.reduceLeDiff, i0]) (by omega) rfl (by decide) rfl
  have e1 := (in_Sl d.2 k).1
  have e2 := all_map (fun x => decide (x ∈ k)) d.1
  have l2 : (Sl k).length < 4096 := by unfold Sl; rw [List.length_map]; omega
  unfold ED at c1
  constructor
  · rintro ⟨m, al⟩
    rw [decide_eq_false m] at e1
    rw [List.all_eq_true.mpr fun x hx => decide_eq_true (al x hx)] at e2
    unfold stepR
    simp only [ED, sSeq, sIf, sRet, sNx, sSet, sPar, sTgt, sDrop, toT, rOr, rAnd, rNot, rIf, runN, run1, run2, rCons, rNil, rBor, rVar, rMov, rC, rChn, rDisp, rCall, rSlice, oNone, oSome, ret1, frc, frcs, onlyV, valO, Op.fz, mkO, boolOf, intOf, itemsOf, iSeq, tgN, T.ret_bind, T.ofOpt, retO, putO, flOf, some0, some1, Option.bind_some, Option.map_some, List.getElem?_cons_zero, List.getElem?_cons_succ, List.set_cons_zero, List.set_cons_succ, List.length_cons, List.length_nil, mkL, mkT, small, Bool.not_true, Bool.not_false, if_true, if_false, Bool.false_eq_true, ite_true, ite_false, Nat.reduceAdd, Nat.reduceLT, Nat.reduceLeDiff, a1, a2, i1, e1, c1, e2, rApp, ownL, if_pos l2]
    simp only [← Sl_snoc]
  · intro n
    unfold stepR
    by_cases m : d.2 ∈ k
    · rw [decide_eq_true m] at e1
      simp only [ED, sSeq, sIf, sRet, sNx, sSet, sPar, sTgt, sDrop, toT, rOr, rAnd, rNot, rIf, runN, run1, run2, rCons, rNil, rBor, rVar, rMov, rC, rChn, rDisp, rCall, rSlice, oNone, oSome, ret1, frc, frcs, onlyV, valO, Op.fz, mkO, boolOf, intOf, itemsOf, iSeq, tgN, T.ret_bind, T.ofOpt, retO, putO, flOf, some0, some1, Option.bind_some, Option.map_some, List.getElem?_cons_zero, List.getElem?_cons_succ, List.set_cons_zero, List.set_cons_succ, List.length_cons, List.length_nil, mkL, mkT, small, Bool.not_true, Bool.not_false, if_true, if_false, Bool.false_eq_true, ite_true, ite_false, Nat.reduceAdd, Nat.reduceLT, Nat.reduceLeDiff, a1, a2, i1, e1]
    · rw [decide_eq_false m] at e1
      have : d.1.all (fun x => decide (x ∈ k)) = false := by
        rw [Bool.eq_false_iff]
        intro z
        exact n ⟨m, fun x hx => of_decide_eq_true (List.all_eq_true.mp z x hx)⟩
      rw [this] at e2
      simp only [ED, sSeq, sIf, sRet, sNx, sSet, sPar, sTgt, sDrop, toT, rOr, rAnd, rNot, rIf, runN, run1, run2, rCons, rNil, rBor, rVar, rMov, rC, rChn, rDisp, rCall, rSlice, oNone, oSome, ret1, frc, frcs, onlyV, valO, Op.fz, mkO, boolOf, intOf, itemsOf, iSeq, tgN, T.ret_bind, T.ofOpt, retO, putO, flOf, some0, some1, Option.bind_some, Option.map_some, List.getElem?_cons_zero, List.getElem?_cons_succ, List.set_cons_zero, List.set_cons_succ, List.length_cons, List.length_nil, mkL, mkT, small, Bool.not_true, Bool.not_false, if_true, if_false, Bool.false_eq_true, ite_true, ite_false, Nat.reduceAdd, Nat.reduceLT, Nat.reduceLeDiff, a1, a2, i1, e1, c1, e2]
open Classical in
theorem step_out {ds : List Dep} {w : Dep} {v s : D} {k : List Str} (h : ∀ d ∈ ds, DepOk d ∧ d.1.length ≤ 5) (hs : Stp s) (hn : s ∉ dsD ds) :
    stepR (ED ds w v k (some (.fz, s))) = .ret (.rt (false, .bl false), ED ds w v k (some (.fz, s))) := by
  obtain ⟨b, a1⟩ := is_dep_any hs
  have a2 : fNotIn s (.lst (dsD ds)) = some0 (.bl true) := by
    have := fIn_cl true hs.cp (dsD_cp h) (by decide)
    rw [if_pos rfl, decide_eq_true hn] at this
    exact this
  unfold stepR
  cases b <;> simp only [ED, sSeq, sIf, sRet, sNx, sSet, sPar, sTgt, sDrop, toT, rOr, rAnd, rNot, rIf, runN, run1, run2, rCons, rNil, rBor, rVar, rMov, rC, rChn, rDisp, rCall, rSlice, oNone, oSome, ret1, frc, frcs, onlyV, valO, Op.fz, mkO, boolOf, intOf, itemsOf, iSeq, tgN, T.ret_bind, T.ofOpt, retO, putO, flOf, some0, some1, Option.bind_some, Option.map_some, List.getElem?_cons_zero, List.getElem?_cons_succ, List.set_cons_zero, List.set_cons_succ, List.length_cons, List.length_nil, mkL, mkT, small, Bool.not_true, Bool.not_false, if_true, if_false, Bool.false_eq_true, ite_true, ite_false, Nat.reduceAdd, Nat.reduceLT, Nat.reduceLeDiff, a1, a2]
theorem steps_run {ds : List Dep} {w : Dep} {v : D} (h : ∀ d ∈ ds, DepOk d ∧ d.1.length ≤ 5) : ∀ {ss : List D} {k : List Str} {o : Slot}, (∀ s ∈ ss, Stp s) → k.length + ss.length < 4000 →
    (∀ k', go ds k ss = some k' → ∃ o', sForL none (tgN 4) stepR ss (ED ds w v k o) = .ret (.nx, ED ds w v k' o')) ∧
    (go ds k ss = none → ∃ en, sForL none (tgN 4) stepR ss (ED ds w v k o) = .ret (.rt (false, .bl false), en))
  | [], k, o, _, _ => ⟨fun k' e => (by rw [go] at e; cases e; exact ⟨o, rfl⟩), fun e => (by rw [go] at e; cases e)⟩
  | s :: r, k, o, hs, hl => by
    rw [List.length_cons] at hl
    have t1 : tgN 4 s (ED ds w v k o) = some (ED ds w v k (some (.fz, s))) := rfl
    have stop : ∀ e, stepR (ED ds w v k (some (.fz, s))) = .ret (.rt (false, .bl false), e) → sForL none (tgN 4) stepR (s :: r) (ED ds w v k o) = .ret (.rt (false, .bl false), e) := fun e he => by
      rw [sForL]
      show ((T.ofOpt (tgN 4 s (ED ds w v k o))).bind _) = _
      rw [t1]
      show ((stepR (ED ds w v k (some (.fz, s)))).bind _) = _
      rw [he]
      rfl
    by_cases g : Goes ds k s
    · obtain ⟨d, hd, rfl, m, al, e⟩ := go_yes (r := r) g
      have ih := steps_run (w := w) (v := v) h (ss := r) (k := k ++ [d.2]) (o := some (.fz, dD d)) (fun s hs' => hs s (List.mem_cons_of_mem _ hs')) (by rw [List.length_append, List.length_singleton]; omega)
      have q := sForL_nx (l := none) (ds := r) t1 ((step_in (w := w) (v := v) h hd (by omega)).1 ⟨m, al⟩)
      rw [e, q]
      exact ih
    · refine ⟨fun k' e => (by rw [go_no g] at e; cases e), fun _ => ?_⟩
      by_cases hm : s ∈ dsD ds
      · obtain ⟨d, hd, rfl⟩ := mem_dsD_iff.mp hm
        exact ⟨_, stop _ ((step_in h hd (by omega)).2 fun ⟨m, al⟩ => g ⟨d, hd, rfl, m, al⟩)⟩
      · exact ⟨_, stop _ (step_out h (hs s List.mem_cons_self) hm)⟩
end Sx
set_option Elab.async false
set_option linter.all false
set_option maxRecDepth 100000
set_option maxHeartbeats 1000000
set_option autoImplicit false
namespace Sx
open PySem L2
def Thg (n : Nat) (t : D) : Prop := (∃ ss : List D, (t = .lst ss ∨ t = .tup ss) ∧ (∀ s ∈ ss, Stp s) ∧ ss.length ≤ n) ∨ t = .non ∨ t = .dK [] ∨ t = .str "a" ∨ t = .int 5
open Classical in
noncomputable def spec (ds : List Dep) (w : Dep) : D → Bool
  | .lst ss => if ss = [] then false else match go ds w.1 ss with
    | none => false
    | some k => decide (k.getLast? = some w.2)
  | _ => false
open Classical in
theorem eq_nil_cl {n b : Nat} {ss : List D} (h : ∀ s ∈ ss, Cp n b s) (hn : n ≤ 59) : fEq (.lst ss) (.lst []) = some0 (.bl (decide (ss = []))) ∧ fNe (.lst ss) (.lst []) = some0 (.bl (decide (ss ≠ []))) := by
  obtain ⟨ps, e1, e2, e3, e4⟩ := CpL h
  have p1 : py (.lst ss) = some (.list ps) := by rw [py, e1]; rfl
  have p2 : py (.lst []) = some (.list []) := rfl
  have dd : (PyData.list ps).depth ≤ 60 := by rw [PyData.depth]; omega
  have q : PyData.eqv (.list ps) (.list []) = decide (ss = []) := by
    rw [Bool.eq_iff_iff, eqv_cl _ _ (by rw [cl]; exact e2) rfl, decide_eq_true_eq]
    constructor
    · intro z
      injection z with z
      subst z
      cases ss with
      | nil => rfl
      | cons s r =>
        rw [pyL] at e1
        obtain ⟨_, _, e⟩ := Option.bind_eq_some_iff.mp e1
        obtain ⟨_, _, e⟩ := Option.bind_eq_some_iff.mp e
        cases e
    · rintro rfl
      cases e1
      rfl
  constructor
  · unfold fEq
    rw [p1, p2]
    show (if (PyData.list ps).depth ≤ 60 then _ else _) = _
    rw [if_pos dd, q]
  · unfold fNe
    rw [p1, p2]
    show (if (PyData.list ps).depth ≤ 60 then _ else _) = _
    rw [if_pos dd, q]
    by_cases z : ss = [] <;> simp [z]
theorem last_lst {p : List D} {s : D} (h : (p ++ [s]).length ≤ 4000) : fIx (.lst (p ++ [s])) (.int (-1)) = some0 s := by
  show (atI (p ++ [s]) (-1)).bind some0 = _
  have : atI (p ++ [s]) (-1) = some s := by
    unfold atI ixN
    rw [if_neg (by decide), if_pos (by simp; omega)]
    show (p ++ [s])[_]? = _
    have : (-1 + ((p ++ [s]).length : Int)).toNat = p.length := by simp; omega
    rw [this, List.getElem?_append_right (by simp)]
    simp
  rw [this]
  rfl
def derR : RunS := (sSeq (sFor (iSeq (rVar 2)) none (tgN 4) stepR) (sSeq (sRet (run2 (run2 (run2 (rBor 2) (run1 (rC (.int 1)) fNeg) fIx) (rC (.int 1)) fIx) (run2 (rBor 1) (rC (.int 1)) fIx) fEq)) sNx))
theorem is_derivation_any {ds : List Dep} {w : Dep} {t : D} (h : ∀ d ∈ ds, DepOk d ∧ d.1.length ≤ 5) (hl : ds.length ≤ 4000) (hw : DepOk w) (wl : w.1.length ≤ 5) (ht : Thg 100 t) :
    f_is_derivation [.lst (dsD ds), dD w, t] = .ret (false, .bl (spec ds w t)) := by
  have a1 := need_dependencies_ok (k := .lst (dsD ds)) (.inl rfl) (fun d hd => (h d hd).1) (by omega)
  have a2 := need_dependency_ok hw
  have i0 := (ix_dep w).1
  have i1 := (ix_dep w).2
  have other : fIsi [t, .ty "list"] = some0 (.bl false) → spec ds w t = false → f_is_derivation [.lst (dsD ds), dD w, t] = .ret (false, .bl (spec ds w t)) := fun e1 e2 => by
    rw [e2]
    unfold f_is_derivation runFn r_is_derivation
    show ((sSeq _ _) [some (.fz, .lst (dsD ds)), some (.fz, dD w), some (.fz, t), none, none, none]).bind _ = _
    simp only [sSeq, sIf, sRet, sNx, sSet, sPar, sTgt, sDrop, toT, rOr, rAnd, rNot, rIf, runN, run1, run2, rCons, rNil, rBor, rVar, rMov, rC, rChn, rDisp, rCall, rSlice, oNone, oSome, ret1, frc, frcs, onlyV, valO, Op.fz, mkO, boolOf, intOf, itemsOf, iSeq, tgN, T.ret_bind, T.ofOpt, retO, putO, flOf, some0, some1, Option.bind_some, Option.map_some, List.getElem?_cons_zero, List.getElem?_cons_succ, List.set_cons_zero, List.set_cons_succ, List.length_cons, List.length_nil, mkL, mkT, small, Bool.not_true, Bool.not_false, if_true, if_false, Bool.false_eq_true, ite_true, ite_false, Nat.reduceAdd, Nat.reduceLT, Nat.reduceLeDiff, a1, a2, e1]
  rcases ht with ⟨ss, rfl | rfl, hs, hn⟩ | rfl | rfl | rfl | rfl
  · have e1 : fIsi [.lst ss, .ty "list"] = some0 (.bl true) := rfl
    have e2 := (eq_nil_cl (fun s m => (hs s m).cp) (by decide)).1
    by_cases z : ss = []
    · rw [decide_eq_true z] at e2
      have : spec ds w (.lst ss) = false := by rw [spec, if_pos z]
      rw [this]
      unfold f_is_derivation runFn r_is_derivation
      show ((sSeq _ _) [some (.fz, .lst (dsD ds)), some (.fz, dD w), some (.fz, .lst ss), none, none, none]).bind _ = _
      simp only [sSeq, sIf, sRet, sNx, sSet, sPar, sTgt, sDrop, toT, rOr, rAnd, rNot, rIf, runN, run1, run2, rCons, rNil, rBor, rVar, rMov, rC, rChn, rDisp, rCall, rSlice, oNone, oSome, ret1, frc, frcs, onlyV, valO, Op.fz, mkO, boolOf, intOf, itemsOf, iSeq, tgN, T.ret_bind, T.ofOpt, retO, putO, flOf, some0, some1, Option.bind_some, Option.map_some, List.getElem?_cons_zero, List.getElem?_cons_succ, List.set_cons_zero, List.set_cons_succ, List.length_cons, List.length_nil, mkL, mkT, small, Bool.not_true, Bool.not_false, if_true, if_false, Bool.false_eq_true, ite_true, ite_false, Nat.reduceAdd, Nat.reduceLT, Nat.reduceLeDiff, a1, a2, e1, e2]
    · rw [decide_eq_false z] at e2
      have e3 : fList [.tup (Sl w.1)] = some1 (.lst (Sl w.1)) := rfl
      obtain ⟨yes, no⟩ := steps_run (w := w) (v := .lst ss) (o := none) (k := w.1) h hs (by omega)
      have hd : ∃ en, derR (ED ds w (.lst ss) w.1 none) = .ret (.rt (false, .bl (spec ds w (.lst ss))), en) := by
        unfold derR sSeq sFor
        show ∃ en, (((sForL none (tgN 4) stepR ss (ED ds w (.lst ss) w.1 none))).bind _) = _
        rw [spec, if_neg z]
        cases g : go ds w.1 ss with
        | none =>
          obtain ⟨en, e⟩ := no g
          exact ⟨en, by rw [e]; rfl⟩
        | some k =>
          obtain ⟨o', e⟩ := yes k g
          obtain ⟨p, q, d, hp, hq⟩ := go_last g z
          have l1 : fIx (.lst ss) (.int (-1)) = some0 (dD d) := by rw [hp]; exact last_lst (by rw [← hp]; omega)
          have l2 := (ix_dep d).2
          have l3 := fEq_str d.2 w.2
          have l4 : (q ++ [d.2]).getLast? = some d.2 := by simp
          refine ⟨ED ds w (.lst ss) k o', ?_⟩
          rw [e]
          have fin : (sRet (run2 (run2 (run2 (rBor 2) (run1 (rC (.int 1)) fNeg) fIx) (rC (.int 1)) fIx) (run2 (rBor 1) (rC (.int 1)) fIx) fEq)) (ED ds w (.lst ss) k o') = .ret (.rt (false, .bl (decide (d.2 = w.2))), ED ds w (.lst ss) k o') := by
            have n1 : fNeg (.int 1) = some0 (.int (-1)) := rfl
            simp only [ED, sSeq, sIf, sRet, sNx, sSet, sPar, sTgt, sDrop, toT, rOr, rAnd, rNot, rIf, runN, run1, run2, rCons, rNil, rBor, rVar, rMov, rC, rChn, rDisp, rCall, rSlice, oNone, oSome, ret1, frc, frcs, onlyV, valO, Op.fz, mkO, boolOf, intOf, itemsOf, iSeq, tgN, T.ret_bind, T.ofOpt, retO, putO, flOf, some0, some1, Option.bind_some, Option.map_some, List.getElem?_cons_zero, List.getElem?_cons_succ, List.set_cons_zero, List.set_cons_succ, List.length_cons, List.length_nil, mkL, mkT, small, Bool.not_true, Bool.not_false, if_true, if_false, Bool.false_eq_true, ite_true, ite_false, Nat.reduceAdd, Nat.reduceLT, Nat.reduceLeDiff, n1, l1, l2, i1, l3]
          show (((sRet _) (ED ds w (.lst ss) k o')).bind _) = _
          rw [fin]
          show T.ret _ = T.ret _
          have l5 : decide ((q ++ [d.2]).getLast? = some w.2) = decide (d.2 = w.2) := by
            rw [l4]
            simp
          rw [hq, ← l5]
      obtain ⟨en, hd⟩ := hd
      have r_eq : r_is_derivation = (sSeq (sDrop (rCall f_need_dependencies (rCons (rVar 0) rNil))) (sSeq (sDrop (rCall f_need_dependency (rCons (rVar 1) rNil))) (sSeq (sIf (toT (rOr (rNot (runN (rCons (rBor 2) (rCons (rC (.ty "list")) rNil)) fIsi)) (run2 (rBor 2) (rDisp mkL rNil) fEq))) (sSeq (sRet (rC (.bl false))) sNx) sNx) (sSeq (sSet 3 (runN (rCons (run2 (rBor 1) (rC (.int 0)) fIx) rNil) fList)) derR)))) := rfl
      unfold f_is_derivation runFn
      rw [r_eq]
      generalize derR = R at hd ⊢
      show ((sSeq _ _) [some (.fz, .lst (dsD ds)), some (.fz, dD w), some (.fz, .lst ss), none, none, none]).bind _ = _
      unfold ED at hd
      simp only [sSeq, sIf, sRet, sNx, sSet, sPar, sTgt, sDrop, toT, rOr, rAnd, rNot, rIf, runN, run1, run2, rCons, rNil, rBor, rVar, rMov, rC, rChn, rDisp, rCall, rSlice, oNone, oSome, ret1, frc, frcs, onlyV, valO, Op.fz, mkO, boolOf, intOf, itemsOf, iSeq, tgN, T.ret_bind, T.ofOpt, retO, putO, flOf, some0, some1, Option.bind_some, Option.map_some, List.getElem?_cons_zero, List.getElem?_cons_succ, List.set_cons_zero, List.set_cons_succ, List.length_cons, List.length_nil, mkL, mkT, small, Bool.not_true, Bool.not_false, if_true, if_false, Bool.false_eq_true, ite_true, ite_false, Nat.reduceAdd, Nat.reduceLT, Nat.reduceLeDiff, a1, a2, e1, e2, i0, e3, hd]
  · exact other rfl rfl
  · exact other rfl rfl
  · exact other rfl rfl
  · exact other rfl rfl
  · exact other rfl rfl
end Sx
set_option Elab.async false
set_option linter.all false
set_option maxRecDepth 100000
set_option maxHeartbeats 1000000
set_option autoImplicit false
namespace Sx
open PySem L2
/-! the law's own judgement -/
def tx (d : D) : Str := match py d with
  | some p => p.shown
  | none => ""
theorem repr_tx {d : D} (h : Stp d) : fReprA [d] = some0 (.str (tx d)) := by
  obtain ⟨p, e1, e2, e3⟩ := repr_cl h.cp (by decide) (by decide) h.kind
  rw [e3]
  unfold tx
  rw [e1]
theorem tx_inj {d e : D} (hd : Stp d) (he : Stp e) (h : tx d = tx e) : d = e := by
  obtain ⟨p, p1, p2, _, _⟩ := hd.cp
  obtain ⟨q, q1, q2, _, _⟩ := he.cp
  unfold tx at h
  rw [p1, q1] at h
  have : p = q := shown_inj p2 q2 h
  subst this
  exact py_inj d e p p1 q1
theorem tx_mem {ds : List Dep} {s : D} (h : ∀ d ∈ ds, DepOk d ∧ d.1.length ≤ 5) (hs : Stp s) : tx s ∈ ds.map (fun d => tx (dD d)) ↔ s ∈ dsD ds := by
  rw [List.mem_map, mem_dsD_iff]
  exact ⟨fun ⟨d, hd, e⟩ => ⟨d, hd, (tx_inj (dep_stp (h d hd).1 (h d hd).2) hs e).symm⟩, fun ⟨d, hd, e⟩ => ⟨d, hd, by rw [e]⟩⟩
abbrev EI (ds : List Dep) (w : Dep) (v : D) (k : List Str) (o : Slot) : En := [some (.fz, v), some (.fz, .lst (dsD ds)), some (.fz, dD w), some (.ow, .lst (Sl k)), o, none, none]
def stepI : RunS := (sSeq (sIf (toT (run2 (runN (rCons (rVar 4) rNil) fReprA) (rLc (iSeq (rVar 1)) none (tgN 5) rYes (runN (rCons (rVar 5) rNil) fReprA) [5]) fNotIn)) (sSeq (sRet (rC (.bl false))) sNx) sNx)
    (sSeq (sIf (toT (rOr (run2 (run2 (rBor 4) (rC (.int 1)) fIx) (rBor 3) fIn) (run2 (rLc (iSeq (run2 (rBor 4) (rC (.int 0)) fIx)) none (tgN 6) (toT (run2 (rBor 6) (rBor 3) fNotIn)) (rVar 6) [6]) (rDisp mkL rNil) fNe))) (sSeq (sRet (rC (.bl false))) sNx) sNx)
    (sSeq (sDrop (rApp 3 (run2 (rBor 4) (rC (.int 1)) fIx))) sNx)))
theorem reprs_lc {ds : List Dep} {w : Dep} {v s : D} {k : List Str} (h : ∀ d ∈ ds, DepOk d ∧ d.1.length ≤ 5) (hl : ds.length ≤ 4000) :
    rLc (iSeq (rVar 1)) none (tgN 5) rYes (runN (rCons (rVar 5) rNil) fReprA) [5] (EI ds w v k (some (.fz, s))) = .ret (.fr (.lst (Sl (ds.map fun d => tx (dD d)))), EI ds w v k (some (.fz, s))) := by
  refine (rLc_map (en1 := EI ds w v k (some (.fz, s))) (g := dD) (xs := ds) (fun _ => true) (fun d => .str (tx (dD d))) rfl (by omega) fun d hd => ?_).trans (by
    rw [filter_tt]
    unfold Sl
    rw [List.map_map]
    rfl)
  have e := repr_tx (dep_stp (h d hd).1 (h d hd).2)
  refine ⟨[some (.fz, v), some (.fz, .lst (dsD ds)), some (.fz, dD w), some (.ow, .lst (Sl k)), some (.fz, s), some (.fz, dD d), none], _, rfl, rfl, (fun z => by cases z), fun _ => ⟨.v (.str (tx (dD d))), [some (.fz, v), some (.fz, .lst (dsD ds)), some (.fz, dD w), some (.ow, .lst (Sl k)), some (.fz, s), some (.fz, dD d), none], ?_, rfl, rfl⟩⟩
  simp only [sSeq, sIf, sRet, sNx, sSet, sPar, sTgt, sDrop, toT, rOr, rAnd, rNot, rIf, runN, run1, run2, rCons, rNil, rBor, rVar, rMov, rC, rChn, rDisp, rCall, rSlice, oNone, oSome, ret1, frc, frcs, onlyV, valO, Op.fz, mkO, boolOf, intOf, itemsOf, iSeq, tgN, T.ret_bind, T.ofOpt, retO, putO, flOf, some0, some1, Option.bind_some, Option.map_some, List.getElem?_cons_zero, List.getElem?_cons_succ, List.set_cons_zero, List.set_cons_succ, List.length_cons, List.length_nil, mkL, mkT, small, Bool.not_true, Bool.not_false, if_true, if_false, Bool.false_eq_true, ite_true, ite_false, Nat.reduceAdd, Nat.reduceLT, Nat.reduceLeDiff, e]
theorem stepI_in {ds : List Dep} {w : Dep} {v : D} {k : List Str} {d : Dep} (h : ∀ d ∈ ds, DepOk d ∧ d.1.length ≤ 5) (hl : ds.length ≤ 4000) (hd : d ∈ ds) (hk : k.length < 4000) :
    (d.2 ∉ k ∧ (∀ x ∈ d.1, x ∈ k) → stepI (EI ds w v k (some (.fz, dD d))) = .ret (.nx, EI ds w v (k ++ [d.2]) (some (.fz, dD d)))) ∧
    (¬ (d.2 ∉ k ∧ ∀ x ∈ d.1, x ∈ k) → stepI (EI ds w v k (some (.fz, dD d))) = .ret (.rt (false, .bl false), EI ds w v k (some (.fz, dD d)))) := by
  obtain ⟨ok, l5⟩ := h d hd
  have st := dep_stp ok l5
  have a1 := repr_tx st
  have a2 := reprs_lc (w := w) (v := v) (s := dD d) (k := k) h hl
  have a3 : fNotIn (.str (tx (dD d))) (.lst (Sl (ds.map fun d => tx (dD d)))) = some0 (.bl false) := by
    rw [(in_Sl _ _).2.1, decide_eq_false (not_not_intro ((tx_mem h st).mpr (mem_dsD_iff.mpr ⟨d, hd, rfl⟩)))]
  have i0 := (ix_dep d).1
  have i1 := (ix_dep d).2
  have c1 : rLc (iSeq (run2 (rBor 4) (rC (.int 0)) fIx)) none (tgN 6) (toT (run2 (rBor 6) (rBor 3) fNotIn)) (rVar 6) [6] (EI ds w v k (some (.fz, dD d))) = _ := lc_out (o := d.1) (ks := k) (by simp only [EI, sSeq, sIf, sRet, sNx, sSet, sPar, sTgt, sDrop, toT, rOr, rAnd, rNot, rIf, runN, run1, run2, rCons, rNil, rBor, rVar, rMov, rC, rChn, rDisp, rCall, rSlice, oNone, oSome, ret1, frc, frcs, onlyV, valO, Op.fz, mkO, boolOf, intOf, itemsOf, iSeq, tgN, T.ret_bind, T.ofOpt, retO, putO, flOf, some0, some1, Option.bind_some, Option.map_some, List.getElem?_cons_zero, List.getElem?_cons_succ, List.set_cons_zero, List.set_cons_succ, List.length_cons, List.length_nil, mkL, mkT, small, Bool.not_true, Bool.not_false, if_true, if_false, Bool.false_eq_true, ite_true, ite_false, Nat.reduceAdd, Nat.reduceLT, Nat.reduceLeDiff, i0]) (by omega) rfl (by decide) rfl
  have e1 := (in_Sl d.2 k).1
  have e2 := (eq_nil_Sl (d.1.filter fun x => decide (x ∉ k))).2
  have l2 : (Sl k).length < 4096 := by unfold Sl; rw [List.length_map]; omega
  unfold EI at c1 a2
  have fl : (d.1.filter fun x => decide (x ∉ k)) = [] ↔ ∀ x ∈ d.1, x ∈ k := by
    rw [List.filter_eq_nil_iff]
    simp
  constructor
  · rintro ⟨m, al⟩
    rw [decide_eq_false m] at e1
    rw [decide_eq_false (not_not_intro (fl.mpr al))] at e2
    unfold stepI
    simp only [EI, sSeq, sIf, sRet, sNx, sSet, sPar, sTgt, sDrop, toT, rOr, rAnd, rNot, rIf, runN, run1, run2, rCons, rNil, rBor, rVar, rMov, rC, rChn, rDisp, rCall, rSlice, oNone, oSome, ret1, frc, frcs, onlyV, valO, Op.fz, mkO, boolOf, intOf, itemsOf, iSeq, tgN, T.ret_bind, T.ofOpt, retO, putO, flOf, some0, some1, Option.bind_some, Option.map_some, List.getElem?_cons_zero, List.getElem?_cons_succ, List.set_cons_zero, List.set_cons_succ, List.length_cons, List.length_nil, mkL, mkT, small, Bool.not_true, Bool.not_false, if_true, if_false, Bool.false_eq_true, ite_true, ite_false, Nat.reduceAdd, Nat.reduceLT, Nat.reduceLeDiff, a1, a2, a3, i1, e1, c1, e2, rApp, ownL, if_pos l2]
    simp only [← Sl_snoc]
  · intro n
    unfold stepI
    by_cases m : d.2 ∈ k
    · rw [decide_eq_true m] at e1
      simp only [EI, sSeq, sIf, sRet, sNx, sSet, sPar, sTgt, sDrop, toT, rOr, rAnd, rNot, rIf, runN, run1, run2, rCons, rNil, rBor, rVar, rMov, rC, rChn, rDisp, rCall, rSlice, oNone, oSome, ret1, frc, frcs, onlyV, valO, Op.fz, mkO, boolOf, intOf, itemsOf, iSeq, tgN, T.ret_bind, T.ofOpt, retO, putO, flOf, some0, some1, Option.bind_some, Option.map_some, List.getElem?_cons_zero, List.getElem?_cons_succ, List.set_cons_zero, List.set_cons_succ, List.length_cons, List.length_nil, mkL, mkT, small, Bool.not_true, Bool.not_false, if_true, if_false, Bool.false_eq_true, ite_true, ite_false, Nat.reduceAdd, Nat.reduceLT, Nat.reduceLeDiff, a1, a2, a3, i1, e1]
    · rw [decide_eq_false m] at e1
      have ne : (d.1.filter fun x => decide (x ∉ k)) ≠ [] := fun z => n ⟨m, fl.mp z⟩
      rw [decide_eq_true ne] at e2
      simp only [EI, sSeq, sIf, sRet, sNx, sSet, sPar, sTgt, sDrop, toT, rOr, rAnd, rNot, rIf, runN, run1, run2, rCons, rNil, rBor, rVar, rMov, rC, rChn, rDisp, rCall, rSlice, oNone, oSome, ret1, frc, frcs, onlyV, valO, Op.fz, mkO, boolOf, intOf, itemsOf, iSeq, tgN, T.ret_bind, T.ofOpt, retO, putO, flOf, some0, some1, Option.bind_some, Option.map_some, List.getElem?_cons_zero, List.getElem?_cons_succ, List.set_cons_zero, List.set_cons_succ, List.length_cons, List.length_nil, mkL, mkT, small, Bool.not_true, Bool.not_false, if_true, if_false, Bool.false_eq_true, ite_true, ite_false, Nat.reduceAdd, Nat.reduceLT, Nat.reduceLeDiff, a1, a2, a3, i1, e1, c1, e2]
theorem stepI_out {ds : List Dep} {w : Dep} {v s : D} {k : List Str} (h : ∀ d ∈ ds, DepOk d ∧ d.1.length ≤ 5) (hl : ds.length ≤ 4000) (hs : Stp s) (hn : s ∉ dsD ds) :
    stepI (EI ds w v k (some (.fz, s))) = .ret (.rt (false, .bl false), EI ds w v k (some (.fz, s))) := by
  have a1 := repr_tx hs
  have a2 := reprs_lc (w := w) (v := v) (s := s) (k := k) h hl
  have a3 : fNotIn (.str (tx s)) (.lst (Sl (ds.map fun d => tx (dD d)))) = some0 (.bl true) := by
    have ne : tx s ∉ ds.map fun d => tx (dD d) := fun z => hn ((tx_mem h hs).mp z)
    rw [(in_Sl _ _).2.1, decide_eq_true ne]
  unfold EI at a2
  unfold stepI
  simp only [EI, sSeq, sIf, sRet, sNx, sSet, sPar, sTgt, sDrop, toT, rOr, rAnd, rNot, rIf, runN, run1, run2, rCons, rNil, rBor, rVar, rMov, rC, rChn, rDisp, rCall, rSlice, oNone, oSome, ret1, frc, frcs, onlyV, valO, Op.fz, mkO, boolOf, intOf, itemsOf, iSeq, tgN, T.ret_bind, T.ofOpt, retO, putO, flOf, some0, some1, Option.bind_some, Option.map_some, List.getElem?_cons_zero, List.getElem?_cons_succ, List.set_cons_zero, List.set_cons_succ, List.length_cons, List.length_nil, mkL, mkT, small, Bool.not_true, Bool.not_false, if_true, if_false, Bool.false_eq_true, ite_true, ite_false, Nat.reduceAdd, Nat.reduceLT, Nat.reduceLeDiff, a1, a2, a3]
theorem stepsI_run {ds : List Dep} {w : Dep} {v : D} (h : ∀ d ∈ ds, DepOk d ∧ d.1.length ≤ 5) (hd : ds.length ≤ 4000) : ∀ {ss : List D} {k : List Str} {o : Slot}, (∀ s ∈ ss, Stp s) → k.length + ss.length < 4000 →
    (∀ k', go ds k ss = some k' → ∃ o', sForL none (tgN 4) stepI ss (EI ds w v k o) = .ret (.nx, EI ds w v k' o')) ∧
    (go ds k ss = none → ∃ en, sForL none (tgN 4) stepI ss (EI ds w v k o) = .ret (.rt (false, .bl false), en))
  | [], k, o, _, _ => ⟨fun k' e => (by rw [go] at e; cases e; exact ⟨o, rfl⟩), fun e => (by rw [go] at e; cases e)⟩
  | s :: r, k, o, hs, hl => by
    rw [List.length_cons] at hl
    have t1 : tgN 4 s (EI ds w v k o) = some (EI ds w v k (some (.fz, s))) := rfl
    have stop : ∀ e, stepI (EI ds w v k (some (.fz, s))) = .ret (.rt (false, .bl false), e) → sForL none (tgN 4) stepI (s :: r) (EI ds w v k o) = .ret (.rt (false, .bl false), e) := fun e he => by
      rw [sForL]
      show ((T.ofOpt (tgN 4 s (EI ds w v k o))).bind _) = _
      rw [t1]
      show ((stepI (EI ds w v k (some (.fz, s)))).bind _) = _
      rw [he]
      rfl
    by_cases g : Goes ds k s
    · obtain ⟨d, hd', rfl, m, al, e⟩ := go_yes (r := r) g
      have ih := stepsI_run (w := w) (v := v) h hd (ss := r) (k := k ++ [d.2]) (o := some (.fz, dD d)) (fun s hs' => hs s (List.mem_cons_of_mem _ hs')) (by rw [List.length_append, List.length_singleton]; omega)
      have q := sForL_nx (l := none) (ds := r) t1 ((stepI_in (w := w) (v := v) h hd hd' (by omega)).1 ⟨m, al⟩)
      rw [e, q]
      exact ih
    · refine ⟨fun k' e => (by rw [go_no g] at e; cases e), fun _ => ?_⟩
      by_cases hm : s ∈ dsD ds
      · obtain ⟨d, hd', rfl⟩ := mem_dsD_iff.mp hm
        exact ⟨_, stop _ ((stepI_in h hd hd' (by omega)).2 fun ⟨m, al⟩ => g ⟨d, hd', rfl, m, al⟩)⟩
      · exact ⟨_, stop _ (stepI_out h hd (hs s List.mem_cons_self) hm)⟩
end Sx
set_option Elab.async false
set_option linter.all false
set_option maxRecDepth 100000
set_option maxHeartbeats 1000000
set_option autoImplicit false
namespace Sx
open PySem L2
def rigR : RunS := (sSeq (sFor (iSeq (rVar 0)) none (tgN 4) stepI) (sSeq (sRet (run2 (run2 (rBor 3) (run1 (rC (.int 1)) fNeg) fIx) (run2 (rBor 2) (rC (.int 1)) fIx) fEq)) sNx))
theorem is_right_any {ds : List Dep} {w : Dep} {t : D} (h : ∀ d ∈ ds, DepOk d ∧ d.1.length ≤ 5) (hl : ds.length ≤ 4000) (wl : w.1.length ≤ 5) (ht : Thg 100 t) :
    f_w_is_right [t, .lst (dsD ds), dD w] = .ret (false, .bl (spec ds w t)) := by
  have i0 := (ix_dep w).1
  have i1 := (ix_dep w).2
  have other : fIsi [t, .ty "list"] = some0 (.bl false) → spec ds w t = false → f_w_is_right [t, .lst (dsD ds), dD w] = .ret (false, .bl (spec ds w t)) := fun e1 e2 => by
    rw [e2]
    unfold f_w_is_right runFn r_w_is_right
    show ((sSeq _ _) [some (.fz, t), some (.fz, .lst (dsD ds)), some (.fz, dD w), none, none, none, none]).bind _ = _
    simp only [sSeq, sIf, sRet, sNx, sSet, sPar, sTgt, sDrop, toT, rOr, rAnd, rNot, rIf, runN, run1, run2, rCons, rNil, rBor, rVar, rMov, rC, rChn, rDisp, rCall, rSlice, oNone, oSome, ret1, frc, frcs, onlyV, valO, Op.fz, mkO, boolOf, intOf, itemsOf, iSeq, tgN, T.ret_bind, T.ofOpt, retO, putO, flOf, some0, some1, Option.bind_some, Option.map_some, List.getElem?_cons_zero, List.getElem?_cons_succ, List.set_cons_zero, List.set_cons_succ, List.length_cons, List.length_nil, mkL, mkT, small, Bool.not_true, Bool.not_false, if_true, if_false, Bool.false_eq_true, ite_true, ite_false, Nat.reduceAdd, Nat.reduceLT, Nat.reduceLeDiff, e1]
  rcases ht with ⟨ss, rfl | rfl, hs, hn⟩ | rfl | rfl | rfl | rfl
  · have e1 : fIsi [.lst ss, .ty "list"] = some0 (.bl true) := rfl
    have e2 := (eq_nil_cl (fun s m => (hs s m).cp) (by decide)).1
    by_cases z : ss = []
    · rw [decide_eq_true z] at e2
      have : spec ds w (.lst ss) = false := by rw [spec, if_pos z]
      rw [this]
      unfold f_w_is_right runFn r_w_is_right
      show ((sSeq _ _) [some (.fz, .lst ss), some (.fz, .lst (dsD ds)), some (.fz, dD w), none, none, none, none]).bind _ = _
      simp only [sSeq, sIf, sRet, sNx, sSet, sPar, sTgt, sDrop, toT, rOr, rAnd, rNot, rIf, runN, run1, run2, rCons, rNil, rBor, rVar, rMov, rC, rChn, rDisp, rCall, rSlice, oNone, oSome, ret1, frc, frcs, onlyV, valO, Op.fz, mkO, boolOf, intOf, itemsOf, iSeq, tgN, T.ret_bind, T.ofOpt, retO, putO, flOf, some0, some1, Option.bind_some, Option.map_some, List.getElem?_cons_zero, List.getElem?_cons_succ, List.set_cons_zero, List.set_cons_succ, List.length_cons, List.length_nil, mkL, mkT, small, Bool.not_true, Bool.not_false, if_true, if_false, Bool.false_eq_true, ite_true, ite_false, Nat.reduceAdd, Nat.reduceLT, Nat.reduceLeDiff, e1, e2]
    · rw [decide_eq_false z] at e2
      have e3 : fList [.tup (Sl w.1)] = some1 (.lst (Sl w.1)) := rfl
      obtain ⟨yes, no⟩ := stepsI_run (w := w) (v := .lst ss) (o := none) (k := w.1) h hl hs (by omega)
      have hd : ∃ en, rigR (EI ds w (.lst ss) w.1 none) = .ret (.rt (false, .bl (spec ds w (.lst ss))), en) := by
        unfold rigR sSeq sFor
        show ∃ en, (((sForL none (tgN 4) stepI ss (EI ds w (.lst ss) w.1 none))).bind _) = _
        rw [spec, if_neg z]
        cases g : go ds w.1 ss with
        | none =>
          obtain ⟨en, e⟩ := no g
          exact ⟨en, by rw [e]; rfl⟩
        | some k =>
          obtain ⟨o', e⟩ := yes k g
          obtain ⟨p, q, d, hp, hq⟩ := go_last g z
          have l1 : fIx (.lst (Sl k)) (.int (-1)) = some0 (.str d.2) := last_Sl ⟨q, hq⟩
          have l3 := fEq_str d.2 w.2
          have l4 : (q ++ [d.2]).getLast? = some d.2 := by simp
          refine ⟨EI ds w (.lst ss) k o', ?_⟩
          rw [e]
          have fin : (sRet (run2 (run2 (rBor 3) (run1 (rC (.int 1)) fNeg) fIx) (run2 (rBor 2) (rC (.int 1)) fIx) fEq)) (EI ds w (.lst ss) k o') = .ret (.rt (false, .bl (decide (d.2 = w.2))), EI ds w (.lst ss) k o') := by
            have n1 : fNeg (.int 1) = some0 (.int (-1)) := rfl
            simp only [EI, sSeq, sIf, sRet, sNx, sSet, sPar, sTgt, sDrop, toT, rOr, rAnd, rNot, rIf, runN, run1, run2, rCons, rNil, rBor, rVar, rMov, rC, rChn, rDisp, rCall, rSlice, oNone, oSome, ret1, frc, frcs, onlyV, valO, Op.fz, mkO, boolOf, intOf, itemsOf, iSeq, tgN, T.ret_bind, T.ofOpt, retO, putO, flOf, some0, some1, Option.bind_some, Option.map_some, List.getElem?_cons_zero, List.getElem?_cons_succ, List.set_cons_zero, List.set_cons_succ, List.length_cons, List.length_nil, mkL, mkT, small, Bool.not_true, Bool.not_false, if_true, if_false, Bool.false_eq_true, ite_true, ite_false, Nat.reduceAdd, Nat.reduceLT, Nat.reduceLeDiff, n1, l1, i1, l3]
          show (((sRet _) (EI ds w (.lst ss) k o')).bind _) = _
          rw [fin]
          show T.ret _ = T.ret _
          have l5 : decide ((q ++ [d.2]).getLast? = some w.2) = decide (d.2 = w.2) := by
            rw [l4]
            simp
          rw [hq, ← l5]
      obtain ⟨en, hd⟩ := hd
      have r_eq : r_w_is_right = (sSeq (sIf (toT (rOr (rNot (runN (rCons (rBor 0) (rCons (rC (.ty "list")) rNil)) fIsi)) (run2 (rBor 0) (rDisp mkL rNil) fEq))) (sSeq (sRet (rC (.bl false))) sNx) sNx) (sSeq (sSet 3 (runN (rCons (run2 (rBor 2) (rC (.int 0)) fIx) rNil) fList)) rigR)) := rfl
      unfold f_w_is_right runFn
      rw [r_eq]
      generalize rigR = R at hd ⊢
      show ((sSeq _ _) [some (.fz, .lst ss), some (.fz, .lst (dsD ds)), some (.fz, dD w), none, none, none, none]).bind _ = _
      unfold EI at hd
      simp only [sSeq, sIf, sRet, sNx, sSet, sPar, sTgt, sDrop, toT, rOr, rAnd, rNot, rIf, runN, run1, run2, rCons, rNil, rBor, rVar, rMov, rC, rChn, rDisp, rCall, rSlice, oNone, oSome, ret1, frc, frcs, onlyV, valO, Op.fz, mkO, boolOf, intOf, itemsOf, iSeq, tgN, T.ret_bind, T.ofOpt, retO, putO, flOf, some0, some1, Option.bind_some, Option.map_some, List.getElem?_cons_zero, List.getElem?_cons_succ, List.set_cons_zero, List.set_cons_succ, List.length_cons, List.length_nil, mkL, mkT, small, Bool.not_true, Bool.not_false, if_true, if_false, Bool.false_eq_true, ite_true, ite_false, Nat.reduceAdd, Nat.reduceLT, Nat.reduceLeDiff, e1, e2, i0, e3, hd]
  · exact other rfl rfl
  · exact other rfl rfl
  · exact other rfl rfl
  · exact other rfl rfl
  · exact other rfl rfl
end Sx
set_option Elab.async false
set_option linter.all false
set_option maxRecDepth 100000
set_option maxHeartbeats 1000000
set_option autoImplicit false
namespace Sx
open PySem L2
/-! a derivation that the law makes -/
abbrev EM (ds : List Dep) (w : Dep) (k : List Str) (st : List Dep) (t f : Slot) : En := [some (.fz, .drw), some (.fz, .lst (dsD ds)), some (.fz, dD w), some (.ow, .lst (Sl k)), some (.ow, .lst (dsD st)), t, f, none, none]
def fitB (k : List Str) (d : Dep) : Bool := decide (d.2 ∉ k) && decide ((d.1.filter fun x => decide (x ∉ k)) = [])
theorem fits_lc {ds : List Dep} {w : Dep} {k : List Str} {st : List Dep} {t f : Slot} (h : ∀ d ∈ ds, d.1.length ≤ 5) (hl : ds.length ≤ 4000) :
    rLc (iSeq (rVar 1)) none (tgN 7) (toT (rAnd (run2 (run2 (rBor 7) (rC (.int 1)) fIx) (rBor 3) fNotIn) (run2 (rLc (iSeq (run2 (rBor 7) (rC (.int 0)) fIx)) none (tgN 8) (toT (run2 (rBor 8) (rBor 3) fNotIn)) (rVar 8) [8]) (rDisp mkL rNil) fEq))) (rVar 7) [7] (EM ds w k st t f) = .ret (.fr (.lst (dsD (ds.filter (fitB k)))), EM ds w k st t f) := by
  refine (rLc_map (en1 := EM ds w k st t f) (g := dD) (xs := ds) (fitB k) dD rfl (by omega) fun d hd => ?_).trans (by rfl)
  let E : En := [some (.fz, .drw), some (.fz, .lst (dsD ds)), some (.fz, dD w), some (.ow, .lst (Sl k)), some (.ow, .lst (dsD st)), t, f, some (.fz, dD d), none]
  have i0 := (ix_dep d).1
  have i1 := (ix_dep d).2
  have e1 := (in_Sl d.2 k).2.1
  have l5 := h d hd
  have c1 : rLc (iSeq (run2 (rBor 7) (rC (.int 0)) fIx)) none (tgN 8) (toT (run2 (rBor 8) (rBor 3) fNotIn)) (rVar 8) [8] [some (.fz, .drw), some (.fz, .lst (dsD ds)), some (.fz, dD w), some (.ow, .lst (Sl k)), some (.ow, .lst (dsD st)), t, f, some (.fz, dD d), none] = _ := lc_out (o := d.1) (ks := k) (by simp only [sSeq, sIf, sRet, sNx, sSet, sPar, sTgt, sDrop, toT, rOr, rAnd, rNot, rIf, runN, run1, run2, rCons, rNil, rBor, rVar, rMov, rC, rChn, rDisp, rCall, rSlice, oNone, oSome, ret1, frc, frcs, onlyV, valO, Op.fz, mkO, boolOf, intOf, itemsOf, iSeq, tgN, T.ret_bind, T.ofOpt, retO, putO, flOf, some0, some1, Option.bind_some, Option.map_some, List.getElem?_cons_zero, List.getElem?_cons_succ, List.set_cons_zero, List.set_cons_succ, List.length_cons, List.length_nil, mkL, mkT, small, Bool.not_true, Bool.not_false, if_true, if_false, Bool.false_eq_true, ite_true, ite_false, Nat.reduceAdd, Nat.reduceLT, Nat.reduceLeDiff, i0]) (by omega) rfl (by decide) rfl
  have e2 := (eq_nil_Sl (d.1.filter fun x => decide (x ∉ k))).1
  refine ⟨E, E, rfl, ?_, fun _ => rfl, fun _ => ⟨.v (dD d), E, rfl, rfl, rfl⟩⟩
  show (toT _) [some (.fz, .drw), some (.fz, .lst (dsD ds)), some (.fz, dD w), some (.ow, .lst (Sl k)), some (.ow, .lst (dsD st)), t, f, some (.fz, dD d), none] = _
  unfold fitB
  by_cases m : d.2 ∉ k
  · rw [decide_eq_true m] at e1 ⊢
    simp only [sSeq, sIf, sRet, sNx, sSet, sPar, sTgt, sDrop, toT, rOr, rAnd, rNot, rIf, runN, run1, run2, rCons, rNil, rBor, rVar, rMov, rC, rChn, rDisp, rCall, rSlice, oNone, oSome, ret1, frc, frcs, onlyV, valO, Op.fz, mkO, boolOf, intOf, itemsOf, iSeq, tgN, T.ret_bind, T.ofOpt, retO, putO, flOf, some0, some1, Option.bind_some, Option.map_some, List.getElem?_cons_zero, List.getElem?_cons_succ, List.set_cons_zero, List.set_cons_succ, List.length_cons, List.length_nil, mkL, mkT, small, Bool.not_true, Bool.not_false, if_true, if_false, Bool.false_eq_true, ite_true, ite_false, Nat.reduceAdd, Nat.reduceLT, Nat.reduceLeDiff, i1, e1, c1, e2, Bool.true_and]
    rfl
  · rw [decide_eq_false m] at e1 ⊢
    simp only [sSeq, sIf, sRet, sNx, sSet, sPar, sTgt, sDrop, toT, rOr, rAnd, rNot, rIf, runN, run1, run2, rCons, rNil, rBor, rVar, rMov, rC, rChn, rDisp, rCall, rSlice, oNone, oSome, ret1, frc, frcs, onlyV, valO, Op.fz, mkO, boolOf, intOf, itemsOf, iSeq, tgN, T.ret_bind, T.ofOpt, retO, putO, flOf, some0, some1, Option.bind_some, Option.map_some, List.getElem?_cons_zero, List.getElem?_cons_succ, List.set_cons_zero, List.set_cons_succ, List.length_cons, List.length_nil, mkL, mkT, small, Bool.not_true, Bool.not_false, if_true, if_false, Bool.false_eq_true, ite_true, ite_false, Nat.reduceAdd, Nat.reduceLT, Nat.reduceLeDiff, i1, e1, Bool.false_and]
    rfl
theorem wp_appE {i : Nat} {re : Run} {en : En} {l0 : List D} {Q : Fl × En → Prop} (h0 : ownL en i = some l0) (h : (re en).wp fun o => ∃ y l, valO o.1 = some y ∧ ownL o.2 i = some l ∧ l.length < 4096 ∧ Q (.nx, o.2.set i (some (.ow, .lst (l ++ [y]))))) : (sDrop (rApp i re) en).wp Q := by
  unfold sDrop rApp
  rw [h0]
  show (((re en).bind _).bind _).wp Q
  refine (T.wp_bind _ _ _).mpr ((T.wp_bind _ _ _).mpr (T.wp_mono h fun o ⟨y, l, e1, e2, hl, q⟩ => ?_))
  rw [e1]
  show ((T.ofOpt (ownL o.2 i)).bind _).wp _
  rw [e2]
  show (if l.length < 4096 then _ else _ : T (Op × En)).wp _
  rw [if_pos hl]
  exact q
def madeR : RunS := (sSeq (sSet 6 (rLc (iSeq (rVar 1)) none (tgN 7) (toT (rAnd (run2 (run2 (rBor 7) (rC (.int 1)) fIx) (rBor 3) fNotIn) (run2 (rLc (iSeq (run2 (rBor 7) (rC (.int 0)) fIx)) none (tgN 8) (toT (run2 (rBor 8) (rBor 3) fNotIn)) (rVar 8) [8]) (rDisp mkL rNil) fEq))) (rVar 7) [7]))
    (sSeq (sIf (toT (rAnd (run2 (rBor 6) (rDisp mkL rNil) fNe) (run2 (run2 (rBor 2) (rC (.int 1)) fIx) (rBor 3) fNotIn))) (sSeq (sDrop (rApp 4 (rCall f_w_pick (rCons (rVar 0) (rCons (rVar 6) rNil))))) (sSeq (sDrop (rApp 3 (run2 (run2 (rBor 4) (run1 (rC (.int 1)) fNeg) fIx) (rC (.int 1)) fIx))) sNx)) sNx) sNx))
theorem made_turn {ds : List Dep} {w : Dep} {k : List Str} {st : List Dep} {t f : Slot} (h : ∀ d ∈ ds, DepOk d ∧ d.1.length ≤ 5) (hl : ds.length ≤ 4000) (kl : k.length ≤ 100) (sl : st.length ≤ 100) :
    (madeR (EM ds w k st t f)).wp fun r => r.1 = .nx ∧ ∃ k' st' f', r.2 = EM ds w k' st' t f' ∧ k'.length ≤ k.length + 1 ∧ st'.length ≤ st.length + 1 ∧ (∀ x ∈ k, x ∈ k') ∧ ∀ d ∈ st', d ∈ st ∨ (d ∈ ds ∧ d.2 ∉ k) := by
  have c1 := fits_lc (w := w) (k := k) (st := st) (t := t) (f := f) (fun d hd => (h d hd).2) hl
  have hsub : ∀ d ∈ ds.filter (fitB k), d ∈ ds := fun d hd => (List.mem_filter.mp hd).1
  have hout : ∀ d ∈ ds.filter (fitB k), d.2 ∉ k := fun d hd => (of_decide_eq_true (Bool.and_eq_true_iff.mp (List.mem_filter.mp hd).2).1)
  have hlen : (ds.filter (fitB k)).length ≤ ds.length := List.length_filter_le _ _
  generalize ds.filter (fitB k) = fs at c1 hsub hout hlen
  have e1 := (eq_nil_cl (ss := dsD fs) (dsD_cp fun d hd => h d (hsub d hd)) (by decide)).2
  have i1 := (ix_dep w).2
  have e2 := (in_Sl w.2 k).2.1
  unfold madeR
  refine wp_nx (wp_eq (x := (.nx, EM ds w k st t (some (.ow, .lst (dsD fs))))) (by unfold sSet; rw [c1]; rfl) ⟨_, rfl, ?_⟩)
  refine wp_nx ?_
  by_cases fn : dsD fs = []
  · rw [decide_eq_false (not_not_intro fn)] at e1
    refine wp_eq (x := (.nx, EM ds w k st t (some (.ow, .lst (dsD fs))))) (by simp only [EM, sSeq, sIf, sRet, sNx, sSet, sPar, sTgt, sDrop, toT, rOr, rAnd, rNot, rIf, runN, run1, run2, rCons, rNil, rBor, rVar, rMov, rC, rChn, rDisp, rCall, rSlice, oNone, oSome, ret1, frc, frcs, onlyV, valO, Op.fz, mkO, boolOf, intOf, itemsOf, iSeq, tgN, T.ret_bind, T.ofOpt, retO, putO, flOf, some0, some1, Option.bind_some, Option.map_some, List.getElem?_cons_zero, List.getElem?_cons_succ, List.set_cons_zero, List.set_cons_succ, List.length_cons, List.length_nil, mkL, mkT, small, Bool.not_true, Bool.not_false, if_true, if_false, Bool.false_eq_true, ite_true, ite_false, Nat.reduceAdd, Nat.reduceLT, Nat.reduceLeDiff, e1]) ⟨_, rfl, rfl, k, st, _, rfl, by omega, by omega, fun x hx => hx, fun d hd => .inl hd⟩
  · rw [decide_eq_true fn] at e1
    by_cases wn : w.2 ∉ k
    · rw [decide_eq_true wn] at e2
      refine wp_if (wp_eq (x := (true, EM ds w k st t (some (.ow, .lst (dsD fs))))) (by simp only [EM, sSeq, sIf, sRet, sNx, sSet, sPar, sTgt, sDrop, toT, rOr, rAnd, rNot, rIf, runN, run1, run2, rCons, rNil, rBor, rVar, rMov, rC, rChn, rDisp, rCall, rSlice, oNone, oSome, ret1, frc, frcs, onlyV, valO, Op.fz, mkO, boolOf, intOf, itemsOf, iSeq, tgN, T.ret_bind, T.ofOpt, retO, putO, flOf, some0, some1, Option.bind_some, Option.map_some, List.getElem?_cons_zero, List.getElem?_cons_succ, List.set_cons_zero, List.set_cons_succ, List.length_cons, List.length_nil, mkL, mkT, small, Bool.not_true, Bool.not_false, if_true, if_false, Bool.false_eq_true, ite_true, ite_false, Nat.reduceAdd, Nat.reduceLT, Nat.reduceLeDiff, e1, i1, e2]) ?_)
      rw [if_pos rfl]
      have ll : (dsD fs).length ≤ 4096 := by unfold dsD; rw [List.length_map]; omega
      refine wp_nx (wp_appE (l0 := dsD st) rfl (wp_call (wp_eq (x := ([.v .drw, .v (.lst (dsD fs))], EM ds w k st t (some (.fz, .lst (dsD fs))))) rfl ⟨_, rfl, pick_wp fn ll fun x hx => ?_⟩)))
      obtain ⟨d, hd, rfl⟩ := mem_dsD_iff.mp hx
      have l1 : (dsD st).length < 4096 := by unfold dsD; rw [List.length_map]; omega
      have l2 : (Sl k).length < 4096 := by unfold Sl; rw [List.length_map]; omega
      refine ⟨dD d, dsD st, rfl, rfl, l1, EM ds w k (st ++ [d]) t (some (.fz, .lst (dsD fs))), by rw [dsD_snoc]; rfl, ?_⟩
      have n1 : fNeg (.int 1) = some0 (.int (-1)) := rfl
      have n2 : fIx (.lst (dsD (st ++ [d]))) (.int (-1)) = some0 (dD d) := last_ix ⟨st, rfl⟩
      have n3 := (ix_dep d).2
      refine wp_nx (wp_appE (l0 := Sl k) rfl (wp_eq (x := (.v (.str d.2), EM ds w k (st ++ [d]) t (some (.fz, .lst (dsD fs))))) (by simp only [EM, sSeq, sIf, sRet, sNx, sSet, sPar, sTgt, sDrop, toT, rOr, rAnd, rNot, rIf, runN, run1, run2, rCons, rNil, rBor, rVar, rMov, rC, rChn, rDisp, rCall, rSlice, oNone, oSome, ret1, frc, frcs, onlyV, valO, Op.fz, mkO, boolOf, intOf, itemsOf, iSeq, tgN, T.ret_bind, T.ofOpt, retO, putO, flOf, some0, some1, Option.bind_some, Option.map_some, List.getElem?_cons_zero, List.getElem?_cons_succ, List.set_cons_zero, List.set_cons_succ, List.length_cons, List.length_nil, mkL, mkT, small, Bool.not_true, Bool.not_false, if_true, if_false, Bool.false_eq_true, ite_true, ite_false, Nat.reduceAdd, Nat.reduceLT, Nat.reduceLeDiff, n1, n2, n3]) ⟨.str d.2, Sl k, rfl, rfl, l2, EM ds w (k ++ [d.2]) (st ++ [d]) t (some (.fz, .lst (dsD fs))), by rw [Sl_snoc]; rfl, ?_⟩))
      exact ⟨_, rfl, rfl, k ++ [d.2], st ++ [d], _, rfl, by simp, by simp, fun x hx => List.mem_append_left _ hx, fun e he => (List.mem_append.mp he).elim .inl fun he => .inr (by rw [List.mem_singleton.mp he]; exact ⟨hsub d hd, hout d hd⟩)⟩
    · rw [decide_eq_false wn] at e2
      refine wp_eq (x := (.nx, EM ds w k st t (some (.ow, .lst (dsD fs))))) (by simp only [EM, sSeq, sIf, sRet, sNx, sSet, sPar, sTgt, sDrop, toT, rOr, rAnd, rNot, rIf, runN, run1, run2, rCons, rNil, rBor, rVar, rMov, rC, rChn, rDisp, rCall, rSlice, oNone, oSome, ret1, frc, frcs, onlyV, valO, Op.fz, mkO, boolOf, intOf, itemsOf, iSeq, tgN, T.ret_bind, T.ofOpt, retO, putO, flOf, some0, some1, Option.bind_some, Option.map_some, List.getElem?_cons_zero, List.getElem?_cons_succ, List.set_cons_zero, List.set_cons_succ, List.length_cons, List.length_nil, mkL, mkT, small, Bool.not_true, Bool.not_false, if_true, if_false, Bool.false_eq_true, ite_true, ite_false, Nat.reduceAdd, Nat.reduceLT, Nat.reduceLeDiff, e1, i1, e2]) ⟨_, rfl, rfl, k, st, _, rfl, by omega, by omega, fun x hx => hx, fun d hd => .inl hd⟩
end Sx
set_option Elab.async false
set_option linter.all false
set_option maxRecDepth 100000
set_option maxHeartbeats 1000000
set_option autoImplicit false
namespace Sx
open PySem L2
theorem made_wp {ds : List Dep} {w : Dep} (h : ∀ d ∈ ds, DepOk d ∧ d.1.length ≤ 5) (hl : ds.length ≤ 4000) (wl : w.1.length ≤ 5) :
    (f_w_made [.drw, .lst (dsD ds), dD w]).wp fun r => ∃ st : List Dep, r = (true, .lst (dsD st)) ∧ st.length ≤ 6 ∧ ∀ d ∈ st, d ∈ ds ∧ d.2 ∉ w.1 := by
  have he : en0 9 [.drw, .lst (dsD ds), dD w] = [some (.fz, .drw), some (.fz, .lst (dsD ds)), some (.fz, dD w), none, none, none, none, none, none] := rfl
  have hR : r_w_made = (sSeq (sPar 3 4 (runN (rCons (run2 (rBor 2) (rC (.int 0)) fIx) rNil) fList) (rDisp mkL rNil)) (sSeq (sFor (iRange (rCons (rC (.int 6)) rNil)) none (tgN 5) madeR) (sSeq (sRet (rMov 4)) sNx))) := by
    unfold r_w_made madeR
    rfl
  have mt := fun k st t f => @made_turn ds w k st t f h hl
  have i0 := (ix_dep w).1
  have e1 : fList [.tup (Sl w.1)] = some1 (.lst (Sl w.1)) := rfl
  unfold f_w_made
  refine wp_fn ?_
  rw [he, hR]
  generalize madeR = R at mt ⊢
  have st0 : (sPar 3 4 (runN (rCons (run2 (rBor 2) (rC (.int 0)) fIx) rNil) fList) (rDisp mkL rNil)) [some (.fz, .drw), some (.fz, .lst (dsD ds)), some (.fz, dD w), none, none, none, none, none, none] = .ret (.nx, EM ds w w.1 [] none none) := by
    simp only [sSeq, sIf, sRet, sNx, sSet, sPar, sTgt, sDrop, toT, rOr, rAnd, rNot, rIf, runN, run1, run2, rCons, rNil, rBor, rVar, rMov, rC, rChn, rDisp, rCall, rSlice, oNone, oSome, ret1, frc, frcs, onlyV, valO, Op.fz, mkO, boolOf, intOf, itemsOf, iSeq, tgN, T.ret_bind, T.ofOpt, retO, putO, flOf, some0, some1, Option.bind_some, Option.map_some, List.getElem?_cons_zero, List.getElem?_cons_succ, List.set_cons_zero, List.set_cons_succ, List.length_cons, List.length_nil, mkL, mkT, small, Bool.not_true, Bool.not_false, if_true, if_false, Bool.false_eq_true, ite_true, ite_false, Nat.reduceAdd, Nat.reduceLT, Nat.reduceLeDiff, i0, e1]
    rfl
  refine wp_nx (wp_eq st0 ⟨_, rfl, ?_⟩)
  refine wp_nx ?_
  unfold sFor
  have it : (iRange (rCons (rC (.int 6)) rNil)) (EM ds w w.1 [] none none) = .ret ((List.range 6).map fun k => D.int (0 + (k : Nat)), EM ds w w.1 [] none none) := rfl
  rw [it, T.ret_bind]
  refine wp_loop (fun rest en => ∃ k st t f, en = EM ds w k st t f ∧ k.length + rest.length ≤ 11 ∧ st.length + rest.length ≤ 6 ∧ (∀ x ∈ w.1, x ∈ k) ∧ ∀ d ∈ st, d ∈ ds ∧ d.2 ∉ w.1) ?_ ?_ _ _ ⟨w.1, [], none, none, rfl, by simp; omega, by simp, fun x hx => hx, by simp⟩
  · rintro en ⟨k, st, t, f, rfl, _, s6, _, hin⟩
    refine ⟨_, rfl, ?_⟩
    refine wp_eq (x := (.rt (true, .lst (dsD st)), [some (.fz, .drw), some (.fz, .lst (dsD ds)), some (.fz, dD w), some (.ow, .lst (Sl k)), none, t, f, none, none])) rfl ⟨_, rfl, st, rfl, by simpa using s6, hin⟩
  · rintro d rest en ⟨k, st, t, f, rfl, k6, s6, hk, hin⟩
    rw [List.length_cons] at k6 s6
    refine ⟨EM ds w k st (some (.fz, d)) f, rfl, T.wp_mono (mt k st (some (.fz, d)) f (by omega) (by omega)) fun r ⟨q, k', st', f', e, kl, sl, sub, hs⟩ => .inl ⟨q, k', st', _, f', e, by omega, by omega, fun x hx => sub x (hk x hx), fun d hd => (hs d hd).elim (hin d) fun h => ⟨h.1, fun z => h.2 (hk _ z)⟩⟩⟩
end Sx
set_option Elab.async false
set_option linter.all false
set_option maxRecDepth 100000
set_option maxHeartbeats 1000000
set_option autoImplicit false
namespace Sx
open PySem L2
/-! bent lists -/
def Prs (n : Nat) (l : List D) : Prop := (∀ s ∈ l, Stp s) ∧ l.length ≤ n
theorem Prs.cut {n : Nat} {l : List D} (h : Prs n l) (lo hi : Option Int) : Prs n (cutD l lo hi) := by
  unfold cutD
  refine ⟨fun s hs => h.1 s (List.mem_of_mem_drop (List.mem_of_mem_take hs)), ?_⟩
  have := h.2
  rw [List.length_take, List.length_drop]
  omega
theorem Prs.rev {n : Nat} {l : List D} (h : Prs n l) : Prs n l.reverse := ⟨fun s hs => h.1 s (List.mem_reverse.mp hs), by rw [List.length_reverse]; exact h.2⟩
theorem Prs.app {n m : Nat} {l k : List D} (h : Prs n l) (g : Prs m k) : Prs (n + m) (l ++ k) := ⟨fun s hs => (List.mem_append.mp hs).elim (h.1 s) (g.1 s), by have := h.2; have := g.2; rw [List.length_append]; omega⟩
theorem Prs.one {s : D} (h : Stp s) : Prs 1 [s] := ⟨fun t ht => by rw [List.mem_singleton.mp ht]; exact h, by simp⟩
theorem Prs.thg {n m : Nat} {l : List D} (h : Prs n l) (hm : n ≤ m) : Thg m (.lst l) := .inl ⟨l, .inl rfl, h.1, Nat.le_trans h.2 hm⟩
theorem add_lst {a b : List D} (h : a.length + b.length ≤ 4096) : fAdd (.lst a) (.lst b) = some1 (.lst (a ++ b)) := by
  show (if a.length + b.length ≤ 4096 then some1 (.lst (a ++ b)) else none) = _
  rw [if_pos h]
theorem sl_lst (ss : List D) (a b : Option Int) : fSl (.lst ss) a b = some1 (.lst (cutD ss a b)) := rfl
theorem rev_lst (ss : List D) : fRev (.lst ss) = some1 (.lst ss.reverse) := rfl
abbrev EB (ss : List D) (ds : List Dep) (xs : List Str) (i j : Nat) (s6 s7 s8 : Slot) : En := [some (.fz, .drw), some (.fz, .lst ss), some (.fz, .lst (dsD ds)), some (.fz, .lst (Sl xs)), some (.fz, .int (i : Nat)), some (.fz, .int (j : Nat)), s6, s7, s8]
section
variable {ss : List D} {ds : List Dep} {xs : List Str} {i j n : Nat} {s6 s7 s8 : Slot}
theorem w_one (h : Prs n ss) (hn : n ≤ 100) : ∃ l, (run2 (rSlice (rBor 1) oNone (oSome (rVar 5))) (rSlice (rBor 1) (oSome (run2 (rBor 5) (rC (.int 1)) fAdd)) oNone) fAdd) (EB ss ds xs i j s6 s7 s8) = .ret (.fr (.lst l), EB ss ds xs i j s6 s7 s8) ∧ Prs (3 * n + 1) l := by
  have e1 : fAdd (.int (j : Nat)) (.int 1) = some0 (.int ((j : Int) + 1)) := rfl
  have p := h.cut none (some (j : Int))
  have q := h.cut (some ((j : Int) + 1)) none
  have e2 := add_lst (a := cutD ss none (some (j : Int))) (b := cutD ss (some ((j : Int) + 1)) none) (by have := p.2; have := q.2; omega)
  refine ⟨_, ?_, (p.app q).1, Nat.le_trans (p.app q).2 (by omega)⟩
  simp only [EB, sSeq, sIf, sRet, sNx, sSet, sPar, sTgt, sDrop, toT, rOr, rAnd, rNot, rIf, runN, run1, run2, rCons, rNil, rBor, rVar, rMov, rC, rChn, rDisp, rCall, rSlice, oNone, oSome, ret1, frc, frcs, onlyV, valO, Op.fz, mkO, boolOf, intOf, itemsOf, iSeq, tgN, T.ret_bind, T.ofOpt, retO, putO, flOf, some0, some1, Option.bind_some, Option.map_some, List.getElem?_cons_zero, List.getElem?_cons_succ, List.set_cons_zero, List.set_cons_succ, List.length_cons, List.length_nil, mkL, mkT, small, Bool.not_true, Bool.not_false, if_true, if_false, Bool.false_eq_true, ite_true, ite_false, Nat.reduceAdd, Nat.reduceLT, Nat.reduceLeDiff, e1, sl_lst, e2]
theorem w_two (h : Prs n ss) (hn : n ≤ 100) : ∃ l, (run2 (run2 (rSlice (rBor 1) oNone (oSome (rVar 5))) (run1 (rSlice (rBor 1) (oSome (rVar 5)) (oSome (run2 (rBor 5) (rC (.int 2)) fAdd))) fRev) fAdd) (rSlice (rBor 1) (oSome (run2 (rBor 5) (rC (.int 2)) fAdd)) oNone) fAdd) (EB ss ds xs i j s6 s7 s8) = .ret (.fr (.lst l), EB ss ds xs i j s6 s7 s8) ∧ Prs (3 * n + 1) l := by
  have e1 : fAdd (.int (j : Nat)) (.int 2) = some0 (.int ((j : Int) + 2)) := rfl
  have p := h.cut none (some (j : Int))
  have q := (h.cut (some (j : Int)) (some ((j : Int) + 2))).rev
  have r := h.cut (some ((j : Int) + 2)) none
  have e2 := add_lst (a := cutD ss none (some (j : Int))) (b := (cutD ss (some (j : Int)) (some ((j : Int) + 2))).reverse) (by have := p.2; have := q.2; omega)
  have e3 := add_lst (a := cutD ss none (some (j : Int)) ++ (cutD ss (some (j : Int)) (some ((j : Int) + 2))).reverse) (b := cutD ss (some ((j : Int) + 2)) none) (by have := (p.app q).2; have := r.2; omega)
  refine ⟨_, ?_, ((p.app q).app r).1, Nat.le_trans ((p.app q).app r).2 (by omega)⟩
  simp only [EB, sSeq, sIf, sRet, sNx, sSet, sPar, sTgt, sDrop, toT, rOr, rAnd, rNot, rIf, runN, run1, run2, rCons, rNil, rBor, rVar, rMov, rC, rChn, rDisp, rCall, rSlice, oNone, oSome, ret1, frc, frcs, onlyV, valO, Op.fz, mkO, boolOf, intOf, itemsOf, iSeq, tgN, T.ret_bind, T.ofOpt, retO, putO, flOf, some0, some1, Option.bind_some, Option.map_some, List.getElem?_cons_zero, List.getElem?_cons_succ, List.set_cons_zero, List.set_cons_succ, List.length_cons, List.length_nil, mkL, mkT, small, Bool.not_true, Bool.not_false, if_true, if_false, Bool.false_eq_true, ite_true, ite_false, Nat.reduceAdd, Nat.reduceLT, Nat.reduceLeDiff, e1, sl_lst, rev_lst, e2, e3]
theorem w_three (h : Prs n ss) (hn : n ≤ 100) : ∃ l, (run2 (run2 (rSlice (rBor 1) oNone (oSome (rVar 5))) (rSlice (rBor 1) (oSome (rVar 5)) (oSome (run2 (rBor 5) (rC (.int 1)) fAdd))) fAdd) (rSlice (rBor 1) (oSome (rVar 5)) oNone) fAdd) (EB ss ds xs i j s6 s7 s8) = .ret (.fr (.lst l), EB ss ds xs i j s6 s7 s8) ∧ Prs (3 * n + 1) l := by
  have e1 : fAdd (.int (j : Nat)) (.int 1) = some0 (.int ((j : Int) + 1)) := rfl
  have p := h.cut none (some (j : Int))
  have q := h.cut (some (j : Int)) (some ((j : Int) + 1))
  have r := h.cut (some (j : Int)) none
  have e2 := add_lst (a := cutD ss none (some (j : Int))) (b := cutD ss (some (j : Int)) (some ((j : Int) + 1))) (by have := p.2; have := q.2; omega)
  have e3 := add_lst (a := cutD ss none (some (j : Int)) ++ cutD ss (some (j : Int)) (some ((j : Int) + 1))) (b := cutD ss (some (j : Int)) none) (by have := (p.app q).2; have := r.2; omega)
  refine ⟨_, ?_, ((p.app q).app r).1, Nat.le_trans ((p.app q).app r).2 (by omega)⟩
  simp only [EB, sSeq, sIf, sRet, sNx, sSet, sPar, sTgt, sDrop, toT, rOr, rAnd, rNot, rIf, runN, run1, run2, rCons, rNil, rBor, rVar, rMov, rC, rChn, rDisp, rCall, rSlice, oNone, oSome, ret1, frc, frcs, onlyV, valO, Op.fz, mkO, boolOf, intOf, itemsOf, iSeq, tgN, T.ret_bind, T.ofOpt, retO, putO, flOf, some0, some1, Option.bind_some, Option.map_some, List.getElem?_cons_zero, List.getElem?_cons_succ, List.set_cons_zero, List.set_cons_succ, List.length_cons, List.length_nil, mkL, mkT, small, Bool.not_true, Bool.not_false, if_true, if_false, Bool.false_eq_true, ite_true, ite_false, Nat.reduceAdd, Nat.reduceLT, Nat.reduceLeDiff, e1, sl_lst, e2, e3]
end
end Sx
set_option Elab.async false
set_option linter.all false
set_option maxRecDepth 100000
set_option maxHeartbeats 1000000
set_option autoImplicit false
namespace Sx
open PySem L2
section
variable {ss : List D} {ds : List Dep} {xs : List Str} {i j n : Nat} {s6 s7 s8 : Slot}
def loOk (lo : RunO) : Prop := ∀ (ss : List D) (ds : List Dep) (xs : List Str) (i j : Nat) (s6 s7 s8 : Slot), ∃ a, lo (EB ss ds xs i j s6 s7 s8) = .ret (a, EB ss ds xs i j s6 s7 s8)
theorem lo_at : loOk (oSome (rVar 5)) := fun ss ds xs i j s6 s7 s8 => ⟨some (j : Int), rfl⟩
theorem lo_next : loOk (oSome (run2 (rBor 5) (rC (.int 1)) fAdd)) := fun ss ds xs i j s6 s7 s8 => ⟨some ((j : Int) + 1), rfl⟩
theorem w_put {rx : Run} {lo : RunO} (h : Prs n ss) (hn : n ≤ 100) (hlo : loOk lo) (hx : (rx (EB ss ds xs i j s6 s7 s8)).wp fun o => ∃ s s8', Stp s ∧ o = (.v s, EB ss ds xs i j s6 s7 s8')) :
    (run2 (run2 (rSlice (rBor 1) oNone (oSome (rVar 5))) (rDisp mkL (rCons rx rNil)) fAdd) (rSlice (rBor 1) lo oNone) fAdd (EB ss ds xs i j s6 s7 s8)).wp fun o => ∃ l s8', o = (.fr (.lst l), EB ss ds xs i j s6 s7 s8') ∧ Prs (3 * n + 1) l := by
  have p := h.cut none (some (j : Int))
  have c1 : (rSlice (rBor 1) oNone (oSome (rVar 5))) (EB ss ds xs i j s6 s7 s8) = .ret (.fr (.lst (cutD ss none (some (j : Int)))), EB ss ds xs i j s6 s7 s8) := by
    simp only [EB, sSeq, sIf, sRet, sNx, sSet, sPar, sTgt, sDrop, toT, rOr, rAnd, rNot, rIf, runN, run1, run2, rCons, rNil, rBor, rVar, rMov, rC, rChn, rDisp, rCall, rSlice, oNone, oSome, ret1, frc, frcs, onlyV, valO, Op.fz, mkO, boolOf, intOf, itemsOf, iSeq, tgN, T.ret_bind, T.ofOpt, retO, putO, flOf, some0, some1, Option.bind_some, Option.map_some, List.getElem?_cons_zero, List.getElem?_cons_succ, List.set_cons_zero, List.set_cons_succ, List.length_cons, List.length_nil, mkL, mkT, small, Bool.not_true, Bool.not_false, if_true, if_false, Bool.false_eq_true, ite_true, ite_false, Nat.reduceAdd, Nat.reduceLT, Nat.reduceLeDiff, sl_lst]
  refine wp_run2 (wp_run2 (wp_eq c1 (wp_disp (wp_cons (T.wp_mono hx fun o ⟨s, s8', st, e⟩ => ?_)))))
  subst e
  refine wp_eq (x := ([], EB ss ds xs i j s6 s7 s8')) rfl ⟨(true, .lst [s]), rfl, (true, .lst (cutD ss none (some (j : Int)) ++ [s])), ?_, ?_⟩
  · show fAdd (.lst (cutD ss none (some (j : Int)))) (.lst [s]) = _
    exact add_lst (by have := p.2; simp; omega)
  · obtain ⟨a, ea⟩ := hlo ss ds xs i j s6 s7 s8'
    have q := h.cut a none
    have c2 : (rSlice (rBor 1) lo oNone) (EB ss ds xs i j s6 s7 s8') = .ret (.fr (.lst (cutD ss a none)), EB ss ds xs i j s6 s7 s8') := by
      unfold rSlice
      show ((lo (EB ss ds xs i j s6 s7 s8')).bind _) = _
      rw [ea]
      rfl
    have pq := (p.app (Prs.one st)).app q
    refine wp_eq c2 ⟨(true, .lst (cutD ss none (some (j : Int)) ++ [s] ++ cutD ss a none)), ?_, _, s8', rfl, pq.1, Nat.le_trans pq.2 (by omega)⟩
    show fAdd (.lst (cutD ss none (some (j : Int)) ++ [s])) (.lst (cutD ss a none)) = _
    exact add_lst (by have := (p.app (Prs.one st)).2; have := q.2; omega)
end
end Sx
set_option Elab.async false
set_option linter.all false
set_option maxRecDepth 100000
set_option maxHeartbeats 1000000
set_option autoImplicit false
namespace Sx
open PySem L2
/-! a bent list: one change -/
theorem Stp.tup {ps : List D} (hp : ∀ p ∈ ps, Prt p) (hl : ps.length ≤ 3) : Stp (.tup ps) := .inr ⟨ps, hp, hl, .inl rfl⟩
theorem Stp.lst {ps : List D} (hp : ∀ p ∈ ps, Prt p) (hl : ps.length ≤ 3) : Stp (.lst ps) := .inr ⟨ps, hp, hl, .inr rfl⟩
theorem prt2 {p q : D} (hp : Prt p) (hq : Prt q) : ∀ x ∈ [p, q], Prt x := fun x hx => by
  rcases List.mem_cons.mp hx with rfl | hx
  · exact hp
  · rw [List.mem_singleton.mp hx]; exact hq
theorem prt3 {p q r : D} (hp : Prt p) (hq : Prt q) (hr : Prt r) : ∀ x ∈ [p, q, r], Prt x := fun x hx => by
  rcases List.mem_cons.mp hx with rfl | hx
  · exact hp
  · exact prt2 hq hr x hx
/-- what one change may give -/
def Bnt (n : Nat) (r : Fl × En) : Prop := ∃ b t, flOf r.1 = some (b, t) ∧ Thg (3 * n + 1) t
def oddR : RunS := (sSeq (sTgt (tgTup 2 (tgCons (tgN 6) (tgCons (tgN 7) tgNil))) (run2 (rBor 1) (rBor 5) fIx))
    (sSeq (sSet 8 (rDisp mkL (rCons (rDisp mkT (rCons (rVar 6) (rCons (rCall f_w_pick (rCons (rVar 0) (rCons (rVar 3) rNil))) rNil))) (rCons (rDisp mkL (rCons (rVar 6) (rCons (rVar 7) rNil))) (rCons (rDisp mkT (rCons (rVar 6) (rCons (rVar 7) (rCons (rVar 7) rNil)))) (rCons (rDisp mkT (rCons (rVar 7) (rCons (rVar 6) rNil))) (rCons (rDisp mkT (rCons (rVar 6) (rCons (rC .non) rNil))) rNil)))))))
    (sSeq (sDrop (rApp 8 (rDisp mkT (rCons (rDisp mkT rNil) (rCons (rVar 7) rNil)))))
    (sSeq (sRet (run2 (run2 (rSlice (rBor 1) oNone (oSome (rVar 5))) (rDisp mkL (rCons (rCall f_w_pick (rCons (rVar 0) (rCons (rVar 8) rNil))) rNil)) fAdd) (rSlice (rBor 1) (oSome (run2 (rBor 5) (rC (.int 1)) fAdd)) oNone) fAdd))
    sNx))))
section
variable {ss : List D} {ds : List Dep} {xs : List Str} {i j n : Nat} {s6 s7 s8 : Slot}
theorem odd_wp (h : Prs n ss) (hn : n ≤ 100) (h0 : xs ≠ []) (hx : ∀ x ∈ xs, Nm x) (xl : xs.length ≤ 5) {p q : D} (hj : ss[j]? = some (.tup [p, q])) : (oddR (EB ss ds xs i j s6 s7 s8)).wp (Bnt n) := by
  obtain ⟨pp, pq⟩ : Prt p ∧ Prt q := by
    rcases h.1 _ (List.mem_of_getElem? hj) with e | ⟨ps, hp, _, e | e⟩
    · cases e
    · cases e
      exact ⟨hp p List.mem_cons_self, hp q (List.mem_cons_of_mem _ List.mem_cons_self)⟩
    · cases e
  have e1 := ix_lst hj
  unfold oddR
  have st1 : (sTgt (tgTup 2 (tgCons (tgN 6) (tgCons (tgN 7) tgNil))) (run2 (rBor 1) (rBor 5) fIx)) (EB ss ds xs i j s6 s7 s8) = .ret (.nx, EB ss ds xs i j (some (.fz, p)) (some (.fz, q)) s8) := by
    simp only [EB, sSeq, sIf, sRet, sNx, sSet, sPar, sTgt, sDrop, toT, rOr, rAnd, rNot, rIf, runN, run1, run2, rCons, rNil, rBor, rVar, rMov, rC, rChn, rDisp, rCall, rSlice, oNone, oSome, ret1, frc, frcs, onlyV, valO, Op.fz, mkO, boolOf, intOf, itemsOf, iSeq, tgN, T.ret_bind, T.ofOpt, retO, putO, flOf, some0, some1, Option.bind_some, Option.map_some, List.getElem?_cons_zero, List.getElem?_cons_succ, List.set_cons_zero, List.set_cons_succ, List.length_cons, List.length_nil, mkL, mkT, small, Bool.not_true, Bool.not_false, if_true, if_false, Bool.false_eq_true, ite_true, ite_false, Nat.reduceAdd, Nat.reduceLT, Nat.reduceLeDiff, e1]
    rfl
  refine wp_nx (wp_eq st1 ⟨_, rfl, ?_⟩)
  refine wp_nx (wp_set (wp_disp (wp_cons (wp_disp (wp_cons (wp_eq (x := (.v p, EB ss ds xs i j (some (.fz, p)) (some (.fz, q)) s8)) rfl (wp_cons (wp_call (wp_eq (x := ([.v .drw, .v (.lst (Sl xs))], EB ss ds xs i j (some (.fz, p)) (some (.fz, q)) s8)) rfl ⟨_, rfl, pick_wp (fun z => h0 (by simpa [Sl] using z)) (by unfold Sl; rw [List.length_map]; omega) fun x hx' => ?_⟩)))))))))
  obtain ⟨y, hy, rfl⟩ := List.mem_map.mp hx'
  refine wp_eq (x := ([], EB ss ds xs i j (some (.fz, p)) (some (.fz, q)) s8)) rfl ⟨(false, .tup [p, .str y]), rfl, ?_⟩
  refine wp_eq (x := ([.v (.lst [p, q]), .v (.tup [p, q, q]), .v (.tup [q, p]), .v (.tup [p, .non])], EB ss ds xs i j (some (.fz, p)) (some (.fz, q)) s8)) rfl ⟨(true, .lst [.tup [p, .str y], .lst [p, q], .tup [p, q, q], .tup [q, p], .tup [p, .non]]), rfl, ?_⟩
  refine ⟨EB ss ds xs i j (some (.fz, p)) (some (.fz, q)) (some (.ow, .lst [.tup [p, .str y], .lst [p, q], .tup [p, q, q], .tup [q, p], .tup [p, .non]])), rfl, _, rfl, ?_⟩
  let odd : List D := [.tup [p, .str y], .lst [p, q], .tup [p, q, q], .tup [q, p], .tup [p, .non], .tup [.tup [], q]]
  have st2 : (sDrop (rApp 8 (rDisp mkT (rCons (rDisp mkT rNil) (rCons (rVar 7) rNil))))) (EB ss ds xs i j (some (.fz, p)) (some (.fz, q)) (some (.ow, .lst [.tup [p, .str y], .lst [p, q], .tup [p, q, q], .tup [q, p], .tup [p, .non]]))) = .ret (.nx, EB ss ds xs i j (some (.fz, p)) (some (.fz, q)) (some (.ow, .lst odd))) := rfl
  refine wp_nx (wp_eq st2 ⟨_, rfl, ?_⟩)
  refine wp_seq (wp_ret (T.wp_mono (w_put (lo := oSome (run2 (rBor 5) (rC (.int 1)) fAdd)) h hn lo_next (wp_call (wp_eq (x := ([.v .drw, .v (.lst odd)], EB ss ds xs i j (some (.fz, p)) (some (.fz, q)) (some (.fz, .lst odd)))) rfl ⟨_, rfl, pick_wp (by simp [odd]) (by simp [odd]) fun x hx' => ⟨x, some (.fz, .lst odd), ?_, rfl⟩⟩))) fun o ⟨l, s8', e, pr⟩ => ?_))
  · have py : Prt (.str y) := .inr (.inl ⟨y, rfl, hx y hy⟩)
    have pe : Prt (.tup []) := .inr (.inr ⟨[], rfl, by simp, by simp⟩)
    simp only [odd, List.mem_cons, List.not_mem_nil, or_false] at hx'
    rcases hx' with rfl | rfl | rfl | rfl | rfl | rfl
    · exact Stp.tup (prt2 pp py) (by simp)
    · exact Stp.lst (prt2 pp pq) (by simp)
    · exact Stp.tup (prt3 pp pq pq) (by simp)
    · exact Stp.tup (prt2 pq pp) (by simp)
    · exact Stp.tup (prt2 pp (.inl rfl)) (by simp)
    · exact Stp.tup (prt2 pe pq) (by simp)
  · subst e
    exact ⟨(true, .lst l), rfl, .inr ⟨(by intro z; cases z), true, .lst l, rfl, pr.thg (Nat.le_refl _)⟩⟩
end
def keepR : RunS := (sSeq (sIf (toT (rOr (run2 (rBor 5) (runN (rCons (rBor 1) rNil) fLen) fEq) (rOr (rNot (runN (rCons (run2 (rBor 1) (rBor 5) fIx) (rCons (rC (.ty "tuple")) rNil)) fIsi)) (run2 (runN (rCons (run2 (rBor 1) (rBor 5) fIx) rNil) fLen) (rC (.int 2)) fNe)))) (sSeq (sRet (rMov 1)) sNx) sNx) oddR)
section
variable {ss : List D} {ds : List Dep} {xs : List Str} {i j n : Nat} {s6 s7 s8 : Slot}
theorem keep_wp (h : Prs n ss) (hn : n ≤ 100) (h0 : xs ≠ []) (hx : ∀ x ∈ xs, Nm x) (xl : xs.length ≤ 5) (hj : j ≤ ss.length) : (keepR (EB ss ds xs i j s6 s7 s8)).wp (Bnt n) := by
  have ow := fun p q => @odd_wp ss ds xs i j n s6 s7 s8 h hn h0 hx xl p q
  unfold keepR
  generalize oddR = R at ow ⊢
  have e1 : fLen [.lst ss] = some0 (.int (ss.length : Nat)) := rfl
  have e2 := fEq_int (j : Nat) (ss.length : Nat)
  have back : ∀ {R : RunS}, (sIf (toT (rOr (run2 (rBor 5) (runN (rCons (rBor 1) rNil) fLen) fEq) (rOr (rNot (runN (rCons (run2 (rBor 1) (rBor 5) fIx) (rCons (rC (.ty "tuple")) rNil)) fIsi)) (run2 (runN (rCons (run2 (rBor 1) (rBor 5) fIx) rNil) fLen) (rC (.int 2)) fNe)))) (sSeq (sRet (rMov 1)) sNx) sNx) (EB ss ds xs i j s6 s7 s8) = .ret (.rt (false, .lst ss), EB ss ds xs i j s6 s7 s8) → (sSeq (sIf (toT (rOr (run2 (rBor 5) (runN (rCons (rBor 1) rNil) fLen) fEq) (rOr (rNot (runN (rCons (run2 (rBor 1) (rBor 5) fIx) (rCons (rC (.ty "tuple")) rNil)) fIsi)) (run2 (runN (rCons (run2 (rBor 1) (rBor 5) fIx) rNil) fLen) (rC (.int 2)) fNe)))) (sSeq (sRet (rMov 1)) sNx) sNx) R (EB ss ds xs i j s6 s7 s8)).wp (Bnt n) := fun e => wp_seq (wp_eq e (.inr ⟨(by intro z; cases z), false, .lst ss, rfl, h.thg (by omega)⟩))
  by_cases z : j = ss.length
  · rw [decide_eq_true (by omega)] at e2
    refine back ?_
    simp only [EB, sSeq, sIf, sRet, sNx, sSet, sPar, sTgt, sDrop, toT, rOr, rAnd, rNot, rIf, runN, run1, run2, rCons, rNil, rBor, rVar, rMov, rC, rChn, rDisp, rCall, rSlice, oNone, oSome, ret1, frc, frcs, onlyV, valO, Op.fz, mkO, boolOf, intOf, itemsOf, iSeq, tgN, T.ret_bind, T.ofOpt, retO, putO, flOf, some0, some1, Option.bind_some, Option.map_some, List.getElem?_cons_zero, List.getElem?_cons_succ, List.set_cons_zero, List.set_cons_succ, List.length_cons, List.length_nil, mkL, mkT, small, Bool.not_true, Bool.not_false, if_true, if_false, Bool.false_eq_true, ite_true, ite_false, Nat.reduceAdd, Nat.reduceLT, Nat.reduceLeDiff, e1, e2]
  · rw [decide_eq_false (by omega)] at e2
    obtain ⟨s, hs⟩ : ∃ s, ss[j]? = some s := ⟨_, List.getElem?_eq_getElem (by omega)⟩
    have e3 := ix_lst hs
    have other : fIsi [s, .ty "tuple"] = some0 (.bl false) → (sSeq (sIf (toT (rOr (run2 (rBor 5) (runN (rCons (rBor 1) rNil) fLen) fEq) (rOr (rNot (runN (rCons (run2 (rBor 1) (rBor 5) fIx) (rCons (rC (.ty "tuple")) rNil)) fIsi)) (run2 (runN (rCons (run2 (rBor 1) (rBor 5) fIx) rNil) fLen) (rC (.int 2)) fNe)))) (sSeq (sRet (rMov 1)) sNx) sNx) R (EB ss ds xs i j s6 s7 s8)).wp (Bnt n) := fun e4 => back (by simp only [EB, sSeq, sIf, sRet, sNx, sSet, sPar, sTgt, sDrop, toT, rOr, rAnd, rNot, rIf, runN, run1, run2, rCons, rNil, rBor, rVar, rMov, rC, rChn, rDisp, rCall, rSlice, oNone, oSome, ret1, frc, frcs, onlyV, valO, Op.fz, mkO, boolOf, intOf, itemsOf, iSeq, tgN, T.ret_bind, T.ofOpt, retO, putO, flOf, some0, some1, Option.bind_some, Option.map_some, List.getElem?_cons_zero, List.getElem?_cons_succ, List.set_cons_zero, List.set_cons_succ, List.length_cons, List.length_nil, mkL, mkT, small, Bool.not_true, Bool.not_false, if_true, if_false, Bool.false_eq_true, ite_true, ite_false, Nat.reduceAdd, Nat.reduceLT, Nat.reduceLeDiff, e1, e2, e3, e4])
    rcases h.1 _ (List.mem_of_getElem? hs) with rfl | ⟨ps, _, _, rfl | rfl⟩
    · exact other rfl
    · have e4 : fIsi [.tup ps, .ty "tuple"] = some0 (.bl true) := rfl
      have e5 : fLen [.tup ps] = some0 (.int (ps.length : Nat)) := rfl
      by_cases h2 : ps.length = 2
      · match ps, h2 with
        | [p, q], _ =>
          have e5 : fLen [.tup [p, q]] = some0 (.int 2) := rfl
          have e6 : fNe (.int 2) (.int 2) = some0 (.bl false) := rfl
          refine wp_nx (wp_eq (x := (.nx, EB ss ds xs i j s6 s7 s8)) (by simp only [EB, sSeq, sIf, sRet, sNx, sSet, sPar, sTgt, sDrop, toT, rOr, rAnd, rNot, rIf, runN, run1, run2, rCons, rNil, rBor, rVar, rMov, rC, rChn, rDisp, rCall, rSlice, oNone, oSome, ret1, frc, frcs, onlyV, valO, Op.fz, mkO, boolOf, intOf, itemsOf, iSeq, tgN, T.ret_bind, T.ofOpt, retO, putO, flOf, some0, some1, Option.bind_some, Option.map_some, List.getElem?_cons_zero, List.getElem?_cons_succ, List.set_cons_zero, List.set_cons_succ, List.length_cons, List.length_nil, mkL, mkT, small, Bool.not_true, Bool.not_false, if_true, if_false, Bool.false_eq_true, ite_true, ite_false, Nat.reduceAdd, Nat.reduceLT, Nat.reduceLeDiff, e1, e2, e3, e4, e5, e6]) ⟨_, rfl, ow p q hs⟩)
      · have e6 : fNe (.int (ps.length : Nat)) (.int 2) = some0 (.bl true) := by
          have e3 : fNe (.int (ps.length : Nat)) (.int 2) = some0 (.bl (decide ((ps.length : Int) ≠ 2))) := by
            rw [fNe_pd (.int _ 0) (.int 2 0) (by decide)]
            simp
          rw [e3, decide_eq_true (by omega)]
        exact back (by simp only [EB, sSeq, sIf, sRet, sNx, sSet, sPar, sTgt, sDrop, toT, rOr, rAnd, rNot, rIf, runN, run1, run2, rCons, rNil, rBor, rVar, rMov, rC, rChn, rDisp, rCall, rSlice, oNone, oSome, ret1, frc, frcs, onlyV, valO, Op.fz, mkO, boolOf, intOf, itemsOf, iSeq, tgN, T.ret_bind, T.ofOpt, retO, putO, flOf, some0, some1, Option.bind_some, Option.map_some, List.getElem?_cons_zero, List.getElem?_cons_succ, List.set_cons_zero, List.set_cons_succ, List.length_cons, List.length_nil, mkL, mkT, small, Bool.not_true, Bool.not_false, if_true, if_false, Bool.false_eq_true, ite_true, ite_false, Nat.reduceAdd, Nat.reduceLT, Nat.reduceLeDiff, e1, e2, e3, e4, e5, e6])
    · exact other rfl
end
end Sx
set_option Elab.async false
set_option linter.all false
set_option maxRecDepth 100000
set_option maxHeartbeats 1000000
set_option autoImplicit false
namespace Sx
open PySem L2
theorem wp_alt {rc : RunT} {ra : Run} {R : RunS} {en : En} {b : Bool} {Q : Fl × En → Prop} (c : rc en = .ret (b, en)) (yes : b = true → (ra en).wp fun o => ∃ c, retO o.1 = some c ∧ Q (.rt c, o.2)) (no : b = false → (R en).wp Q) : (sSeq (sIf rc (sSeq (sRet ra) sNx) sNx) R en).wp Q := by
  cases b with
  | true =>
    refine wp_seq (wp_if (wp_eq c ?_))
    rw [if_pos rfl]
    exact wp_seq (wp_ret (T.wp_mono (yes rfl) fun o ⟨c, e, q⟩ => ⟨c, e, .inr ⟨(by intro z; cases z), .inr ⟨(by intro z; cases z), q⟩⟩⟩))
  | false =>
    refine wp_seq (wp_if (wp_eq c ?_))
    rw [if_neg (by intro z; cases z)]
    exact .inl ⟨en, rfl, no rfl⟩
section
variable {ss : List D} {ds : List Dep} {xs : List Str} {i j n : Nat} {s6 s7 s8 : Slot}
theorem way_run (m : Int) : (toT (run2 (rBor 4) (rC (.int m)) fEq)) (EB ss ds xs i j s6 s7 s8) = .ret (decide ((i : Int) = m), EB ss ds xs i j s6 s7 s8) := by
  have e := fEq_int (i : Nat) m
  simp only [EB, sSeq, sIf, sRet, sNx, sSet, sPar, sTgt, sDrop, toT, rOr, rAnd, rNot, rIf, runN, run1, run2, rCons, rNil, rBor, rVar, rMov, rC, rChn, rDisp, rCall, rSlice, oNone, oSome, ret1, frc, frcs, onlyV, valO, Op.fz, mkO, boolOf, intOf, itemsOf, iSeq, tgN, T.ret_bind, T.ofOpt, retO, putO, flOf, some0, some1, Option.bind_some, Option.map_some, List.getElem?_cons_zero, List.getElem?_cons_succ, List.set_cons_zero, List.set_cons_succ, List.length_cons, List.length_nil, mkL, mkT, small, Bool.not_true, Bool.not_false, if_true, if_false, Bool.false_eq_true, ite_true, ite_false, Nat.reduceAdd, Nat.reduceLT, Nat.reduceLeDiff, e]
def w5R : RunS := (sSeq (sIf (toT (run2 (rBor 4) (rC (.int 5)) fEq)) (sSeq (sRet (run2 (run2 (rSlice (rBor 1) oNone (oSome (rVar 5))) (rDisp mkL (rCons (rCall f_w_dependency (rCons (rVar 0) (rCons (rVar 3) rNil))) rNil)) fAdd) (rSlice (rBor 1) (oSome (run2 (rBor 5) (rC (.int 1)) fAdd)) oNone) fAdd)) sNx) sNx) keepR)
theorem w5_wp (h : Prs n ss) (hn : n ≤ 100) (h0 : xs ≠ []) (nd : xs.Nodup) (hx : ∀ x ∈ xs, Nm x) (xl : xs.length ≤ 5) (hj : j ≤ ss.length) : (w5R (EB ss ds xs i j s6 s7 s8)).wp (Bnt n) := by
  have kw := @keep_wp ss ds xs i j n s6 s7 s8 h hn h0 hx xl hj
  have dw := dep_wp h0 nd hx (by omega)
  unfold w5R
  generalize keepR = R at kw ⊢
  generalize f_w_dependency = F at dw ⊢
  refine wp_alt (way_run 5) (fun _ => ?_) fun _ => kw
  refine T.wp_mono (w_put (lo := oSome (run2 (rBor 5) (rC (.int 1)) fAdd)) h hn lo_next (wp_call (wp_eq (x := ([.v .drw, .v (.lst (Sl xs))], EB ss ds xs i j s6 s7 s8)) rfl ⟨_, rfl, T.wp_mono dw fun r ⟨d, e, ok, _, _, l⟩ => ⟨dD d, s8, dep_stp ok (by omega), by rw [e]; rfl⟩⟩))) fun o ⟨l, s8', e, pr⟩ => ?_
  subst e
  exact ⟨(true, .lst l), rfl, true, .lst l, rfl, pr.thg (Nat.le_refl _)⟩
def w4R : RunS := (sSeq (sIf (toT (rAnd (run2 (rBor 4) (rC (.int 4)) fEq) (run2 (rBor 2) (rDisp mkL rNil) fNe))) (sSeq (sRet (run2 (run2 (rSlice (rBor 1) oNone (oSome (rVar 5))) (rDisp mkL (rCons (rCall f_w_pick (rCons (rVar 0) (rCons (rVar 2) rNil))) rNil)) fAdd) (rSlice (rBor 1) (oSome (rVar 5)) oNone) fAdd)) sNx) sNx) w5R)
theorem w4_wp (h : Prs n ss) (hn : n ≤ 100) (hd : ∀ d ∈ ds, DepOk d ∧ d.1.length ≤ 5) (hl : ds.length ≤ 4000) (h0 : xs ≠ []) (nd : xs.Nodup) (hx : ∀ x ∈ xs, Nm x) (xl : xs.length ≤ 5) (hj : j ≤ ss.length) : (w4R (EB ss ds xs i j s6 s7 s8)).wp (Bnt n) := by
  have kw := @w5_wp ss ds xs i j n s6 s7 s8 h hn h0 nd hx xl hj
  unfold w4R
  generalize w5R = R at kw ⊢
  have e1 := (eq_nil_cl (ss := dsD ds) (dsD_cp hd) (by decide)).2
  have e2 := fEq_int (i : Nat) 4
  have c : (toT (rAnd (run2 (rBor 4) (rC (.int 4)) fEq) (run2 (rBor 2) (rDisp mkL rNil) fNe))) (EB ss ds xs i j s6 s7 s8) = .ret (decide ((i : Int) = 4) && decide (dsD ds ≠ []), EB ss ds xs i j s6 s7 s8) := by
    by_cases z : (i : Int) = 4
    · rw [decide_eq_true z] at e2 ⊢
      simp only [EB, sSeq, sIf, sRet, sNx, sSet, sPar, sTgt, sDrop, toT, rOr, rAnd, rNot, rIf, runN, run1, run2, rCons, rNil, rBor, rVar, rMov, rC, rChn, rDisp, rCall, rSlice, oNone, oSome, ret1, frc, frcs, onlyV, valO, Op.fz, mkO, boolOf, intOf, itemsOf, iSeq, tgN, T.ret_bind, T.ofOpt, retO, putO, flOf, some0, some1, Option.bind_some, Option.map_some, List.getElem?_cons_zero, List.getElem?_cons_succ, List.set_cons_zero, List.set_cons_succ, List.length_cons, List.length_nil, mkL, mkT, small, Bool.not_true, Bool.not_false, if_true, if_false, Bool.false_eq_true, ite_true, ite_false, Nat.reduceAdd, Nat.reduceLT, Nat.reduceLeDiff, e2, e1, Bool.true_and]
    · rw [decide_eq_false z] at e2 ⊢
      simp only [EB, sSeq, sIf, sRet, sNx, sSet, sPar, sTgt, sDrop, toT, rOr, rAnd, rNot, rIf, runN, run1, run2, rCons, rNil, rBor, rVar, rMov, rC, rChn, rDisp, rCall, rSlice, oNone, oSome, ret1, frc, frcs, onlyV, valO, Op.fz, mkO, boolOf, intOf, itemsOf, iSeq, tgN, T.ret_bind, T.ofOpt, retO, putO, flOf, some0, some1, Option.bind_some, Option.map_some, List.getElem?_cons_zero, List.getElem?_cons_succ, List.set_cons_zero, List.set_cons_succ, List.length_cons, List.length_nil, mkL, mkT, small, Bool.not_true, Bool.not_false, if_true, if_false, Bool.false_eq_true, ite_true, ite_false, Nat.reduceAdd, Nat.reduceLT, Nat.reduceLeDiff, e2, Bool.false_and]
  refine wp_alt c (fun z => ?_) fun _ => kw
  have z := of_decide_eq_true (Bool.and_eq_true_iff.mp z).2
  refine T.wp_mono (w_put (lo := oSome (rVar 5)) h hn lo_at (wp_call (wp_eq (x := ([.v .drw, .v (.lst (dsD ds))], EB ss ds xs i j s6 s7 s8)) rfl ⟨_, rfl, pick_wp z (by unfold dsD; rw [List.length_map]; omega) fun x hx' => ?_⟩))) fun o ⟨l, s8', e, pr⟩ => ?_
  · obtain ⟨d, hd', rfl⟩ := mem_dsD_iff.mp hx'
    exact ⟨dD d, s8, dep_stp (hd d hd').1 (hd d hd').2, rfl⟩
  · subst e
    exact ⟨(true, .lst l), rfl, true, .lst l, rfl, pr.thg (Nat.le_refl _)⟩
def w1R (R : RunS) : RunS := (sSeq (sIf (toT (run2 (rBor 4) (rC (.int 1)) fEq)) (sSeq (sRet (run2 (rSlice (rBor 1) oNone (oSome (rVar 5))) (rSlice (rBor 1) (oSome (run2 (rBor 5) (rC (.int 1)) fAdd)) oNone) fAdd)) sNx) sNx)
    (sSeq (sIf (toT (run2 (rBor 4) (rC (.int 2)) fEq)) (sSeq (sRet (run2 (run2 (rSlice (rBor 1) oNone (oSome (rVar 5))) (run1 (rSlice (rBor 1) (oSome (rVar 5)) (oSome (run2 (rBor 5) (rC (.int 2)) fAdd))) fRev) fAdd) (rSlice (rBor 1) (oSome (run2 (rBor 5) (rC (.int 2)) fAdd)) oNone) fAdd)) sNx) sNx)
    (sSeq (sIf (toT (run2 (rBor 4) (rC (.int 3)) fEq)) (sSeq (sRet (run2 (run2 (rSlice (rBor 1) oNone (oSome (rVar 5))) (rSlice (rBor 1) (oSome (rVar 5)) (oSome (run2 (rBor 5) (rC (.int 1)) fAdd))) fAdd) (rSlice (rBor 1) (oSome (rVar 5)) oNone) fAdd)) sNx) sNx) R)))
theorem w1_wp {R : RunS} (h : Prs n ss) (hn : n ≤ 100) (k : (R (EB ss ds xs i j s6 s7 s8)).wp (Bnt n)) : (w1R R (EB ss ds xs i j s6 s7 s8)).wp (Bnt n) := by
  unfold w1R
  refine wp_alt (way_run 1) (fun _ => ?_) fun _ => wp_alt (way_run 2) (fun _ => ?_) fun _ => wp_alt (way_run 3) (fun _ => ?_) fun _ => k
  · obtain ⟨l, e, pr⟩ := w_one (ds := ds) (xs := xs) (i := i) (j := j) (s6 := s6) (s7 := s7) (s8 := s8) h hn
    exact wp_eq e ⟨(true, .lst l), rfl, true, .lst l, rfl, pr.thg (Nat.le_refl _)⟩
  · obtain ⟨l, e, pr⟩ := w_two (ds := ds) (xs := xs) (i := i) (j := j) (s6 := s6) (s7 := s7) (s8 := s8) h hn
    exact wp_eq e ⟨(true, .lst l), rfl, true, .lst l, rfl, pr.thg (Nat.le_refl _)⟩
  · obtain ⟨l, e, pr⟩ := w_three (ds := ds) (xs := xs) (i := i) (j := j) (s6 := s6) (s7 := s7) (s8 := s8) h hn
    exact wp_eq e ⟨(true, .lst l), rfl, true, .lst l, rfl, pr.thg (Nat.le_refl _)⟩
def w0R (R : RunS) : RunS := (sSeq (sIf (toT (run2 (rBor 4) (rC (.int 0)) fEq)) (sSeq (sRet (rCall f_w_pick (rCons (rVar 0) (rCons (rDisp mkL (rCons (rC .non) (rCons (rDisp mkT rNil) (rCons (runN (rCons (rBor 1) rNil) fTuple) (rCons (rDsp []) (rCons (rC (.str "a")) (rCons (rDisp mkL (rCons (rC .non) rNil)) (rCons (rDisp mkL (rCons (rDisp mkT rNil) rNil)) (rCons (rDisp mkL (rCons (rDisp mkT (rCons (rC (.str "a")) rNil)) rNil)) (rCons (rC (.int 5)) rNil)))))))))) rNil)))) sNx) sNx) R)
theorem w0_wp {R : RunS} (h : Prs n ss) (hn : n ≤ 100) (k : (R (EB ss ds xs i j s6 s7 s8)).wp (Bnt n)) : (w0R R (EB ss ds xs i j s6 s7 s8)).wp (Bnt n) := by
  unfold w0R
  refine wp_alt (way_run 0) (fun _ => ?_) fun _ => k
  have e : (rCons (rVar 0) (rCons (rDisp mkL (rCons (rC .non) (rCons (rDisp mkT rNil) (rCons (runN (rCons (rBor 1) rNil) fTuple) (rCons (rDsp []) (rCons (rC (.str "a")) (rCons (rDisp mkL (rCons (rC .non) rNil)) (rCons (rDisp mkL (rCons (rDisp mkT rNil) rNil)) (rCons (rDisp mkL (rCons (rDisp mkT (rCons (rC (.str "a")) rNil)) rNil)) (rCons (rC (.int 5)) rNil)))))))))) rNil)) (EB ss ds xs i j s6 s7 s8) = .ret ([.v .drw, .v (.lst [.non, .tup [], .tup ss, .dK [], .str "a", .lst [.non], .lst [.tup []], .lst [.tup [.str "a"]], .int 5])], EB ss ds xs i j s6 s7 s8) := by
    have e1 : fTuple [.lst ss] = some0 (.tup ss) := rfl
    rfl
  generalize (rCons (rVar 0) (rCons (rDisp mkL (rCons (rC .non) (rCons (rDisp mkT rNil) (rCons (runN (rCons (rBor 1) rNil) fTuple) (rCons (rDsp []) (rCons (rC (.str "a")) (rCons (rDisp mkL (rCons (rC .non) rNil)) (rCons (rDisp mkL (rCons (rDisp mkT rNil) rNil)) (rCons (rDisp mkL (rCons (rDisp mkT (rCons (rC (.str "a")) rNil)) rNil)) (rCons (rC (.int 5)) rNil)))))))))) rNil)) = A at e ⊢
  refine wp_call (wp_eq e ⟨_, rfl, pick_wp (by simp) (by simp) fun x hx => ⟨(false, x), rfl, false, x, rfl, ?_⟩⟩)
  have na : Nm "a" := nmB_ok (by decide +kernel)
  have lst : ∀ s, Stp s → Thg (3 * n + 1) (.lst [s]) := fun s hs => (Prs.one hs).thg (by omega)
  simp only [List.mem_cons, List.not_mem_nil, or_false] at hx
  rcases hx with rfl | rfl | rfl | rfl | rfl | rfl | rfl | rfl | rfl
  · exact .inr (.inl rfl)
  · exact .inl ⟨[], .inr rfl, by simp, by simp⟩
  · exact .inl ⟨ss, .inr rfl, h.1, by have := h.2; omega⟩
  · exact .inr (.inr (.inl rfl))
  · exact .inr (.inr (.inr (.inl rfl)))
  · exact lst _ (.inl rfl)
  · exact lst _ (Stp.tup (by simp) (by simp))
  · exact lst _ (Stp.tup (fun p hp => by rw [List.mem_singleton.mp hp]; exact .inr (.inl ⟨"a", rfl, na⟩)) (by simp))
  · exact .inr (.inr (.inr (.inr rfl)))
theorem bent_wp {t : D} (ht : Thg n t) (hn : n ≤ 100) (hd : ∀ d ∈ ds, DepOk d ∧ d.1.length ≤ 5) (hl : ds.length ≤ 4000) (h0 : xs ≠ []) (nd : xs.Nodup) (hx : ∀ x ∈ xs, Nm x) (xl : xs.length ≤ 5) :
    (f_w_bent [.drw, t, .lst (dsD ds), .lst (Sl xs)]).wp fun r => Thg (3 * n + 1) r.2 := by
  have he : en0 9 [.drw, t, .lst (dsD ds), .lst (Sl xs)] = [some (.fz, .drw), some (.fz, t), some (.fz, .lst (dsD ds)), some (.fz, .lst (Sl xs)), none, none, none, none, none] := rfl
  have hR : r_w_bent = (sSeq (sIf (toT (rNot (runN (rCons (rBor 1) (rCons (rC (.ty "list")) rNil)) fIsi))) (sSeq (sRet (rMov 1)) sNx) sNx)
    (sSeq (sPar 4 5 (rCall f_w_take (rCons (rVar 0) (rCons (rC (.int 8)) rNil))) (rCall f_w_take (rCons (rVar 0) (rCons (run2 (runN (rCons (rBor 1) rNil) fLen) (rC (.int 1)) fAdd) rNil)))) (w0R (w1R w4R)))) := by
    unfold r_w_bent w0R w1R w4R w5R keepR oddR
    rfl
  unfold f_w_bent
  refine wp_fn ?_
  rw [he, hR]
  have k4 := fun ss i j h hj => @w4_wp ss ds xs i j n none none none h hn hd hl h0 nd hx xl hj
  generalize w4R = R at k4 ⊢
  have other : fIsi [t, .ty "list"] = some0 (.bl false) → ∀ R : RunS, (sSeq (sIf (toT (rNot (runN (rCons (rBor 1) (rCons (rC (.ty "list")) rNil)) fIsi))) (sSeq (sRet (rMov 1)) sNx) sNx) R [some (.fz, .drw), some (.fz, t), some (.fz, .lst (dsD ds)), some (.fz, .lst (Sl xs)), none, none, none, none, none]).wp fun r => ∃ c, flOf r.1 = some c ∧ Thg (3 * n + 1) c.2 := fun e R => by
    have e2 : (sIf (toT (rNot (runN (rCons (rBor 1) (rCons (rC (.ty "list")) rNil)) fIsi))) (sSeq (sRet (rMov 1)) sNx) sNx) [some (.fz, .drw), some (.fz, t), some (.fz, .lst (dsD ds)), some (.fz, .lst (Sl xs)), none, none, none, none, none] = .ret (.rt (false, t), [some (.fz, .drw), some (.fz, t), some (.fz, .lst (dsD ds)), some (.fz, .lst (Sl xs)), none, none, none, none, none]) := by
      simp only [sSeq, sIf, sRet, sNx, sSet, sPar, sTgt, sDrop, toT, rOr, rAnd, rNot, rIf, runN, run1, run2, rCons, rNil, rBor, rVar, rMov, rC, rChn, rDisp, rCall, rSlice, oNone, oSome, ret1, frc, frcs, onlyV, valO, Op.fz, mkO, boolOf, intOf, itemsOf, iSeq, tgN, T.ret_bind, T.ofOpt, retO, putO, flOf, some0, some1, Option.bind_some, Option.map_some, List.getElem?_cons_zero, List.getElem?_cons_succ, List.set_cons_zero, List.set_cons_succ, List.length_cons, List.length_nil, mkL, mkT, small, Bool.not_true, Bool.not_false, if_true, if_false, Bool.false_eq_true, ite_true, ite_false, Nat.reduceAdd, Nat.reduceLT, Nat.reduceLeDiff, e]
    refine wp_seq (wp_eq e2 (.inr ⟨(by intro z; cases z), (false, t), rfl, ?_⟩))
    rcases ht with ⟨ss, e, hs, hm⟩ | ht
    · exact .inl ⟨ss, e, hs, by omega⟩
    · exact .inr ht
  rcases ht with ⟨ss, rfl | rfl, hs, hm⟩ | rfl | rfl | rfl | rfl
  · have e1 : fIsi [.lst ss, .ty "list"] = some0 (.bl true) := rfl
    have e2 : (sIf (toT (rNot (runN (rCons (rBor 1) (rCons (rC (.ty "list")) rNil)) fIsi))) (sSeq (sRet (rMov 1)) sNx) sNx) [some (.fz, .drw), some (.fz, .lst ss), some (.fz, .lst (dsD ds)), some (.fz, .lst (Sl xs)), none, none, none, none, none] = .ret (.nx, [some (.fz, .drw), some (.fz, .lst ss), some (.fz, .lst (dsD ds)), some (.fz, .lst (Sl xs)), none, none, none, none, none]) := by
      simp only [sSeq, sIf, sRet, sNx, sSet, sPar, sTgt, sDrop, toT, rOr, rAnd, rNot, rIf, runN, run1, run2, rCons, rNil, rBor, rVar, rMov, rC, rChn, rDisp, rCall, rSlice, oNone, oSome, ret1, frc, frcs, onlyV, valO, Op.fz, mkO, boolOf, intOf, itemsOf, iSeq, tgN, T.ret_bind, T.ofOpt, retO, putO, flOf, some0, some1, Option.bind_some, Option.map_some, List.getElem?_cons_zero, List.getElem?_cons_succ, List.set_cons_zero, List.set_cons_succ, List.length_cons, List.length_nil, mkL, mkT, small, Bool.not_true, Bool.not_false, if_true, if_false, Bool.false_eq_true, ite_true, ite_false, Nat.reduceAdd, Nat.reduceLT, Nat.reduceLeDiff, e1]
    refine wp_nx (wp_eq e2 ⟨_, rfl, ?_⟩)
    have k := fun i j hj => w0_wp (R := w1R R) (i := i) (j := j) ⟨hs, hm⟩ hn (w1_wp ⟨hs, hm⟩ hn (k4 ss i j ⟨hs, hm⟩ hj))
    generalize w0R (w1R R) = R0 at k ⊢
    have e3 := take_lit (n := 8) (by decide)
    have e4 : fLen [.lst ss] = some0 (.int (ss.length : Nat)) := rfl
    have e5 : fAdd (.int (ss.length : Nat)) (.int 1) = some0 (.int ((ss.length + 1 : Nat) : Int)) := rfl
    have e6 := take_run (n := ss.length + 1) (by omega) (by omega)
    refine wp_nx ?_
    simp only [sSeq, sIf, sRet, sNx, sSet, sPar, sTgt, sDrop, toT, rOr, rAnd, rNot, rIf, runN, run1, run2, rCons, rNil, rBor, rVar, rMov, rC, rChn, rDisp, rCall, rSlice, oNone, oSome, ret1, frc, frcs, onlyV, valO, Op.fz, mkO, boolOf, intOf, itemsOf, iSeq, tgN, T.ret_bind, T.ofOpt, retO, putO, flOf, some0, some1, Option.bind_some, Option.map_some, List.getElem?_cons_zero, List.getElem?_cons_succ, List.set_cons_zero, List.set_cons_succ, List.length_cons, List.length_nil, mkL, mkT, small, Bool.not_true, Bool.not_false, if_true, if_false, Bool.false_eq_true, ite_true, ite_false, Nat.reduceAdd, Nat.reduceLT, Nat.reduceLeDiff, e3, e4, e5, e6, ch_bind]
    intro i hi j hj
    exact ⟨_, rfl, T.wp_mono (k i j (by omega)) fun r ⟨b, t, e, q⟩ => ⟨(b, t), e, q⟩⟩
  · exact other rfl _
  · exact other rfl _
  · exact other rfl _
  · exact other rfl _
  · exact other rfl _
end
end Sx
set_option Elab.async false
set_option linter.all false
set_option maxRecDepth 100000
set_option maxHeartbeats 1000000
set_option autoImplicit false
namespace Sx
open PySem L2
/-! repr of the three things that are kept -/
theorem Cp.q1 {n b : Nat} {d : D} (h : Cp n b d) (hk : d = .non ∨ (∃ s, d = .str s) ∨ (∃ l, d = .lst l) ∨ ∃ l, d = .tup l) : ∃ p, pyQ1 d = some p ∧ p.showable = true ∧ p.leavesShort 1000 = true ∧ p.bulk ≤ b ∧ p.depth ≤ n := by
  obtain ⟨p, e1, e2, e3, e4⟩ := h
  obtain ⟨s1, s2, s3⟩ := cl_shows p e2
  refine ⟨p, ?_, s1, s3, e4, e3⟩
  rcases hk with rfl | ⟨s, rfl⟩ | ⟨l, rfl⟩ | ⟨l, rfl⟩
  · show (py .non).bind (fun p => if p.hasDict then none else some p) = _
    rw [e1]
    show (if p.hasDict then none else some p) = _
    rw [s2]
    rfl
  · show (py (.str s)).bind (fun p => if p.hasDict then none else some p) = _
    rw [e1]
    show (if p.hasDict then none else some p) = _
    rw [s2]
    rfl
  · show (py (.lst l)).bind (fun p => if p.hasDict then none else some p) = _
    rw [e1]
    show (if p.hasDict then none else some p) = _
    rw [s2]
    rfl
  · show (py (.tup l)).bind (fun p => if p.hasDict then none else some p) = _
    rw [e1]
    show (if p.hasDict then none else some p) = _
    rw [s2]
    rfl
theorem Thg.q1 {n : Nat} {t : D} (h : Thg n t) : ∃ p, pyQ1 t = some p ∧ p.showable = true ∧ p.leavesShort 1000 = true ∧ p.bulk ≤ 139 * n + 10 ∧ p.depth ≤ 5 := by
  have na : Nm "a" := nmB_ok (by decide +kernel)
  rcases h with ⟨ss, rfl | rfl, hs, hn⟩ | rfl | rfl | rfl | rfl
  · obtain ⟨p, a, b, c, d, e⟩ := (Cp.lst fun s m => (hs s m).cp).q1 (.inr (.inr (.inl ⟨ss, rfl⟩)))
    exact ⟨p, a, b, c, by omega, by omega⟩
  · obtain ⟨p, a, b, c, d, e⟩ := (Cp.tup fun s m => (hs s m).cp).q1 (.inr (.inr (.inr ⟨ss, rfl⟩)))
    exact ⟨p, a, b, c, by omega, by omega⟩
  · obtain ⟨p, a, b, c, d, e⟩ := Cp.non.q1 (.inl rfl)
    exact ⟨p, a, b, c, by omega, by omega⟩
  · exact ⟨.dict [], rfl, by decide, by decide, by simp [PyData.bulk, PyData.bulkKv], by simp [PyData.depth, PyData.depthKv]⟩
  · obtain ⟨p, a, b, c, d, e⟩ := (Cp.str na).q1 (.inr (.inl ⟨_, rfl⟩))
    exact ⟨p, a, b, c, by omega, by omega⟩
  · exact ⟨.int 5, rfl, by decide, by decide, by simp [PyData.bulk], by simp [PyData.depth]⟩
theorem repr_three {ds : List Dep} {w : Dep} {t : D} (h : ∀ d ∈ ds, DepOk d ∧ d.1.length ≤ 5) (hl : ds.length ≤ 10) (hw : DepOk w) (wl : w.1.length ≤ 5) (ht : Thg 58 t) : ∃ x, fReprA [.tup [.lst (dsD ds), dD w, t]] = some0 (.str x) := by
  have ll : (dsD ds).length = ds.length := List.length_map ..
  obtain ⟨p1, a1, b1, c1, d1, e1⟩ := (Cp.lst (dsD_cp h)).q1 (.inr (.inr (.inl ⟨_, rfl⟩)))
  obtain ⟨p2, a2, b2, c2, d2, e2⟩ := (dep_stp hw wl).cp.q1 (.inr (.inr (.inr ⟨_, rfl⟩)))
  obtain ⟨p3, a3, b3, c3, d3, e3⟩ := ht.q1
  refine ⟨(PyData.tuple [p1, p2, p3]).shown, ?_⟩
  show (pyQ [.lst (dsD ds), dD w, t]).bind _ = _
  have q : pyQ [.lst (dsD ds), dD w, t] = some [p1, p2, p3] := by
    unfold pyQ
    rw [a1]
    unfold pyQ
    rw [a2]
    unfold pyQ
    rw [a3]
    rfl
  rw [q]
  show (if shOkD (.tuple [p1, p2, p3]) = true then _ else _) = _
  rw [if_pos]
  rw [ll] at d1
  unfold shOkD
  simp only [PyData.showable, PyData.showableAll, PyData.leavesShort, PyData.leavesShortAll, PyData.bulk, PyData.bulkAll, PyData.depth, PyData.depthAll, b1, b2, b3, c1, c2, c3, Bool.and_true, Bool.true_and, Bool.and_eq_true, decide_eq_true_eq]
  refine ⟨decide_eq_true ?_, decide_eq_true ?_⟩
  · omega
  · omega
theorem repr_bl (b : Bool) : fReprA [.bl b] = some0 (.str (if b then "True" else "False")) := rfl
end Sx
set_option Elab.async false
set_option linter.all false
set_option maxRecDepth 100000
set_option maxHeartbeats 1000000
set_option autoImplicit false
namespace Sx
open PySem L2
/-! the law's turns -/
abbrev EW (m : Nat) (t s3 s4 s5 s6 s7 s8 s9 s10 : Slot) : En := [some (.fz, .scr m), some (.fz, .drw), t, s3, s4, s5, s6, s7, s8, s9, s10, none]
def Fo (f : Fg) : Prop := f = .ow ∨ f = .fz
/-- a slot that holds a value -/
abbrev Sv (f : Fg) (d : D) : Slot := some (f, d)
theorem wp_for {ri : RunI} {l : Option Nat} {t : Tg} {rb : RunS} {en : En} {Q : Fl × En → Prop} (h : (ri en).wp fun a => (sForL l t rb a.1 a.2).wp Q) : (sFor ri l t rb en).wp Q := (T.wp_bind _ _ _).mpr h
theorem put_mk {i : Nat} {c : Bool × D} {en : En} (h : i < en.length) : putO i (mkO c, en) = some (en.set i (some (if c.1 then .ow else .fz, c.2))) := by
  obtain ⟨b, d⟩ := c
  unfold putO
  cases b <;> exact if_pos h
def bnd : Nat → Nat
  | 0 => 58
  | 1 => 19
  | _ => 6
theorem Thg.mono {n m : Nat} {t : D} (h : Thg n t) (hm : n ≤ m) : Thg m t := by
  rcases h with ⟨ss, e, hs, hn⟩ | h
  · exact .inl ⟨ss, e, hs, by omega⟩
  · exact .inr h
theorem fo_if (b : Bool) : Fo (if b then .ow else .fz) := by
  cases b
  · exact .inr rfl
  · exact .inl rfl
@[irreducible] def bendR : RunS := (sFor (iRange (rCons (rCall f_w_take (rCons (rVar 1) (rCons (rC (.int 3)) rNil))) rNil)) none (tgN 8) (sSeq (sSet 7 (rCall f_w_bent (rCons (rVar 1) (rCons (rVar 7) (rCons (rVar 4) (rCons (rVar 3) rNil)))))) sNx))
section
variable {m : Nat} {t s5 s6 s8 s9 s10 : Slot} {xs : List Str} {ds : List Dep} {w : Dep} {f3 f4 f6 f7 : Fg} {th : D}
theorem bend_wp (h3 : Fo f3) (h4 : Fo f4) (h7 : Fo f7) (ht : Thg 6 th) (hd : ∀ d ∈ ds, DepOk d ∧ d.1.length ≤ 5) (hl : ds.length ≤ 4000) (h0 : xs ≠ []) (nd : xs.Nodup) (hx : ∀ x ∈ xs, Nm x) (xl : xs.length ≤ 5) :
    (bendR (EW m t (Sv f3 (.lst (Sl xs))) (Sv f4 (.lst (dsD ds))) s5 s6 (Sv f7 th) s8 s9 s10)).wp fun r => ∃ f3 f4 f7 th s8, Fo f3 ∧ Fo f4 ∧ Fo f7 ∧ Thg 58 th ∧ r = (.nx, EW m t (Sv f3 (.lst (Sl xs))) (Sv f4 (.lst (dsD ds))) s5 s6 (Sv f7 th) s8 s9 s10) := by
  have bw := fun n th (h : Thg n th) (hn : n ≤ 100) => bent_wp (ds := ds) (xs := xs) h hn hd hl h0 nd hx xl
  have e2 := take_lit (n := 3) (by decide)
  unfold bendR
  generalize f_w_bent = F at bw ⊢
  refine wp_for ?_
  have step : ∀ (r : Nat) (d : D) (ds' : List D), ds'.length = r → r ≤ 1 → ∀ f3 f4 f7 th (s8 : Slot), Fo f3 → Fo f4 → Fo f7 → Thg (bnd (r + 1)) th →
      ((sSeq (sSet 7 (rCall F (rCons (rVar 1) (rCons (rVar 7) (rCons (rVar 4) (rCons (rVar 3) rNil)))))) sNx) (EW m t (Sv f3 (.lst (Sl xs))) (Sv f4 (.lst (dsD ds))) s5 s6 (Sv f7 th) (some (.fz, d)) s9 s10)).wp fun o => o.1 = .nx ∧ ∃ f3 f4 f7 th s8, Fo f3 ∧ Fo f4 ∧ Fo f7 ∧ Thg (bnd r) th ∧ o.2 = EW m t (Sv f3 (.lst (Sl xs))) (Sv f4 (.lst (dsD ds))) s5 s6 (Sv f7 th) s8 s9 s10 := by
    intro r d ds' _ hr f3 f4 f7 th s8 h3 h4 h7 ht
    refine wp_nx (wp_set (wp_call (wp_eq (x := ([.v .drw, .v th, .v (.lst (dsD ds)), .v (.lst (Sl xs))], EW m t (Sv .fz (.lst (Sl xs))) (Sv .fz (.lst (dsD ds))) s5 s6 (Sv .fz th) (some (.fz, d)) s9 s10)) ?_ ⟨_, rfl, ?_⟩)))
    · rcases h3 with rfl | rfl <;> rcases h4 with rfl | rfl <;> rcases h7 with rfl | rfl <;> rfl
    · have b1 : bnd (r + 1) ≤ 100 := by match r, hr with | 0, _ => decide | 1, _ => decide
      have b2 : 3 * bnd (r + 1) + 1 ≤ bnd r := by match r, hr with | 0, _ => decide | 1, _ => decide
      refine T.wp_mono (bw _ _ ht b1) fun c hc => ⟨_, put_mk (by simp), _, rfl, rfl, .fz, .fz, _, c.2, some (.fz, d), .inr rfl, .inr rfl, fo_if c.1, hc.mono b2, rfl⟩
  have all : ∀ k : Nat, k ≤ 2 → (sForL none (tgN 8) (sSeq (sSet 7 (rCall F (rCons (rVar 1) (rCons (rVar 7) (rCons (rVar 4) (rCons (rVar 3) rNil)))))) sNx) ((List.range k).map fun j => D.int (0 + (j : Nat))) (EW m t (Sv f3 (.lst (Sl xs))) (Sv f4 (.lst (dsD ds))) s5 s6 (Sv f7 th) s8 s9 s10)).wp fun r => ∃ f3 f4 f7 th s8, Fo f3 ∧ Fo f4 ∧ Fo f7 ∧ Thg 58 th ∧ r = (.nx, EW m t (Sv f3 (.lst (Sl xs))) (Sv f4 (.lst (dsD ds))) s5 s6 (Sv f7 th) s8 s9 s10) := by
    intro k hk
    refine wp_loop (fun rest en => rest.length ≤ 2 ∧ ∃ f3 f4 f7 th s8, Fo f3 ∧ Fo f4 ∧ Fo f7 ∧ Thg (bnd rest.length) th ∧ en = EW m t (Sv f3 (.lst (Sl xs))) (Sv f4 (.lst (dsD ds))) s5 s6 (Sv f7 th) s8 s9 s10) ?_ ?_ _ _ ⟨by simpa using hk, f3, f4, f7, th, s8, h3, h4, h7, ht.mono (by
      rw [List.length_map, List.length_range]
      match k, hk with
      | 0, _ => decide
      | 1, _ => decide
      | 2, _ => decide), rfl⟩
    · rintro en ⟨_, f3, f4, f7, th, s8, h3, h4, h7, ht, rfl⟩
      exact ⟨f3, f4, f7, th, s8, h3, h4, h7, ht, rfl⟩
    · rintro d rest en ⟨hr, f3, f4, f7, th, s8, h3, h4, h7, ht, rfl⟩
      rw [List.length_cons] at hr ht
      refine ⟨EW m t (Sv f3 (.lst (Sl xs))) (Sv f4 (.lst (dsD ds))) s5 s6 (Sv f7 th) (some (.fz, d)) s9 s10, rfl, T.wp_mono (step rest.length d rest rfl (by omega) f3 f4 f7 th s8 h3 h4 h7 ht) fun o ⟨e, q⟩ => .inl ⟨e, by omega, q⟩⟩
  generalize (sSeq (sSet 7 (rCall F (rCons (rVar 1) (rCons (rVar 7) (rCons (rVar 4) (rCons (rVar 3) rNil)))))) sNx) = R at all ⊢
  simp only [EW, Sv, iRange, sSeq, sIf, sRet, sNx, sSet, sPar, sTgt, sDrop, toT, rOr, rAnd, rNot, rIf, runN, run1, run2, rCons, rNil, rBor, rVar, rMov, rC, rChn, rDisp, rCall, rSlice, oNone, oSome, ret1, frc, frcs, onlyV, valO, Op.fz, mkO, boolOf, intOf, itemsOf, iSeq, tgN, T.ret_bind, T.ofOpt, retO, putO, flOf, some0, some1, Option.bind_some, Option.map_some, List.getElem?_cons_zero, List.getElem?_cons_succ, List.set_cons_zero, List.set_cons_succ, List.length_cons, List.length_nil, mkL, mkT, small, Bool.not_true, Bool.not_false, if_true, if_false, Bool.false_eq_true, ite_true, ite_false, Nat.reduceAdd, Nat.reduceLT, Nat.reduceLeDiff, e2, ch_bind] at all ⊢
  intro i hi
  have hi : i < 3 := hi
  have a2 : (i : Int) ≤ 4096 ∧ -4096 ≤ (i : Int) := by omega
  simp only [sSeq, sIf, sRet, sNx, sSet, sPar, sTgt, sDrop, toT, rOr, rAnd, rNot, rIf, runN, run1, run2, rCons, rNil, rBor, rVar, rMov, rC, rChn, rDisp, rCall, rSlice, oNone, oSome, ret1, frc, frcs, onlyV, valO, Op.fz, mkO, boolOf, intOf, itemsOf, iSeq, tgN, T.ret_bind, T.ofOpt, retO, putO, flOf, some0, some1, Option.bind_some, Option.map_some, List.getElem?_cons_zero, List.getElem?_cons_succ, List.set_cons_zero, List.set_cons_succ, List.length_cons, List.length_nil, mkL, mkT, small, Bool.not_true, Bool.not_false, if_true, if_false, Bool.false_eq_true, ite_true, ite_false, Nat.reduceAdd, Nat.reduceLT, Nat.reduceLeDiff, if_pos a2, Int.toNat_natCast]
  exact all i (by omega)
def reprTR : Run := (runN (rCons (rDisp mkT (rCons (rVar 4) (rCons (rVar 6) (rCons (rVar 7) rNil)))) rNil) fReprA)
theorem reprT_run {f4 f6 f7 : Fg} {s3 : Slot} {x : Str} (h4 : Fo f4) (h6 : Fo f6) (h7 : Fo f7) (e : fReprA [.tup [.lst (dsD ds), dD w, th]] = some0 (.str x)) :
    reprTR (EW m t s3 (Sv f4 (.lst (dsD ds))) s5 (Sv f6 (dD w)) (Sv f7 th) s8 s9 s10) = .ret (.v (.str x), EW m t s3 (Sv .fz (.lst (dsD ds))) s5 (Sv .fz (dD w)) (Sv .fz th) s8 s9 s10) := by
  unfold reprTR
  rcases h4 with rfl | rfl <;> rcases h6 with rfl | rfl <;> rcases h7 with rfl | rfl <;> simp only [EW, Sv, sSeq, sIf, sRet, sNx, sSet, sPar, sTgt, sDrop, toT, rOr, rAnd, rNot, rIf, runN, run1, run2, rCons, rNil, rBor, rVar, rMov, rC, rChn, rDisp, rCall, rSlice, oNone, oSome, ret1, frc, frcs, onlyV, valO, Op.fz, mkO, boolOf, intOf, itemsOf, iSeq, tgN, T.ret_bind, T.ofOpt, retO, putO, flOf, some0, some1, Option.bind_some, Option.map_some, List.getElem?_cons_zero, List.getElem?_cons_succ, List.set_cons_zero, List.set_cons_succ, List.length_cons, List.length_nil, mkL, mkT, small, Bool.not_true, Bool.not_false, if_true, if_false, Bool.false_eq_true, ite_true, ite_false, Nat.reduceAdd, Nat.reduceLT, Nat.reduceLeDiff, e]
@[irreducible] def askR : RunS := (sSeq (sSet 9 reprTR) (sSeq (sSet 10 (rCallK f_is_derivation sw210 rNil (rCons (rVar 7) (rCons (rVar 6) (rCons (rVar 4) rNil)))))
    (sSeq (sIf (toT (rOr (run2 (runN (rCons (rVar 10) rNil) fReprA) (runN (rCons (rCall f_w_is_right (rCons (rVar 7) (rCons (rVar 4) (rCons (rVar 6) rNil)))) rNil) fReprA) fNe) (run2 reprTR (rBor 9) fNe))) (sSeq (sRet (rC (.bl false))) sNx) sNx) sNx)))
theorem ask_run {s3 : Slot} (h4 : Fo f4) (h6 : Fo f6) (h7 : Fo f7) (hd : ∀ d ∈ ds, DepOk d ∧ d.1.length ≤ 5) (hl : ds.length ≤ 10) (hw : DepOk w) (wl : w.1.length ≤ 5) (ht : Thg 58 th) :
    ∃ u9 u10, askR (EW m t s3 (Sv f4 (.lst (dsD ds))) s5 (Sv f6 (dD w)) (Sv f7 th) s8 s9 s10) = .ret (.nx, EW m t s3 (Sv .fz (.lst (dsD ds))) s5 (Sv .fz (dD w)) (Sv .fz th) s8 u9 u10) := by
  obtain ⟨x, hx⟩ := repr_three hd hl hw wl ht
  have a1 := is_derivation_any (w := w) (t := th) hd (by omega) hw wl (ht.mono (by decide))
  have a2 := is_right_any (w := w) (t := th) hd (by omega) wl (ht.mono (by decide))
  have ne : ∀ s : Str, fNe (.str s) (.str s) = some0 (.bl false) := fun s => fNe_no (.str s 0) (.str s 0) (by decide) rfl
  have sw : sw210 [] [th, dD w, .lst (dsD ds)] = [.lst (dsD ds), dD w, th] := rfl
  generalize spec ds w th = b at a1 a2
  have r1 := reprT_run (m := m) (t := t) (s3 := s3) (s5 := s5) (s8 := s8) (s9 := s9) (s10 := s10) h4 h6 h7 hx
  have c1 : (sSet 9 reprTR) (EW m t s3 (Sv f4 (.lst (dsD ds))) s5 (Sv f6 (dD w)) (Sv f7 th) s8 s9 s10) = .ret (.nx, EW m t s3 (Sv .fz (.lst (dsD ds))) s5 (Sv .fz (dD w)) (Sv .fz th) s8 (some (.fz, .str x)) s10) := by
    unfold sSet
    rw [r1]
    rfl
  refine ⟨some (.fz, .str x), some (.fz, .bl b), ?_⟩
  have rb := repr_bl b
  generalize (if b then "True" else "False" : Str) = y at rb
  unfold askR
  unfold sSeq
  rw [c1]
  simp only [EW, Sv, sSeq, sIf, sRet, sNx, sSet, sPar, sTgt, sDrop, toT, rOr, rAnd, rNot, rIf, runN, run1, run2, rCons, rNil, rBor, rVar, rMov, rC, rChn, rDisp, rCall, rSlice, oNone, oSome, ret1, frc, frcs, onlyV, valO, Op.fz, mkO, boolOf, intOf, itemsOf, iSeq, tgN, T.ret_bind, T.ofOpt, retO, putO, flOf, some0, some1, Option.bind_some, Option.map_some, List.getElem?_cons_zero, List.getElem?_cons_succ, List.set_cons_zero, List.set_cons_succ, List.length_cons, List.length_nil, mkL, mkT, small, Bool.not_true, Bool.not_false, if_true, if_false, Bool.false_eq_true, ite_true, ite_false, Nat.reduceAdd, Nat.reduceLT, Nat.reduceLeDiff, rCallK, sw, a1]
  simp only [sSeq, sIf, sRet, sNx, sSet, sPar, sTgt, sDrop, toT, rOr, rAnd, rNot, rIf, runN, run1, run2, rCons, rNil, rBor, rVar, rMov, rC, rChn, rDisp, rCall, rSlice, oNone, oSome, ret1, frc, frcs, onlyV, valO, Op.fz, mkO, boolOf, intOf, itemsOf, iSeq, tgN, T.ret_bind, T.ofOpt, retO, putO, flOf, some0, some1, Option.bind_some, Option.map_some, List.getElem?_cons_zero, List.getElem?_cons_succ, List.set_cons_zero, List.set_cons_succ, List.length_cons, List.length_nil, mkL, mkT, small, Bool.not_true, Bool.not_false, if_true, if_false, Bool.false_eq_true, ite_true, ite_false, Nat.reduceAdd, Nat.reduceLT, Nat.reduceLeDiff, reprTR, rb, a2, ne, hx]
end
/-! one question -/
@[irreducible] def wishR : RunS := (sSet 6 (rCall f_w_dependency (rCons (rVar 1) (rCons (rVar 3) rNil))))
@[irreducible] def madeS : RunS := (sSet 7 (rCall f_w_made (rCons (rVar 1) (rCons (rVar 4) (rCons (rVar 6) rNil)))))
@[irreducible] def lastS : RunS := (sIf (toT (rAnd (run2 (rBor 7) (rDisp mkL rNil) fNe) (run2 (rCall f_w_take (rCons (rVar 1) (rCons (rC (.int 2)) rNil))) (rC (.int 0)) fEq))) (sSeq (sSet 6 (rDisp mkT (rCons (run2 (rBor 6) (rC (.int 0)) fIx) (rCons (run2 (run2 (rBor 7) (run1 (rC (.int 1)) fNeg) fIx) (rC (.int 1)) fIx) rNil)))) sNx) sNx)
section
variable {m : Nat} {t s5 s6 s7 s8 s9 s10 : Slot} {xs : List Str} {ds st : List Dep} {w : Dep} {f3 f4 f6 f7 : Fg} {th : D}
theorem wish_wp (h3 : Fo f3) (h0 : xs ≠ []) (nd : xs.Nodup) (hx : ∀ x ∈ xs, Nm x) (xl : xs.length ≤ 5) {s4 : Slot} :
    (wishR (EW m t (Sv f3 (.lst (Sl xs))) s4 s5 s6 s7 s8 s9 s10)).wp fun r => ∃ w : Dep, DepOk w ∧ w.1.length ≤ 5 ∧ r = (.nx, EW m t (Sv .fz (.lst (Sl xs))) s4 s5 (Sv .fz (dD w)) s7 s8 s9 s10) := by
  have dw := dep_wp h0 nd hx (by omega)
  unfold wishR
  generalize f_w_dependency = F at dw ⊢
  refine wp_set (wp_call (wp_eq (x := ([.v .drw, .v (.lst (Sl xs))], EW m t (Sv .fz (.lst (Sl xs))) s4 s5 s6 s7 s8 s9 s10)) (by rcases h3 with rfl | rfl <;> rfl) ⟨_, rfl, T.wp_mono dw fun r ⟨d, e, ok, _, _, l⟩ => ?_⟩))
  subst e
  exact ⟨_, put_mk (by simp), d, ok, by omega, rfl⟩
theorem madeS_wp {s3 : Slot} (h4 : Fo f4) (h6 : Fo f6) (hd : ∀ d ∈ ds, DepOk d ∧ d.1.length ≤ 5) (hl : ds.length ≤ 4000) (wl : w.1.length ≤ 5) :
    (madeS (EW m t s3 (Sv f4 (.lst (dsD ds))) s5 (Sv f6 (dD w)) s7 s8 s9 s10)).wp fun r => ∃ st : List Dep, st.length ≤ 6 ∧ (∀ d ∈ st, d ∈ ds ∧ d.2 ∉ w.1) ∧ r = (.nx, EW m t s3 (Sv .fz (.lst (dsD ds))) s5 (Sv .fz (dD w)) (Sv .ow (.lst (dsD st))) s8 s9 s10) := by
  have mw := made_wp (w := w) hd hl wl
  unfold madeS
  generalize f_w_made = F at mw ⊢
  refine wp_set (wp_call (wp_eq (x := ([.v .drw, .v (.lst (dsD ds)), .v (dD w)], EW m t s3 (Sv .fz (.lst (dsD ds))) s5 (Sv .fz (dD w)) s7 s8 s9 s10)) (by rcases h4 with rfl | rfl <;> rcases h6 with rfl | rfl <;> rfl) ⟨_, rfl, T.wp_mono mw fun r ⟨st, e, l, hs⟩ => ?_⟩))
  subst e
  exact ⟨_, put_mk (by simp), st, l, hs, rfl⟩
theorem lastS_wp {s3 s4 : Slot} (hd : ∀ d ∈ ds, DepOk d ∧ d.1.length ≤ 5) (hw : DepOk w) (wl : w.1.length ≤ 5) (sl : st.length ≤ 6) (hs : ∀ d ∈ st, d ∈ ds ∧ d.2 ∉ w.1) :
    (lastS (EW m t s3 s4 s5 (Sv .fz (dD w)) (Sv .ow (.lst (dsD st))) s8 s9 s10)).wp fun r => ∃ w : Dep, DepOk w ∧ w.1.length ≤ 5 ∧ r = (.nx, EW m t s3 s4 s5 (Sv .fz (dD w)) (Sv .ow (.lst (dsD st))) s8 s9 s10) := by
  have e1 := (eq_nil_cl (ss := dsD st) (dsD_cp fun d h => hd d (hs d h).1) (by decide)).2
  have e2 := take_lit (n := 2) (by decide)
  unfold lastS
  by_cases z : st = []
  · rw [decide_eq_false (by rw [z]; exact not_not_intro rfl)] at e1
    refine wp_eq (x := (.nx, EW m t s3 s4 s5 (Sv .fz (dD w)) (Sv .ow (.lst (dsD st))) s8 s9 s10)) (by simp only [EW, Sv, sSeq, sIf, sRet, sNx, sSet, sPar, sTgt, sDrop, toT, rOr, rAnd, rNot, rIf, runN, run1, run2, rCons, rNil, rBor, rVar, rMov, rC, rChn, rDisp, rCall, rSlice, oNone, oSome, ret1, frc, frcs, onlyV, valO, Op.fz, mkO, boolOf, intOf, itemsOf, iSeq, tgN, T.ret_bind, T.ofOpt, retO, putO, flOf, some0, some1, Option.bind_some, Option.map_some, List.getElem?_cons_zero, List.getElem?_cons_succ, List.set_cons_zero, List.set_cons_succ, List.length_cons, List.length_nil, mkL, mkT, small, Bool.not_true, Bool.not_false, if_true, if_false, Bool.false_eq_true, ite_true, ite_false, Nat.reduceAdd, Nat.reduceLT, Nat.reduceLeDiff, e1]) ⟨w, hw, wl, rfl⟩
  · obtain ⟨p, d, hp⟩ : ∃ p d, st = p ++ [d] := ⟨_, _, (List.dropLast_concat_getLast z).symm⟩
    have n0 : dsD st ≠ [] := fun e => z (by simpa [dsD] using e)
    rw [decide_eq_true n0] at e1
    have l1 : fIx (.lst (dsD st)) (.int (-1)) = some0 (dD d) := last_ix ⟨p, hp⟩
    have l2 := (ix_dep d).2
    have i0 := (ix_dep w).1
    have n1 : fNeg (.int 1) = some0 (.int (-1)) := rfl
    obtain ⟨din, dn⟩ := hs d (by rw [hp]; simp)
    simp only [EW, Sv, sSeq, sIf, sRet, sNx, sSet, sPar, sTgt, sDrop, toT, rOr, rAnd, rNot, rIf, runN, run1, run2, rCons, rNil, rBor, rVar, rMov, rC, rChn, rDisp, rCall, rSlice, oNone, oSome, ret1, frc, frcs, onlyV, valO, Op.fz, mkO, boolOf, intOf, itemsOf, iSeq, tgN, T.ret_bind, T.ofOpt, retO, putO, flOf, some0, some1, Option.bind_some, Option.map_some, List.getElem?_cons_zero, List.getElem?_cons_succ, List.set_cons_zero, List.set_cons_succ, List.length_cons, List.length_nil, mkL, mkT, small, Bool.not_true, Bool.not_false, if_true, if_false, Bool.false_eq_true, ite_true, ite_false, Nat.reduceAdd, Nat.reduceLT, Nat.reduceLeDiff, e1, e2, ch_bind]
    intro i hi
    have e3 := fEq_int (i : Nat) 0
    by_cases iz : (i : Int) = 0
    · rw [decide_eq_true iz] at e3
      simp only [sSeq, sIf, sRet, sNx, sSet, sPar, sTgt, sDrop, toT, rOr, rAnd, rNot, rIf, runN, run1, run2, rCons, rNil, rBor, rVar, rMov, rC, rChn, rDisp, rCall, rSlice, oNone, oSome, ret1, frc, frcs, onlyV, valO, Op.fz, mkO, boolOf, intOf, itemsOf, iSeq, tgN, T.ret_bind, T.ofOpt, retO, putO, flOf, some0, some1, Option.bind_some, Option.map_some, List.getElem?_cons_zero, List.getElem?_cons_succ, List.set_cons_zero, List.set_cons_succ, List.length_cons, List.length_nil, mkL, mkT, small, Bool.not_true, Bool.not_false, if_true, if_false, Bool.false_eq_true, ite_true, ite_false, Nat.reduceAdd, Nat.reduceLT, Nat.reduceLeDiff, e3, l1, l2, i0, n1]
      exact ⟨(w.1, d.2), ⟨hw.nm, hw.so, hw.len, (hd d din).1.nc, dn⟩, wl, rfl⟩
    · rw [decide_eq_false iz] at e3
      simp only [sSeq, sIf, sRet, sNx, sSet, sPar, sTgt, sDrop, toT, rOr, rAnd, rNot, rIf, runN, run1, run2, rCons, rNil, rBor, rVar, rMov, rC, rChn, rDisp, rCall, rSlice, oNone, oSome, ret1, frc, frcs, onlyV, valO, Op.fz, mkO, boolOf, intOf, itemsOf, iSeq, tgN, T.ret_bind, T.ofOpt, retO, putO, flOf, some0, some1, Option.bind_some, Option.map_some, List.getElem?_cons_zero, List.getElem?_cons_succ, List.set_cons_zero, List.set_cons_succ, List.length_cons, List.length_nil, mkL, mkT, small, Bool.not_true, Bool.not_false, if_true, if_false, Bool.false_eq_true, ite_true, ite_false, Nat.reduceAdd, Nat.reduceLT, Nat.reduceLeDiff, e3]
      exact ⟨w, hw, wl, rfl⟩
@[irreducible] def quesR : RunS := (sSeq wishR (sSeq madeS (sSeq lastS (sSeq bendR askR))))
theorem ques_wp {s7 : Slot} (h3 : Fo f3) (h4 : Fo f4) (hd : ∀ d ∈ ds, DepOk d ∧ d.1.length ≤ 5) (hl : ds.length ≤ 10) (h0 : xs ≠ []) (nd : xs.Nodup) (hx : ∀ x ∈ xs, Nm x) (xl : xs.length ≤ 5) :
    (quesR (EW m t (Sv f3 (.lst (Sl xs))) (Sv f4 (.lst (dsD ds))) s5 s6 s7 s8 s9 s10)).wp fun r => r.1 = .nx ∧ ∃ f3 f4 s6 s7 s8 s9 s10, Fo f3 ∧ Fo f4 ∧ r.2 = EW m t (Sv f3 (.lst (Sl xs))) (Sv f4 (.lst (dsD ds))) s5 s6 s7 s8 s9 s10 := by
  have q1 := fun {s4 : Slot} => @wish_wp m t s5 s6 s7 s8 s9 s10 xs f3 h3 h0 nd hx xl s4
  have q2 := fun w {s3 : Slot} => @madeS_wp m t s5 s7 s8 s9 s10 ds w f4 .fz s3 h4 (.inr rfl) hd (by omega)
  have q3 := fun st w {s3 s4 : Slot} => @lastS_wp m t s5 s8 s9 s10 ds st w s3 s4 hd
  have q4 := fun (s6 : Slot) th => @bend_wp m t s5 s6 s8 s9 s10 xs ds .fz .fz .ow th (.inr rfl) (.inr rfl) (.inl rfl)
  have q5 := fun f4 f6 f7 w th (s3 s8 : Slot) => @ask_run m t s5 s8 s9 s10 ds w f4 f6 f7 th s3
  unfold quesR
  generalize wishR = R1 at q1 ⊢
  generalize madeS = R2 at q2 ⊢
  generalize lastS = R3 at q3 ⊢
  generalize bendR = R4 at q4 ⊢
  generalize askR = R5 at q5 ⊢
  refine wp_nx (T.wp_mono q1 fun r ⟨w, hw, wl, e⟩ => ⟨_, e, ?_⟩)
  refine wp_nx (T.wp_mono (q2 w wl) fun r ⟨st, sl, hs, e⟩ => ⟨_, e, ?_⟩)
  refine wp_nx (T.wp_mono (q3 st w hw wl sl hs) fun r ⟨w', hw', wl', e⟩ => ⟨_, e, ?_⟩)
  have ht : Thg 6 (.lst (dsD st)) := .inl ⟨dsD st, .inl rfl, fun s h => by
    obtain ⟨d, h2, rfl⟩ := mem_dsD_iff.mp h
    exact dep_stp (hd d (hs d h2).1).1 (hd d (hs d h2).1).2, by unfold dsD; rw [List.length_map]; exact sl⟩
  refine wp_nx (T.wp_mono (q4 _ _ ht hd (by omega) h0 nd hx xl) fun r ⟨g3, g4, g7, th, s8', a3, a4, a7, hth, e⟩ => ⟨_, e, ?_⟩)
  obtain ⟨s9', s10', e⟩ := q5 g4 .fz g7 w' th (Sv g3 (.lst (Sl xs))) s8' a4 (.inr rfl) a7 hd hl hw' wl' hth
  exact wp_eq e ⟨rfl, g3, .fz, _, _, _, _, _, a3, .inr rfl, rfl⟩
end
end Sx
set_option Elab.async false
set_option linter.all false
set_option maxRecDepth 100000
set_option maxHeartbeats 1000000
set_option autoImplicit false
namespace Sx
open PySem L2
@[irreducible] def sixR : RunS := (sFor (iRange (rCons (rC (.int 6)) rNil)) none (tgN 5) quesR)
theorem six_wp {m : Nat} {t s5 s6 s7 s8 s9 s10 : Slot} {xs : List Str} {ds : List Dep} {f3 f4 : Fg} (h3 : Fo f3) (h4 : Fo f4) (hd : ∀ d ∈ ds, DepOk d ∧ d.1.length ≤ 5) (hl : ds.length ≤ 10) (h0 : xs ≠ []) (nd : xs.Nodup) (hx : ∀ x ∈ xs, Nm x) (xl : xs.length ≤ 5) :
    (sixR (EW m t (Sv f3 (.lst (Sl xs))) (Sv f4 (.lst (dsD ds))) s5 s6 s7 s8 s9 s10)).wp fun r => r.1 = .nx ∧ ∃ s3 s4 s5 s6 s7 s8 s9 s10, r.2 = EW m t s3 s4 s5 s6 s7 s8 s9 s10 := by
  have qw := fun s5 s6 s7 s8 s9 s10 f3 f4 a3 a4 => @ques_wp m t s5 s6 s8 s9 s10 xs ds f3 f4 s7 a3 a4 hd hl h0 nd hx xl
  unfold sixR
  generalize quesR = R at qw ⊢
  refine wp_for ?_
  have it : (iRange (rCons (rC (.int 6)) rNil)) (EW m t (Sv f3 (.lst (Sl xs))) (Sv f4 (.lst (dsD ds))) s5 s6 s7 s8 s9 s10) = .ret ((List.range 6).map fun k => D.int (0 + (k : Nat)), EW m t (Sv f3 (.lst (Sl xs))) (Sv f4 (.lst (dsD ds))) s5 s6 s7 s8 s9 s10) := rfl
  refine wp_eq it ?_
  refine wp_loop (fun _ en => ∃ f3 f4 s5 s6 s7 s8 s9 s10, Fo f3 ∧ Fo f4 ∧ en = EW m t (Sv f3 (.lst (Sl xs))) (Sv f4 (.lst (dsD ds))) s5 s6 s7 s8 s9 s10) ?_ ?_ _ _ ⟨f3, f4, s5, s6, s7, s8, s9, s10, h3, h4, rfl⟩
  · rintro en ⟨f3, f4, s5, s6, s7, s8, s9, s10, a3, a4, rfl⟩
    exact ⟨rfl, _, _, _, _, _, _, _, _, rfl⟩
  · rintro d _ en ⟨f3, f4, s5, s6, s7, s8, s9, s10, a3, a4, rfl⟩
    refine ⟨EW m t (Sv f3 (.lst (Sl xs))) (Sv f4 (.lst (dsD ds))) (some (.fz, d)) s6 s7 s8 s9 s10, rfl, T.wp_mono (qw (some (.fz, d)) s6 s7 s8 s9 s10 f3 f4 a3 a4) fun r ⟨e1, f3, f4, s6, s7, s8, s9, s10, a3, a4, e2⟩ => .inl ⟨e1, f3, f4, _, s6, s7, s8, s9, s10, a3, a4, e2⟩⟩
@[irreducible] def someR : RunS := (sSet 4 (rLc (iRange (rCons (run2 (rC (.int 1)) (rCall f_w_take (rCons (rVar 1) (rCons (rC (.int 10)) rNil))) fAdd) rNil)) none (tgN 11) rYes (rCall f_w_dependency (rCons (rVar 1) (rCons (rVar 3) rNil))) [11]))
theorem some_wp {m : Nat} {t s4 s5 s6 s7 s8 s9 s10 : Slot} {xs : List Str} (h0 : xs ≠ []) (nd : xs.Nodup) (hn : ∀ x ∈ xs, Nm x) (hl : xs.length ≤ 5) :
    (someR (EW m t (Sv .ow (.lst (Sl xs))) s4 s5 s6 s7 s8 s9 s10)).wp fun r => ∃ (f : Fg) (ds : List Dep), Fo f ∧ ds.length ≤ 10 ∧ (∀ d ∈ ds, DepOk d ∧ d.1.length ≤ 5) ∧ r = (.nx, EW m t (Sv f (.lst (Sl xs))) (Sv .ow (.lst (dsD ds))) s5 s6 s7 s8 s9 s10) := by
  have dw := dep_wp h0 nd hn (by omega)
  have e2 := take_lit (n := 10) (by decide)
  unfold someR
  generalize f_w_dependency = F at dw ⊢
  have c := rLc_inv (l := none) (t := tgN 11) (vs := [11]) (fun d : Dep => DepOk d ∧ d.1.length ≤ 5) dD (fun e => ∃ f, Fo f ∧ e = EW m t (Sv f (.lst (Sl xs))) s4 s5 s6 s7 s8 s9 s10) (fun xs => xs.length ≤ 10) (ri := iRange (rCons (run2 (rC (.int 1)) (rCall f_w_take (rCons (rVar 1) (rCons (rC (.int 10)) rNil))) fAdd) rNil)) (re := rCall F (rCons (rVar 1) (rCons (rVar 3) rNil)))
    (en := EW m t (Sv .ow (.lst (Sl xs))) s4 s5 s6 s7 s8 s9 s10) (en1 := EW m t (Sv .ow (.lst (Sl xs))) s4 s5 s6 s7 s8 s9 s10) (by
      simp only [EW, Sv, iRange, sSeq, sIf, sRet, sNx, sSet, sPar, sTgt, sDrop, toT, rOr, rAnd, rNot, rIf, runN, run1, run2, rCons, rNil, rBor, rVar, rMov, rC, rChn, rDisp, rCall, rSlice, oNone, oSome, ret1, frc, frcs, onlyV, valO, Op.fz, mkO, boolOf, intOf, itemsOf, iSeq, tgN, T.ret_bind, T.ofOpt, retO, putO, flOf, some0, some1, Option.bind_some, Option.map_some, List.getElem?_cons_zero, List.getElem?_cons_succ, List.set_cons_zero, List.set_cons_succ, List.length_cons, List.length_nil, mkL, mkT, small, Bool.not_true, Bool.not_false, if_true, if_false, Bool.false_eq_true, ite_true, ite_false, Nat.reduceAdd, Nat.reduceLT, Nat.reduceLeDiff, e2, ch_bind]
      intro i hi
      have hi : i < 10 := hi
      have a1 : fAdd (.int 1) (.int (i : Nat)) = some0 (.int ((1 + i : Nat) : Int)) := by show some0 (.int (1 + (i : Int))) = _; congr 2
      have a2 : ((1 + i : Nat) : Int) ≤ 4096 ∧ -4096 ≤ ((1 + i : Nat) : Int) := by omega
      simp only [sSeq, sIf, sRet, sNx, sSet, sPar, sTgt, sDrop, toT, rOr, rAnd, rNot, rIf, runN, run1, run2, rCons, rNil, rBor, rVar, rMov, rC, rChn, rDisp, rCall, rSlice, oNone, oSome, ret1, frc, frcs, onlyV, valO, Op.fz, mkO, boolOf, intOf, itemsOf, iSeq, tgN, T.ret_bind, T.ofOpt, retO, putO, flOf, some0, some1, Option.bind_some, Option.map_some, List.getElem?_cons_zero, List.getElem?_cons_succ, List.set_cons_zero, List.set_cons_succ, List.length_cons, List.length_nil, mkL, mkT, small, Bool.not_true, Bool.not_false, if_true, if_false, Bool.false_eq_true, ite_true, ite_false, Nat.reduceAdd, Nat.reduceLT, Nat.reduceLeDiff, a1, if_pos a2, Int.toNat_natCast]
      refine ⟨rfl, ?_, ?_⟩ <;> (rw [List.length_map, List.length_range]; omega)) ⟨.ow, .inl rfl, rfl⟩ (fun ys _ d _ e ⟨f, hf, he⟩ => by
      subst he
      refine ⟨[some (.fz, .scr m), some (.fz, .drw), t, some (f, .lst (Sl xs)), s4, s5, s6, s7, s8, s9, s10, some (.fz, d)], rfl, wp_call ?_⟩
      refine wp_eq (x := ([.v .drw, .v (.lst (Sl xs))], [some (.fz, .scr m), some (.fz, .drw), t, some (.fz, .lst (Sl xs)), s4, s5, s6, s7, s8, s9, s10, some (.fz, d)])) (by rcases hf with rfl | rfl <;> rfl) ⟨_, rfl, ?_⟩
      refine T.wp_mono dw fun r ⟨d, e, ok, _, _, l⟩ => ?_
      rw [e]
      exact ⟨d, ⟨ok, by omega⟩, rfl, .fz, .inr rfl, rfl⟩)
  refine wp_set (T.wp_mono c fun r ⟨ys, ds, e, hy, hl, hp, ⟨f, hf, he⟩, q⟩ => ?_)
  subst he
  rw [q]
  exact ⟨_, rfl, f, ds, hf, by omega, hp, rfl⟩
@[irreducible] def outerR : RunS := (sSeq (sSet 3 (rCall f_w_words (rCons (rVar 1) rNil))) (sSeq someR (sSeq sixR sNx)))
theorem outer_wp {m : Nat} {t s3 s4 s5 s6 s7 s8 s9 s10 : Slot} : (outerR (EW m t s3 s4 s5 s6 s7 s8 s9 s10)).wp fun r => r.1 = .nx ∧ ∃ t s3 s4 s5 s6 s7 s8 s9 s10, r.2 = EW m t s3 s4 s5 s6 s7 s8 s9 s10 := by
  have ww := words_wp
  have od := @some_wp
  have ou := @six_wp
  unfold outerR
  generalize f_w_words = F at ww ⊢
  generalize someR = R1 at od ⊢
  generalize sixR = R3 at ou ⊢
  refine wp_nx (wp_set (wp_call ?_))
  refine wp_eq (x := ([.v .drw], EW m t s3 s4 s5 s6 s7 s8 s9 s10)) rfl ⟨_, rfl, ?_⟩
  refine T.wp_mono ww fun r ⟨xs, e, h5, so, nd, hn⟩ => ?_
  rw [e]
  have h0 : xs ≠ [] := fun z => by rw [z] at h5; cases h5
  refine ⟨EW m t (some (.ow, .lst (Sl xs))) s4 s5 s6 s7 s8 s9 s10, rfl, _, rfl, ?_⟩
  refine wp_nx (T.wp_mono (od h0 nd hn (by omega)) fun r ⟨f, ds, hf, hl, hd, e⟩ => ⟨_, e, ?_⟩)
  refine wp_nx (T.wp_mono (ou hf (.inl rfl) hd hl h0 nd hn (by omega)) fun r ⟨e1, s3', s4', s5', s6', s7', s8', s9', s10', e2⟩ => ⟨r.2, by rw [← e1], ?_⟩)
  rw [e2]
  exact ⟨rfl, _, _, _, _, _, _, _, _, _, rfl⟩
theorem law_true : ∀ m, m ≤ 63 → (r_law (lawEn 12 m)).wp Yes := by
  intro m hm
  have hR : r_law = (sSeq (sFor (iRange (rCons (run2 (rC (.int 4)) (runN (rCons (runN (rCons (rBor 0) rNil) fLen) (rCons (rC (.int 12)) rNil)) fMin2) fAdd) rNil)) none (tgN 2) outerR) (sSeq (sRet (rC (.bl true))) sNx)) := by
    unfold r_law outerR sixR someR quesR wishR madeS lastS bendR askR reprTR
    rfl
  rw [hR]
  have al := @outer_wp m
  generalize outerR = R at al ⊢
  have he : lawEn 12 m = EW m none none none none none none none none none := rfl
  rw [he]
  refine wp_nx (wp_for ?_)
  obtain ⟨n, hn, it⟩ : ∃ n : Nat, n ≤ 16 ∧ (iRange (rCons (run2 (rC (.int 4)) (runN (rCons (runN (rCons (rBor 0) rNil) fLen) (rCons (rC (.int 12)) rNil)) fMin2) fAdd) rNil)) (EW m none none none none none none none none none) = .ret ((List.range n).map fun k => D.int (0 + (k : Nat)), EW m none none none none none none none none none) := by
    have e1 : fLen [.scr m] = some0 (.int (m : Nat)) := rfl
    have e2 : fMin2 [.int (m : Nat), .int 12] = some0 (.int ((if 12 < m then 12 else m : Nat) : Int)) := by
      show some0 (.int (if (12 : Int) < (m : Int) then 12 else (m : Int))) = _
      by_cases h : 12 < m
      · rw [if_pos h, if_pos (by omega)]; rfl
      · rw [if_neg h, if_neg (by omega)]
    have e3 : fAdd (.int 4) (.int ((if 12 < m then 12 else m : Nat) : Int)) = some0 (.int ((4 + (if 12 < m then 12 else m) : Nat) : Int)) := by
      show some0 (.int (4 + _)) = _
      congr 2
    refine ⟨4 + (if 12 < m then 12 else m), by split <;> omega, ?_⟩
    generalize hk : 4 + (if 12 < m then 12 else m) = k at e3 ⊢
    have kl : k ≤ 16 := by rw [← hk]; split <;> omega
    have a2 : (k : Int) ≤ 4096 ∧ -4096 ≤ (k : Int) := by omega
    simp only [EW, iRange, sSeq, sIf, sRet, sNx, sSet, sPar, sTgt, sDrop, toT, rOr, rAnd, rNot, rIf, runN, run1, run2, rCons, rNil, rBor, rVar, rMov, rC, rChn, rDisp, rCall, rSlice, oNone, oSome, ret1, frc, frcs, onlyV, valO, Op.fz, mkO, boolOf, intOf, itemsOf, iSeq, tgN, T.ret_bind, T.ofOpt, retO, putO, flOf, some0, some1, Option.bind_some, Option.map_some, List.getElem?_cons_zero, List.getElem?_cons_succ, List.set_cons_zero, List.set_cons_succ, List.length_cons, List.length_nil, mkL, mkT, small, Bool.not_true, Bool.not_false, if_true, if_false, Bool.false_eq_true, ite_true, ite_false, Nat.reduceAdd, Nat.reduceLT, Nat.reduceLeDiff, e1, e2, e3, if_pos a2, Int.toNat_natCast]
  refine wp_eq it ?_
  refine wp_loop (fun _ en => ∃ t s3 s4 s5 s6 s7 s8 s9 s10, en = EW m t s3 s4 s5 s6 s7 s8 s9 s10) ?_ ?_ _ _ ⟨_, _, _, _, _, _, _, _, _, rfl⟩
  · rintro en ⟨t, s3, s4, s5, s6, s7, s8, s9, s10, rfl⟩
    exact ⟨_, rfl, wp_eq (x := (.rt (false, .bl true), EW m t s3 s4 s5 s6 s7 s8 s9 s10)) rfl ⟨false, rfl⟩⟩
  · rintro d _ en ⟨t, s3, s4, s5, s6, s7, s8, s9, s10, rfl⟩
    exact ⟨EW m (some (.fz, d)) s3 s4 s5 s6 s7 s8 s9 s10, rfl, T.wp_mono al fun r ⟨e1, e2⟩ => .inl ⟨e1, e2⟩⟩
end Sx
set_option Elab.async false
set_option linter.all false
set_option maxRecDepth 100000
set_option maxHeartbeats 4000000
set_option autoImplicit false
open PySem PySem.W PyProof.Rows in
set_option maxRecDepth 100000 in
set_option maxHeartbeats 0 in
theorem PySem.Challenge.cw_strangerows_k19_derivations_judged_holds : PySem.Challenge.rw_strangerows_k19_derivations_judged.Holds := by
  w_on; o_law; k_head; (case hw => w_witness2)
  k_fill
  refine Sx.walkG (l := PySem.Challenge.rw_strangerows_k19_derivations_judged) (n := 63) (k := 7) (sp := fun K => Sx.spLaw K 12 Sx.r_law) (x := "_law_script") rfl (by decide) rfl ⟨rfl, by decide, by decide⟩ (fun w h Y => PySem.W.kIn_of Y) ?F (fun K G a ns hl hO hS => ⟨a, ns, rfl, hS, hl, Sx.law_true ns.length hl, fun _ => rfl⟩)
  case F =>
    intro w mg fa h KX G hmg
    refine' Sx.all_mk KX G hmg ?a0 ?l0 ?c0 ?k0 ?a1 ?l1 ?c1 ?k1 ?a2 ?l2 ?c2 ?k2 ?a3 ?l3 ?c3 ?k3 ?a4 ?l4 ?c4 ?k4 ?a5 ?l5 ?c5 ?k5 ?a6 ?l6 ?c6 ?k6 ?a7 ?l7 ?c7 ?k7 ?a8 ?l8 ?c8 ?k8 ?a9 ?l9 ?c9 ?k9 ?a10 ?l10 ?c10 ?k10 ?a11 ?l11 ?c11 ?k11 ?a12 ?l12 ?c12 ?k12 ?a13 ?l13 ?c13 ?k13 ?a14 ?l14 ?c14 ?k14 ?a15 ?l15 ?c15 ?k15 ?a16 ?l16 ?c16 ?k16 ?v_LETTERS ?v_LONGEST_NAME ?z_abs ?z_all ?z_int ?z_isinstance ?z_len ?z_list ?z_min ?z_range ?z_repr ?z_sorted ?z_str ?z_tuple
    (case a0 => k_is)
    (case l0 => k_is)
    (case c0 => k_is)
    (case k0 => k_is)
    (case a1 => k_is)
    (case l1 => k_is)
    (case c1 => k_is)
    (case k1 => k_is)
    (case a2 => k_is)
    (case l2 => k_is)
    (case c2 => k_is)
    (case k2 => k_is)
    (case a3 => k_is)
    (case l3 => k_is)
    (case c3 => k_is)
    (case k3 => k_is)
    (case a4 => k_is)
    (case l4 => k_is)
    (case c4 => k_is)
    (case k4 => k_is)
    (case a5 => k_is)
    (case l5 => k_is)
    (case c5 => k_is)
    (case k5 => k_is)
    (case a6 => k_is)
    (case l6 => k_is)
    (case c6 => k_is)
    (case k6 => k_is)
    (case a7 => k_is)
    (case l7 => k_is)
    (case c7 => k_is)
    (case k7 => k_is)
    (case a8 => k_is)
    (case l8 => k_is)
    (case c8 => k_is)
    (case k8 => k_is)
    (case a9 => k_is)
    (case l9 => k_is)
    (case c9 => k_is)
    (case k9 => k_is)
    (case a10 => k_is)
    (case l10 => k_is)
    (case c10 => k_is)
    (case k10 => k_is)
    (case a11 => k_is)
    (case l11 => k_is)
    (case c11 => k_is)
    (case k11 => k_is)
    (case a12 => k_is)
    (case l12 => k_is)
    (case c12 => k_is)
    (case k12 => k_is)
    (case a13 => k_is)
    (case l13 => k_is)
    (case c13 => k_is)
    (case k13 => k_is)
    (case a14 => k_is)
    (case l14 => k_is)
    (case c14 => k_is)
    (case k14 => k_is)
    (case a15 => k_is)
    (case l15 => k_is)
    (case c15 => k_is)
    (case k15 => k_is)
    (case a16 => k_is)
    (case l16 => k_is)
    (case c16 => k_is)
    (case k16 => k_is)
    (case v_LETTERS => k_is)
    (case v_LONGEST_NAME => k_is)
    (case z_abs => k_is)
    (case z_all => k_is)
    (case z_int => k_is)
    (case z_isinstance => k_is)
    (case z_len => k_is)
    (case z_list => k_is)
    (case z_min => k_is)
    (case z_range => k_is)
    (case z_repr => k_is)
    (case z_sorted => k_is)
    (case z_str => k_is)
    (case z_tuple => k_is)
