import PyProof.Rows.All
import Wide.All
import OpenK.AllK
import Wide.FinOn
import HandS.ForMost
import HandS.Exc
import HandS.Lambda
import HandS.Deep
import HandS.TupAny
import HandS.TupMul
import HandS.TupLe
import HandS.IsInst
import HandS.Zip
import HandS.RaiseMore
import KE.DataEq
import KE.DataCmp
import KE.SortData
import HandS.Style
import HandS.Wide
import HandS.Strs
import PyProof.ReprBulk
import HandS.Flow
import HandS.Property
import HandS.Codes
import HandS.More
import HandS.Conv
import HandS.DictComp
import KE.GoesEnum
import KE.GoesMore
import HandS.DictEq
import HandS.Dict
import KE.SortKeyHeap
import HandS.SortKw
import HandS.EndTab
import HandS.SetFor
import KE.KExcSuper
import KE.KExcIs
import HandS.ExcIs
import HandS.DictTup
import KE.KDictCopyH
import HandS.Spec
import PyProof.DictUpdate
import PyProof.DictCopy
import PyProof.DictDisplay
import HandS.Text
import HandS.Star
import KE.KUnpackStar
import KE.KDictZip
import HandS.SetBool
import HandS.SetKeys
import PySem.Challenge.RW_strangerows_k79_tables_written_and_read
set_option Elab.async false
set_option linter.all false
set_option maxRecDepth 100000
set_option maxHeartbeats 4000000
namespace Sx
open PySem L2

/-! ### trees of draws -/
inductive T (α : Type) where
  | ret (a : α) | fail | ch (n : Nat) (k : Nat → T α)
namespace T
variable {α β γ : Type}
def bind : T α → (α → T β) → T β
  | .ret a, f => f a
  | .fail, _ => .fail
  | .ch n k, f => .ch n fun i => (k i).bind f
def wp : T α → (α → Prop) → Prop
  | .ret a, Q => Q a
  | .fail, _ => False
  | .ch n k, Q => ∀ i, i < n → (k i).wp Q
theorem wp_bind (t : T α) (f : α → T β) (Q : β → Prop) : (t.bind f).wp Q ↔ t.wp (fun a => (f a).wp Q) := by
  induction t with
  | ret a => exact Iff.rfl
  | fail => exact Iff.rfl
  | ch n k ih => exact ⟨fun h i hi => (ih i).mp (h i hi), fun h i hi => (ih i).mpr (h i hi)⟩
theorem wp_mono {t : T α} {Q R : α → Prop} (h : t.wp Q) (m : ∀ a, Q a → R a) : t.wp R := by
  induction t with
  | ret a => exact m a h
  | fail => exact h
  | ch n k ih => exact fun i hi => ih i (h i hi)
def ofOpt : Option α → T α
  | some a => .ret a
  | none => .fail
theorem wp_ofOpt {o : Option α} {Q : α → Prop} (h : (ofOpt o).wp Q) : ∃ a, o = some a ∧ Q a := by
  cases o with
  | none => exact h.elim
  | some a => exact ⟨a, rfl, h⟩
theorem bind_ret (t : T α) : t.bind .ret = t := by
  induction t with
  | ret a => rfl
  | fail => rfl
  | ch n k ih => show T.ch n _ = _; congr; funext i; exact ih i
theorem bind_assoc (t : T α) (f : α → T β) (g : β → T γ) : (t.bind f).bind g = t.bind fun a => (f a).bind g := by
  induction t with
  | ret a => rfl
  | fail => rfl
  | ch n k ih => show T.ch n _ = T.ch n _; congr; funext i; exact ih i
@[simp] theorem ret_bind (a : α) (f : α → T β) : (T.ret a).bind f = f a := rfl
@[simp] theorem fail_bind (f : α → T β) : (T.fail).bind f = .fail := rfl
end T

/-! ### data -/
inductive D where
  | non | bl (b : Bool) | int (i : Int) | str (x : Str)
  | lst (xs : List D) | tup (xs : List D)
  | dK (kvs : List (Key × D)) | dT (kvs : List (List Key × D))
  | obj (c : Nat) (fs : List (Str × D))
  | scr (n : Nat) | drw
  | ty (n : String) | cl (c : Nat) | adr (a : Addr) | exc (c : Nat) (fs : List (Str × D)) | tk (ks : List Key)
instance : Inhabited D := ⟨.non⟩

/-- the classes, and the tables of code objects of those defs that make lambdas -/
structure CT where
  c : Nat → Addr
  tb : List (Addr × Str)
instance : CoeFun CT (fun _ => Nat → Addr) := ⟨CT.c⟩
/-- what is fixed for a law: the written part, the two lists of the draws, the classes -/
structure Wd where
  K : PySem.W.Frag
  da : Addr
  db : Addr
  cls : CT
abbrev Wd.tb (W : Wd) : List (Addr × Str) := W.cls.tb

/-- a written tuple -/
def Wr (W : Wd) (a : Addr) (xs : List V) : Prop := SqT W.K (fun _ => none) a xs
/-- the object at the top is in S (but for the draws; a tuple always is) -/
def Tin (S : Addr → Prop) : V → D → Prop
  | _, .drw => True
  | _, .scr _ => True
  | _, .tup _ => True
  | _, .cl _ => True
  | _, .adr _ => True
  | .ref a, _ => S a
  | _, _ => True
/-- a caught error: its class, its dict -/
def ExcO (cls : Value) (dv : Option Addr) (a : Addr) : HO := .ext fun h => ∃ oe, h.get? a = some oe ∧ L2.Zc cls dv oe ∧ ∃ vs, oe.data = .fields vs
mutual
/-- v stands for the data d in the heap H; all objects within (not the one at the top) are in S -/
inductive Dv (W : Wd) (S : Addr → Prop) (H : Hp) : V → D → Prop
  | non : Dv W S H .non .non
  | bl (b : Bool) : Dv W S H (.bl b) (.bl b)
  | int (i : Int) : Dv W S H (.int i) (.int i)
  | str (x : Str) : Dv W S H (.str x) (.str x)
  | lst {a : Addr} {xs : List V} {ds : List D} : H a = some (.lst xs) → DvL W S H xs ds → Dv W S H (.ref a) (.lst ds)
  | tup {a : Addr} {xs : List V} {ds : List D} : (S a ∧ H a = some (.tup xs)) ∨ Wr W a xs → DvL W S H xs ds → Dv W S H (.ref a) (.tup ds)
  | dK {a : Addr} {kvs : List (Key × V)} {ds : List (Key × D)} : Rd H a (.dK kvs) → DvP W S H kvs ds → Dv W S H (.ref a) (.dK ds)
  | dT {a : Addr} {kvs : List (List Key × V)} {ds : List (List Key × D)} : H a = some (.dT kvs) → DvP W S H kvs ds → Dv W S H (.ref a) (.dT ds)
  | obj {a dx : Addr} {c : Nat} {fs : List (Str × V)} {ds : List (Str × D)} : H a = some (.ins (W.cls c) dx fs) → DvP W S H fs ds → Dv W S H (.ref a) (.obj c ds)
  | scr {a : Addr} {xs : List V} : (S a ∧ SqL W.K H a xs) ∨ (∀ G : Hp, SqL W.K G a xs) → Dv W S H (.ref a) (.scr xs.length)
  | drw : Dv W S H (.ref W.da) .drw
  | ty (n : String) : Dv W S H (.ty n) (.ty n)
  | cl (c : Nat) : Dv W S H (.ref (W.cls c)) (.cl c)
  | adr (a : Addr) : Dv W S H (.ref a) (.adr a)
  | exc {a dd : Addr} {c : Nat} {fs : List (Str × V)} {ds : List (Str × D)} : H a = some (ExcO (.ref (W.cls c)) (some dd) a) → S dd → H dd = some (.xd fs) → DvP W S H fs ds → Dv W S H (.ref a) (.exc c ds)
  | exc0 {a : Addr} {c : Nat} : H a = some (ExcO (.ref (W.cls c)) none a) → Dv W S H (.ref a) (.exc c [])
  /-- a tracked tuple of texts and numbers: it may be a key -/
  | tk {a : Addr} {ks : List Key} : H a = some (.tup (ks.map kV)) → Dv W S H (.ref a) (.tk ks)
inductive DvL (W : Wd) (S : Addr → Prop) (H : Hp) : List V → List D → Prop
  | nil : DvL W S H [] []
  | cons {v : V} {vs : List V} {d : D} {ds : List D} : Tin S v d → Dv W S H v d → DvL W S H vs ds → DvL W S H (v :: vs) (d :: ds)
inductive DvP (W : Wd) (S : Addr → Prop) (H : Hp) : {κ : Type} → List (κ × V) → List (κ × D) → Prop
  | nil {κ : Type} : DvP W S H (κ := κ) [] []
  | cons {κ : Type} {k : κ} {v : V} {vs : List (κ × V)} {d : D} {ds : List (κ × D)} : Tin S v d → Dv W S H v d → DvP W S H vs ds → DvP W S H ((k, v) :: vs) ((k, d) :: ds)
end
/-- frozen -/
def Dz (W : Wd) (S : Addr → Prop) (H : Hp) (v : V) (d : D) : Prop := Tin S v d ∧ Dv W S H v d

theorem SqL.at {K : PySem.W.Frag} {H H' : Hp} {a : Addr} {xs : List V} (e : H' a = H a) (h : SqL K H a xs) : SqL K H' a xs := by
  rcases h with (h | ⟨o, h⟩) | h
  · exact .inl (.inl (by rw [e]; exact h))
  · exact .inl (.inr ⟨o, by rw [e]; exact h⟩)
  · exact .inr h
theorem rd_at {H H' : Hp} {a : Addr} {u : HO} (e : H' a = H a) (h : Rd H a u) : Rd H' a u := by
  unfold Rd
  rw [e]
  exact h
theorem Tin.mono {S S' : Addr → Prop} (hS : ∀ a, S a → S' a) : ∀ {v : V} {d : D}, Tin S v d → Tin S' v d := by
  intro v d h
  cases v <;> cases d <;> first | exact trivial | exact hS _ h
mutual
theorem Dv.mono {W : Wd} {S S' : Addr → Prop} {H H' : Hp} (hS : ∀ a, S a → S' a) (hH : ∀ a, S a → H' a = H a) : ∀ {v : V} {d : D}, Dv W S H v d → Tin (fun a => H' a = H a) v d → Dv W S' H' v d
  | _, _, .non, _ => .non
  | _, _, .bl b, _ => .bl b
  | _, _, .int i, _ => .int i
  | _, _, .str x, _ => .str x
  | _, _, .lst h r, t => .lst (Eq.trans t h) (DvL.mono hS hH r)
  | _, _, .tup h r, t => .tup (h.imp (fun ⟨s, q⟩ => ⟨hS _ s, (hH _ s).trans q⟩) id) (DvL.mono hS hH r)
  | _, _, .dK h r, t => .dK (rd_at t h) (DvP.mono hS hH r)
  | _, _, .dT h r, t => .dT (Eq.trans t h) (DvP.mono hS hH r)
  | _, _, .obj h r, t => .obj (Eq.trans t h) (DvP.mono hS hH r)
  | _, _, .scr h, t => .scr (h.imp (fun ⟨s, q⟩ => ⟨hS _ s, SqL.at (hH _ s) q⟩) id)
  | _, _, .drw, _ => .drw
  | _, _, .ty n, _ => .ty n
  | _, _, .cl c, _ => .cl c
  | _, _, .adr a, _ => .adr a
  | _, _, .exc e s h r, t => .exc (Eq.trans t e) (hS _ s) ((hH _ s).trans h) (DvP.mono hS hH r)
  | _, _, .exc0 e, t => .exc0 (Eq.trans t e)
  | _, _, .tk e, t => .tk (Eq.trans t e)
theorem DvL.mono {W : Wd} {S S' : Addr → Prop} {H H' : Hp} (hS : ∀ a, S a → S' a) (hH : ∀ a, S a → H' a = H a) : ∀ {vs : List V} {ds : List D}, DvL W S H vs ds → DvL W S' H' vs ds
  | _, _, .nil => .nil
  | _, _, .cons t h r => .cons (t.mono hS) (Dv.mono hS hH h (t.mono hH)) (DvL.mono hS hH r)
theorem DvP.mono {W : Wd} {S S' : Addr → Prop} {H H' : Hp} (hS : ∀ a, S a → S' a) (hH : ∀ a, S a → H' a = H a) : ∀ {κ : Type} {vs : List (κ × V)} {ds : List (κ × D)}, DvP W S H vs ds → DvP W S' H' vs ds
  | _, _, _, .nil => .nil
  | _, _, _, .cons t h r => .cons (t.mono hS) (Dv.mono hS hH h (t.mono hH)) (DvP.mono hS hH r)
end
theorem Dz.mono {W : Wd} {S S' : Addr → Prop} {H H' : Hp} (hS : ∀ a, S a → S' a) (hH : ∀ a, S a → H' a = H a) {v : V} {d : D} (h : Dz W S H v d) : Dz W S' H' v d :=
  ⟨h.1.mono hS, h.2.mono hS hH (h.1.mono hH)⟩
end Sx
set_option Elab.async false
set_option linter.all false
set_option maxRecDepth 100000
set_option maxHeartbeats 4000000
set_option autoImplicit false
namespace Sx
open PySem L2

/-- a local name's object: frozen; its own; its own, but locked while a loop walks it -/
inductive Fg where
  | fz | ow | lk
  deriving DecidableEq
abbrev Slot := Option (Fg × D)
abbrev En := List Slot
/-- a result that is on its way: frozen data; a new object that nobody else holds; the object that the local name in slot i owns -/
inductive Op where
  | v (d : D) | fr (d : D) | b (i : Nat)
def Op.fz : Op → Op
  | .fr d => .v d
  | o => o
def frc (en : En) : Op → Option D
  | .v d => some d
  | .fr d => some d
  | .b i => match en[i]? with
    | some (some (_, d)) => some d
    | _ => none
def mkO (r : Bool × D) : Op := if r.1 then .fr r.2 else .v r.2

/-- the draws' two lists -/
def DrawOk (W : Wd) (H : Hp) : Prop := W.da ≠ W.db ∧ ∃ (ns : List Int) (i j k : Int), H W.da = some (.lst [.ref W.db, .int i, .int j, .int k]) ∧ H W.db = some (.lst (ns.map V.int)) ∧ ns ≠ [] ∧ ns.length ≤ 100 ∧ ∀ n ∈ ns, 0 ≤ n

/-- what is neither a table of code objects nor a code object -/
def NX (o : HO) : Prop := (∀ ps, o ≠ .tbl ps) ∧ ∀ c q, o ≠ LamX.CodeO c q
/-- the tables, and: what stands as a tuple is shared -/
def TbS (W : Wd) (S : Addr → Prop) (H : Hp) : Prop := LamX.Tabs W.tb H ∧ ∀ a xs, H a = some (.tup xs) → S a
theorem TbS.ext {W : Wd} {S S' : Addr → Prop} {H H' : Hp} (t : TbS W S H) (hH : ∀ a o, H a = some o → H' a = some o) (hS : ∀ a, S a → S' a) (ht : ∀ a xs, H' a = some (.tup xs) → H a = some (.tup xs) ∨ S' a) : TbS W S' H' :=
  ⟨t.1.ext hH, fun a xs e => (ht a xs e).elim (fun z => hS a (t.2 a xs z)) id⟩
theorem TbS.sub {W : Wd} {S S' : Addr → Prop} {H : Hp} (t : TbS W S H) (hS : ∀ a, S a → S' a) : TbS W S' H := ⟨t.1, fun a xs e => hS a (t.2 a xs e)⟩
theorem tup_upd {H : Hp} {p : Addr} {u : HO} {S : Addr → Prop} (nu : ∀ xs, u ≠ .tup xs := by intro _ z; cases z) : ∀ a xs, L2.upd H p u a = some (.tup xs) → H a = some (.tup xs) ∨ S a := fun a xs e => by
  by_cases z : a = p
  · rw [z, upd_same] at e
    cases e
    exact absurd rfl (nu xs)
  · rw [upd_ne z] at e
    exact .inl e
theorem tup_new {H : Hp} {p : Addr} {u : HO} {S : Addr → Prop} (h : S p) : ∀ a xs, L2.upd H p u a = some (.tup xs) → H a = some (.tup xs) ∨ S a := fun a xs e => by
  by_cases z : a = p
  · exact .inr (z ▸ h)
  · rw [upd_ne z] at e
    exact .inl e
theorem tabs_upd0 {T : List (Addr × Str)} {H : Hp} {p : Addr} {o u : HO} (t : LamX.Tabs T H) (h : H p = some o) (n : NX o) : LamX.Tabs T (L2.upd H p u) := fun x hx => by
  obtain ⟨ps, h1, h2, h3⟩ := t x hx
  have ne1 : x.1 ≠ p := fun z => by rw [z, h] at h1; cases h1; exact n.1 _ rfl
  refine ⟨ps, by rw [upd_ne ne1]; exact h1, h2, fun pos cv hc => ?_⟩
  obtain ⟨c, e1, e2⟩ := h3 pos cv hc
  exact ⟨c, e1, by rw [upd_ne fun z => by rw [z, h] at e2; cases e2; exact n.2 _ _ rfl]; exact e2⟩
theorem Tabs.upd {W : Wd} {S : Addr → Prop} {H : Hp} {p : Addr} {o u : HO} (t : TbS W S H) (h : H p = some o) (n : NX o) (nu : ∀ xs, u ≠ .tup xs := by intro _ z; cases z) : TbS W S (L2.upd H p u) :=
  ⟨tabs_upd0 t.1 h n, fun a xs e => (tup_upd (S := S) nu a xs e).elim (t.2 a xs) id⟩
theorem nx_lst (xs : List V) : NX (.lst xs) := ⟨(fun _ z => by cases z), (fun _ _ z => by unfold LamX.CodeO at z; cases z)⟩
theorem nx_dK (xs : List (Key × V)) : NX (.dK xs) := ⟨(fun _ z => by cases z), (fun _ _ z => by unfold LamX.CodeO at z; cases z)⟩
theorem nx_ins (a b : Addr) (xs : List (Str × V)) : NX (.ins a b xs) := ⟨(fun _ z => by cases z), (fun _ _ z => by unfold LamX.CodeO at z; cases z)⟩
/-- not the second list of the draws, not a table -/
def NB (W : Wd) (p : Addr) : Prop := p ≠ W.db ∧ ∀ x ∈ W.tb, p ≠ x.1
def NPb (W : Wd) (P : Addr → Prop) : Prop := ¬ P W.db ∧ ∀ x ∈ W.tb, ¬ P x.1
theorem NPb.nb {W : Wd} {P : Addr → Prop} (h : NPb W P) {a : Addr} (p : P a) : NB W a := ⟨fun z => h.1 (z ▸ p), fun x hx z => h.2 x hx (z ▸ p)⟩
theorem NPb.sub {W : Wd} {P Q : Addr → Prop} (h : NPb W P) (k : ∀ a, Q a → P a) : NPb W Q := ⟨fun z => h.1 (k _ z), fun x hx z => h.2 x hx (k _ z)⟩
theorem NPb.add {W : Wd} {P : Addr → Prop} {p : Addr} (h : NPb W P) (n : NB W p) : NPb W (fun a => P a ∨ a = p) := ⟨fun z => z.elim h.1 fun e => n.1 e.symm, fun x hx z => z.elim (h.2 x hx) fun e => n.2 x hx e.symm⟩
/-- an address where nothing stands is none of these -/
theorem NB.of_none {W : Wd} {S : Addr → Prop} {H : Hp} {p : Addr} (hb : ∃ o, H W.db = some o) (t : TbS W S H) (h : H p = none) : NB W p :=
  ⟨(fun z => by obtain ⟨o, e⟩ := hb; rw [← z, h] at e; cases e), (fun x hx z => by obtain ⟨ps, h1, _⟩ := t.1 x hx; rw [← z, h] at h1; cases h1)⟩
structure Rel (W : Wd) (S P : Addr → Prop) (en : En) (σ : St) (H : Hp) : Prop where
  sp : ∀ a, S a → P a
  pd : ∀ a, P a → ∃ o, H a = some o
  slot : ∀ (i : Nat) (f : Fg) (d : D), en[i]? = some (some (f, d)) → ∃ v, σ[i]? = some (some v) ∧ Dv W S H v d ∧ (f = .fz → Tin S v d) ∧ (f ≠ .fz → ∃ p o, v = .ref p ∧ ¬ S p ∧ (f = .ow → ¬ P p) ∧ (f = .lk → P p) ∧ p ≠ W.da ∧ NB W p ∧ H p = some o)
  inj : ∀ (i j : Nat) (f g : Fg) (d e : D) (v : V), en[i]? = some (some (f, d)) → en[j]? = some (some (g, e)) → f ≠ .fz → g ≠ .fz → σ[i]? = some (some v) → σ[j]? = some (some v) → i = j
  len : en.length = σ.length
  dr : DrawOk W H
  drP : ¬ P W.da ∧ NPb W P
  tb : TbS W S H

structure Ext (S P : Addr → Prop) (H : Hp) (S' P' : Addr → Prop) (H' : Hp) : Prop where
  s : ∀ a, S a → S' a
  p : ∀ a, P a → P' a
  h : ∀ a, P a → H' a = H a
  n : ∀ a, S' a → S a ∨ ¬ P a
theorem Ext.refl {S P : Addr → Prop} {H : Hp} : Ext S P H S P H := ⟨fun _ h => h, fun _ h => h, fun _ _ => rfl, fun _ h => .inl h⟩
theorem Ext.trans {S P S1 P1 S2 P2 : Addr → Prop} {H H1 H2 : Hp} (a : Ext S P H S1 P1 H1) (b : Ext S1 P1 H1 S2 P2 H2) : Ext S P H S2 P2 H2 :=
  ⟨fun x h => b.s x (a.s x h), fun x h => b.p x (a.p x h), fun x h => (b.h x (a.p x h)).trans (a.h x h), fun x h => (b.n x h).elim (a.n x) fun q => .inr fun z => q (a.p x z)⟩

/-- p is a free object: protected by nobody, owned by no slot -/
def Free (W : Wd) (P : Addr → Prop) (en : En) (σ : St) (p : Addr) : Prop := ¬ P p ∧ p ≠ W.da ∧ NB W p ∧ ∀ (i : Nat) (f : Fg) (d : D), en[i]? = some (some (f, d)) → f ≠ .fz → σ[i]? ≠ some (some (V.ref p))
def OpOk (W : Wd) (S P : Addr → Prop) (en : En) (σ : St) (H : Hp) (v : V) : Op → Prop
  | .v d => Dz W S H v d
  | .fr d => Dv W S H v d ∧ ∃ p o, v = .ref p ∧ Free W P en σ p ∧ H p = some o
  | .b i => σ[i]? = some (some v)
/-- frozen data, or a name's -/
def Pend (W : Wd) (S : Addr → Prop) (σ : St) (H : Hp) (v : V) : Op → Prop
  | .v d => Dz W S H v d
  | .fr _ => False
  | .b i => σ[i]? = some (some v)

section
variable {W : Wd} {S P S' P' : Addr → Prop} {en : En} {σ : St} {H H' : Hp} {v : V} {d : D} {o : Op}
theorem Rel.top (R : Rel W S P en σ H) (e : Ext S P H S' P' H') (h : Dz W S H v d) : Dz W S' H' v d := h.mono e.s fun a s => e.h a (R.sp a s)
theorem Pend.ext (R : Rel W S P en σ H) (e : Ext S P H S' P' H') (h : Pend W S σ H v o) : Pend W S' σ H' v o := by
  cases o with
  | v d => exact R.top e h
  | fr d => exact h
  | b i => exact h
/-- what a name or data stands for now -/
theorem Pend.now (R : Rel W S P en σ H) (h : Pend W S σ H v o) (q : frc en o = some d) : Dv W S H v d := by
  cases o with
  | v d' => cases q; exact h.2
  | fr d => exact h.elim
  | b i =>
    cases e : en[i]? with
    | none => simp only [frc, e] at q; cases q
    | some s =>
      cases s with
      | none => simp only [frc, e] at q; cases q
      | some fd =>
        obtain ⟨f, d'⟩ := fd
        simp only [frc, e] at q
        cases q
        obtain ⟨v', e', dv, _⟩ := R.slot i f d e
        have h' : σ[i]? = some (some v) := h
        rw [h'] at e'
        cases e'
        exact dv
def add (S : Addr → Prop) (p : Addr) : Addr → Prop := fun a => S a ∨ a = p
/-- a free object is frozen -/
theorem Rel.freeze {p : Addr} {u : HO} (R : Rel W S P en σ H) (hp : Free W P en σ p) (ho : H p = some u) : Ext S P H (add S p) (add P p) H ∧ Rel W (add S p) (add P p) en σ H := by
  refine ⟨⟨fun a h => .inl h, fun a h => .inl h, fun _ _ => rfl, fun a h => h.imp id fun e => by rw [e]; exact hp.1⟩, ?_⟩
  refine ⟨fun a h => h.imp (R.sp a) id, fun a h => h.elim (R.pd a) fun e => ⟨u, by rw [e]; exact ho⟩, fun i f d e => ?_, R.inj, R.len, R.dr, ?_, R.tb.sub fun a h => .inl h⟩
  · obtain ⟨v, hv, dv, t, ow⟩ := R.slot i f d e
    refine ⟨v, hv, dv.mono (fun a h => .inl h) (fun _ _ => rfl) ?_, fun z => (t z).mono fun a h => .inl h, fun z => ?_⟩
    · cases v <;> cases d <;> first | exact trivial | exact rfl
    · obtain ⟨q, o, ev, hs, hq, hl, h1, h2, h3⟩ := ow z
      have ne : q ≠ p := fun eq => by
        subst eq
        exact hp.2.2.2 i f d e z (by rw [hv, ev])
      exact ⟨q, o, ev, fun w => w.elim hs ne, fun y w => w.elim (hq y) ne, fun y => .inl (hl y), h1, h2, h3⟩
  · exact ⟨fun w => w.elim R.drP.1 fun e => hp.2.1 e.symm, R.drP.2.add hp.2.2.1⟩
/-- a result is put to the frozen ones -/
theorem OpOk.settle (R : Rel W S P en σ H) (h : OpOk W S P en σ H v o) : ∃ S' P', Ext S P H S' P' H ∧ Rel W S' P' en σ H ∧ Pend W S' σ H v o.fz := by
  cases o with
  | v d => exact ⟨S, P, .refl, R, h⟩
  | b i => exact ⟨S, P, .refl, R, h⟩
  | fr d =>
    obtain ⟨dv, p, u, rfl, hf, hu⟩ := h
    obtain ⟨e, R'⟩ := R.freeze hf hu
    refine ⟨_, _, e, R', ?_, dv.mono e.s (fun _ _ => rfl) ?_⟩
    · cases d <;> first | exact trivial | exact Or.inr rfl
    · cases d <;> first | exact trivial | exact rfl
end

/-- what a rule's end wants, by data: nothing that stood is changed -/
def PRes (W : Wd) (S : Addr → Prop) (H : Hp) (r : Bool × D) (Q : VK) : Prop := ∀ (v : V) (H' : Hp) (S' : Addr → Prop), (∀ a o, H a = some o → H' a = some o) → (∀ a, S a → S' a) → (∀ a, S' a → S a ∨ H a = none) → (∀ a, S' a → ∃ o, H' a = some o) → (∀ a xs, H' a = some (.tup xs) → H a = some (.tup xs) ∨ S' a) →
  Dv W S' H' v r.2 → (r.1 = false → Tin S' v r.2) → (r.1 = true → ∃ p o, v = .ref p ∧ H p = none ∧ ¬ S' p ∧ H' p = some o) → Q v H'
def DomS (S : Addr → Prop) (H : Hp) : Prop := ∀ a, S a → ∃ o, H a = some o
theorem Rel.dom {W : Wd} {S P : Addr → Prop} {en : En} {σ : St} {H : Hp} (R : Rel W S P en σ H) : DomS S H := fun a h => R.pd a (R.sp a h)
section
variable {W : Wd} {S P S' P' : Addr → Prop} {en : En} {σ : St} {H H' : Hp} {v : V} {r : Bool × D}
/-- behind a rule that changes nothing -/
theorem Rel.same (R : Rel W S P en σ H) (hH : ∀ a o, H a = some o → H' a = some o) (hS : ∀ a, S a → S' a) (hn : ∀ a, S' a → S a ∨ H a = none) (hd : ∀ a, S' a → ∃ o, H' a = some o) (ht : ∀ a xs, H' a = some (.tup xs) → H a = some (.tup xs) ∨ S' a) :
    Ext S P H S' (fun a => P a ∨ S' a) H' ∧ Rel W S' (fun a => P a ∨ S' a) en σ H' := by
  have hP : ∀ a, P a → H' a = H a := fun a h => by obtain ⟨o, e⟩ := R.pd a h; rw [e]; exact hH a o e
  refine ⟨⟨hS, fun a h => .inl h, hP, fun a h => (hn a h).imp id fun e z => by obtain ⟨o, q⟩ := R.pd a z; rw [e] at q; cases q⟩, ?_⟩
  refine ⟨fun a h => .inr h, fun a h => h.elim (fun z => by obtain ⟨o, e⟩ := R.pd a z; exact ⟨o, hH a o e⟩) (hd a), fun i f d e => ?_, R.inj, R.len, ?_, ?_, R.tb.ext hH hS ht⟩
  · obtain ⟨v, hv, dv, t, ow⟩ := R.slot i f d e
    refine ⟨v, hv, dv.mono hS (fun a h => hP a (R.sp a h)) ?_, fun z => (t z).mono hS, fun z => ?_⟩
    · by_cases hf : f = .fz
      · exact (t hf).mono fun a h => hP a (R.sp a h)
      · obtain ⟨q, o, ev, _, _, _, _, _, h3⟩ := ow hf
        subst ev
        have : H' q = H q := by rw [h3]; exact hH q o h3
        cases d <;> first | exact trivial | exact this
    · obtain ⟨q, o, ev, hs, hq, hl, h1, h2, h3⟩ := ow z
      have ns : ¬ S' q := fun w => (hn q w).elim hs fun e => by rw [h3] at e; cases e
      exact ⟨q, o, ev, ns, fun y w => w.elim (hq y) ns, fun y => .inl (hl y), h1, h2, hH q o h3⟩
  · obtain ⟨ne, ns, i, j, k, h1, h2, h3⟩ := R.dr
    exact ⟨ne, ns, i, j, k, hH _ _ h1, hH _ _ h2, h3⟩
  · obtain ⟨ne, ns, i, j, k, h1, h2, h3⟩ := R.dr
    refine ⟨fun w => w.elim R.drP.1 fun w => (hn _ w).elim (fun s => R.drP.1 (R.sp _ s)) fun e => ?_, fun w => w.elim R.drP.2.1 fun w => (hn _ w).elim (fun s => R.drP.2.1 (R.sp _ s)) fun e => ?_, fun x hx w => w.elim (R.drP.2.2 x hx) fun w => (hn _ w).elim (fun s => R.drP.2.2 x hx (R.sp _ s)) fun e => ?_⟩
    · rw [h1] at e; cases e
    · rw [h2] at e; cases e
    · obtain ⟨ps, h1, _⟩ := R.tb.1 x hx
      rw [h1] at e; cases e
/-- more objects; those that are tuples are shared -/
theorem Rel.grow (R : Rel W S P en σ H) (hk : ∀ a o, H a = some o → H' a = some o) : ∃ S' P', Ext S P H S' P' H' ∧ Rel W S' P' en σ H' := by
  obtain ⟨e, R'⟩ := R.same hk (S' := fun a => S a ∨ (H a = none ∧ ∃ xs, H' a = some (.tup xs))) (fun _ h => .inl h) (fun a h => h.imp id And.left) (fun a h => h.elim (fun h => by obtain ⟨o, z⟩ := R.dom a h; exact ⟨o, hk a o z⟩) fun h => by obtain ⟨_, xs, z⟩ := h; exact ⟨_, z⟩) (fun a xs z => by
    rcases q : H a with _ | o
    · exact .inr (.inr ⟨rfl, xs, z⟩)
    · have := hk a o q
      rw [z] at this
      cases this
      exact .inl rfl)
  exact ⟨_, _, e, R'⟩
/-- a rule's end, for a result that is on its way -/
theorem Rel.res {Q : VK} (R : Rel W S P en σ H) (h : ∀ v H' S' P', Ext S P H S' P' H' → Rel W S' P' en σ H' → OpOk W S' P' en σ H' v (mkO r) → Q v H') : PRes W S H r Q := by
  intro v H' S' hH hS hn hd ht dv t ow
  obtain ⟨e, R'⟩ := R.same hH hS hn hd ht
  refine h v H' _ _ e R' ?_
  obtain ⟨f, d⟩ := r
  cases f with
  | false => exact ⟨t rfl, dv⟩
  | true =>
    obtain ⟨p, o, ev, hp, hs, hu⟩ := ow rfl
    subst ev
    refine ⟨dv, p, o, rfl, ⟨fun w => w.elim (fun z => by obtain ⟨o', q⟩ := R.pd p z; rw [hp] at q; cases q) hs, ?_, ?_, fun i f' d' e' nf q => ?_⟩, hu⟩
    · obtain ⟨ne, ns, i, j, k, h1, h2, h3⟩ := R.dr
      rintro rfl; rw [hp] at h1; cases h1
    · obtain ⟨ne, ns, i, j, k, h1, h2, h3⟩ := R.dr
      exact NB.of_none ⟨_, h2⟩ R.tb hp
    · obtain ⟨v', hv', _, _, ow'⟩ := R.slot i f' d' e'
      obtain ⟨q', o', ev, _, _, _, _, _, h3⟩ := ow' nf
      rw [hv'] at q
      cases q
      cases ev
      rw [hp] at h3; cases h3
end

/-! ### runs -/
abbrev Run := En → T (Op × En)
def ret1 (o : Option (Bool × D)) (en : En) : T (Op × En) := (T.ofOpt o).bind fun r => .ret (mkO r, en)
/-- an expression's reading by a run -/
def TV (W : Wd) (run : Run) : TE := fun σ H Q => ∃ S P en, Rel W S P en σ H ∧ (run en).wp fun r => ∀ v H' S' P', Ext S P H S' P' H' → Rel W S' P' r.2 σ H' → OpOk W S' P' r.2 σ H' v r.1 → Q v H'
theorem pe_weak {X : Cx} {e : Expr} {t t' : TE} (h : PE X e t) (w : ∀ σ H Q, t' σ H Q → t σ H Q) : PE X e t' := ⟨fun pins s σ H Q I q => h.run pins s σ H Q I (w σ H Q q)⟩
theorem pt_weak {X : Cx} {e : Expr} {t t' : TT} (h : PT X e t) (w : ∀ σ H Q, t' σ H Q → t σ H Q) : PT X e t' := ⟨fun pins s σ H Q I q => h.run pins s σ H Q I (w σ H Q q)⟩
section
variable {W : Wd} {σ : St} {H : Hp} {Q : VK} {run run' : Run}
/-- one expression, settled; then what follows -/
theorem TV.use {α : Type} {S P : Addr → Prop} {en : En} {f : Op × En → T α} {Q' : V → Hp → Prop} {R : α → Prop} (hR : Rel W S P en σ H) (h : ((run en).bind f).wp R)
    (k : ∀ (r : Op × En) v H' S' P', Ext S P H S' P' H' → Rel W S' P' r.2 σ H' → Pend W S' σ H' v r.1.fz → (f r).wp R → Q' v H') : TV W run σ H Q' := by
  refine ⟨S, P, en, hR, T.wp_mono ((T.wp_bind _ _ _).mp h) fun r q v H' S' P' e R' ok => ?_⟩
  obtain ⟨S2, P2, e2, R2, pe⟩ := ok.settle R'
  exact k r v H' S2 P2 (e.trans e2) R2 pe q
end
/-- a rule by one value -/
def Pure1 (W : Wd) (r : V → Hp → VK → Prop) (f : D → Option (Bool × D)) : Prop := ∀ S H x d c Q, DomS S H → Dv W S H x d → f d = some c → PRes W S H c Q → r x H Q
def Pure2 (W : Wd) (r : R2) (f : D → D → Option (Bool × D)) : Prop := ∀ S H x y d e c Q, DomS S H → Dv W S H x d → Dv W S H y e → f d e = some c → PRes W S H c Q → r x y H Q
/-- the run of one operand and a function -/
def run1 (ra : Run) (f : D → Option (Bool × D)) : Run := fun en => (ra en).bind fun a => ret1 ((frc a.2 a.1.fz).bind f) a.2
def run2 (ra rb : Run) (f : D → D → Option (Bool × D)) : Run := fun en => (ra en).bind fun a => (rb a.2).bind fun b => ret1 ((frc b.2 a.1.fz).bind fun x => (frc b.2 b.1.fz).bind fun y => f x y) b.2
section
variable {W : Wd} {X : Cx} {ra rb : Run} {a b : Expr} {pos : Pos}
theorem wp_ret1 {o : Option (Bool × D)} {en : En} {R : Op × En → Prop} (h : (ret1 o en).wp R) : ∃ c, o = some c ∧ R (mkO c, en) := by
  obtain ⟨c, e, q⟩ := T.wp_ofOpt ((T.wp_bind _ _ _).mp h)
  exact ⟨c, e, q⟩
theorem tv1 {r : V → Hp → VK → Prop} {f : D → Option (Bool × D)} (hr : Pure1 W r f) {σ : St} {H : Hp} {Q : VK} (h : TV W (run1 ra f) σ H Q) : TV W ra σ H fun x H1 => r x H1 Q := by
  obtain ⟨S, P, en, R, w⟩ := h
  refine TV.use R w fun c v H1 S1 P1 e1 R1 p1 q => ?_
  obtain ⟨z, ez, qz⟩ := wp_ret1 q
  obtain ⟨x, ex, fx⟩ := Option.bind_eq_some_iff.mp ez
  exact hr S1 H1 v x z Q R1.dom (p1.now R1 ex) fx (R1.res fun v' H' S' P' e' R' ok => qz v' H' S' P' (e1.trans e') R' ok)
theorem tv2 {r : R2} {f : D → D → Option (Bool × D)} (hr : Pure2 W r f) {σ : St} {H : Hp} {Q : VK} (h : TV W (run2 ra rb f) σ H Q) : TV W ra σ H fun x H1 => TV W rb σ H1 fun y H2 => r x y H2 Q := by
  obtain ⟨S, P, en, R, w⟩ := h
  refine TV.use R w fun c v H1 S1 P1 e1 R1 p1 q => ?_
  refine TV.use R1 q fun c2 u H2 S2 P2 e2 R2 p2 q2 => ?_
  obtain ⟨z, ez, qz⟩ := wp_ret1 q2
  obtain ⟨x, ex, ez⟩ := Option.bind_eq_some_iff.mp ez
  obtain ⟨y, ey, fx⟩ := Option.bind_eq_some_iff.mp ez
  exact hr S2 H2 v u x y z Q R2.dom ((p1.ext R1 e2).now R2 ex) (p2.now R2 ey) fx (R2.res fun v' H' S' P' e' R' ok => qz v' H' S' P' (e1.trans (e2.trans e')) R' ok)
theorem x_bin {op : Operator} {r : R2} {f : D → D → Option (Bool × D)} (ho : OpR X (binaryOp op) r) (hr : Pure2 W r f) (ha : PE X a (TV W ra)) (hb : PE X b (TV W rb)) : PE X (.BinOp a op b pos) (TV W (run2 ra rb f)) :=
  pe_weak (pe_op ho ha hb) fun _ _ _ h => tv2 hr h
theorem x_cmp {op : CmpOp} {r : R2} {f : D → D → Option (Bool × D)} (ho : OpR X (compareOp op) r) (hr : Pure2 W r f) (ha : PE X a (TV W ra)) (hb : PE X b (TV W rb)) (hm : behindInMarks op b = false) : PE X (.Compare a [op] [b] pos) (TV W (run2 ra rb f)) :=
  pe_weak (pe_cmpR ho ha hb hm) fun _ _ _ h => tv2 hr h
theorem x_un {op : UnaryOp} {r : V → Hp → VK → Prop} {f : D → Option (Bool × D)} (ho : UnR X (unaryOp op) r) (hr : Pure1 W r f) (ha : PE X a (TV W ra)) : PE X (.UnaryOp op a pos) (TV W (run1 ra f)) :=
  pe_weak (pe_un ho ha) fun _ _ _ h => tv1 hr h
end
end Sx
set_option Elab.async false
set_option linter.all false
set_option maxRecDepth 100000
set_option maxHeartbeats 4000000
set_option autoImplicit false
namespace Sx
open PySem L2

section
variable {W : Wd} {S P S' P' : Addr → Prop} {en : En} {σ : St} {H H' : Hp} {v : V} {d : D}
theorem lt_of_get {α : Type} {l : List α} {i : Nat} {x : α} (h : l[i]? = some x) : i < l.length := (List.getElem?_eq_some_iff.mp h).1
theorem set_get {α : Type} {l : List α} {i j : Nat} {x y : α} (h : (l.set i x)[j]? = some y) : (i = j ∧ x = y) ∨ (i ≠ j ∧ l[j]? = some y) := by
  by_cases e : i = j
  · subst e
    by_cases hl : i < l.length
    · rw [List.getElem?_set_self hl] at h; exact .inl ⟨rfl, Option.some.inj h⟩
    · rw [List.getElem?_eq_none (by simpa using hl)] at h; cases h
  · rw [List.getElem?_set_ne e] at h; exact .inr ⟨e, h⟩
/-- a name is forgotten -/
theorem Rel.drop (R : Rel W S P en σ H) (i : Nat) : Rel W S P (en.set i none) σ H := by
  refine ⟨R.sp, R.pd, fun j f e h => ?_, fun j k f g e e' v h1 h2 h3 h4 h5 h6 => ?_, by rw [List.length_set]; exact R.len, R.dr, R.drP, R.tb⟩
  · rcases set_get h with ⟨_, q⟩ | ⟨_, q⟩
    · cases q
    · exact R.slot j f e q
  · rcases set_get h1 with ⟨_, q⟩ | ⟨_, q⟩
    · cases q
    · rcases set_get h2 with ⟨_, q2⟩ | ⟨_, q2⟩
      · cases q2
      · exact R.inj j k f g e e' v q q2 h3 h4 h5 h6
/-- behind it its object is free -/
theorem Rel.free (R : Rel W S P en σ H) {i : Nat} (h : en[i]? = some (some (.ow, d))) : ∃ p o, σ[i]? = some (some (.ref p)) ∧ Dv W S H (.ref p) d ∧ Free W P (en.set i none) σ p ∧ H p = some o := by
  obtain ⟨v, hv, dv, _, ow⟩ := R.slot i .ow d h
  obtain ⟨p, o, rfl, hs, hp, _, h1, h2, h3⟩ := ow (by decide)
  refine ⟨p, o, hv, dv, ⟨hp rfl, h1, h2, fun j f e q nf qv => ?_⟩, h3⟩
  rcases set_get q with ⟨_, q⟩ | ⟨ne, q⟩
  · cases q
  · exact ne (R.inj i j .ow f d e _ h q (by decide) nf hv qv)
/-- frozen data stands in a slot -/
theorem Rel.put (R : Rel W S P en σ H) {i : Nat} (hi : i < en.length) (h : Dz W S H v d) : Rel W S P (en.set i (some (.fz, d))) (σ.set i (some v)) H := by
  refine ⟨R.sp, R.pd, fun j f e q => ?_, fun j k f g e e' u h1 h2 h3 h4 h5 h6 => ?_, by rw [List.length_set, List.length_set]; exact R.len, R.dr, R.drP, R.tb⟩
  · rcases set_get q with ⟨rfl, q2⟩ | ⟨ne, q2⟩
    · cases q2
      exact ⟨v, List.getElem?_set_self (by rw [← R.len]; exact hi), h.2, fun _ => h.1, fun z => absurd rfl z⟩
    · rw [List.getElem?_set_ne ne]; exact R.slot j f e q2
  · rcases set_get h1 with ⟨_, q⟩ | ⟨n1, q⟩
    · cases q; exact absurd rfl h3
    · rcases set_get h2 with ⟨_, q2⟩ | ⟨n2, q2⟩
      · cases q2; exact absurd rfl h4
      · rw [List.getElem?_set_ne n1] at h5
        rw [List.getElem?_set_ne n2] at h6
        exact R.inj j k f g e e' u q q2 h3 h4 h5 h6
/-- a free object stands in a slot: its name owns it -/
theorem Rel.take (R : Rel W S P en σ H) {i : Nat} {p : Addr} {o : HO} (hi : i < en.length) (h : Dv W S H (.ref p) d) (hf : Free W P en σ p) (ho : H p = some o) : Rel W S P (en.set i (some (.ow, d))) (σ.set i (some (.ref p))) H := by
  have at' : ∀ {j : Nat} {x : Option (Option V)}, i ≠ j → (σ.set i (some (.ref p)))[j]? = x → σ[j]? = x := fun ne q => by rw [List.getElem?_set_ne ne] at q; exact q
  have own : (σ.set i (some (.ref p)))[i]? = some (some (.ref p)) := List.getElem?_set_self (by rw [← R.len]; exact hi)
  refine ⟨R.sp, R.pd, fun j f e q => ?_, fun j k f g e e' u h1 h2 h3 h4 h5 h6 => ?_, by rw [List.length_set, List.length_set]; exact R.len, R.dr, R.drP, R.tb⟩
  · rcases set_get q with ⟨rfl, q2⟩ | ⟨ne, q2⟩
    · cases q2
      exact ⟨.ref p, own, h, (fun z => by cases z), fun _ => ⟨p, o, rfl, fun s => hf.1 (R.sp p s), fun _ => hf.1, (fun z => by cases z), hf.2.1, hf.2.2.1, ho⟩⟩
    · rw [List.getElem?_set_ne ne]; exact R.slot j f e q2
  · rcases set_get h1 with ⟨e1, q⟩ | ⟨n1, q⟩
    · rcases set_get h2 with ⟨e2, q2⟩ | ⟨n2, q2⟩
      · exact e1.symm.trans e2
      · subst e1
        rw [own] at h5
        cases h5
        exact absurd (at' n2 h6) (hf.2.2.2 k g e' q2 h4)
    · rcases set_get h2 with ⟨e2, q2⟩ | ⟨n2, q2⟩
      · subst e2
        rw [own] at h6
        cases h6
        exact absurd (at' n1 h5) (hf.2.2.2 j f e q h3)
      · exact R.inj j k f g e e' u q q2 h3 h4 (at' n1 h5) (at' n2 h6)
theorem set_set_same (R : Rel W S P en σ H) (i : Nat) (x : Option V) (h : σ[i]? = some x) : σ.set i x = σ := by
  apply List.ext_getElem?
  intro j
  by_cases e : i = j
  · subst e; rw [List.getElem?_set_self (lt_of_get h), h]
  · rw [List.getElem?_set_ne e]
end

/-! ### names, constants -/
def rVar (i : Nat) : Run := fun en => match en[i]? with
  | some (some (.fz, d)) => .ret (.v d, en)
  | some (some (.ow, d)) => .ret (.v d, (en.set i none).set i (some (.fz, d)))
  | _ => .fail
def rMov (i : Nat) : Run := fun en => match en[i]? with
  | some (some (.fz, d)) => .ret (.v d, en)
  | some (some (.ow, d)) => .ret (.fr d, en.set i none)
  | _ => .fail
def rBor (i : Nat) : Run := fun en => match en[i]? with
  | some (some _) => .ret (.b i, en)
  | _ => .fail
def rC (d : D) : Run := fun en => .ret (.v d, en)
section
variable {W : Wd} {σ : St} {H : Hp} {Q : VK} {X : Cx}
theorem slot_cases (en : En) (i : Nat) : en[i]? = none ∨ en[i]? = some none ∨ ∃ f d, en[i]? = some (some (f, d)) := by
  cases h : en[i]? with
  | none => exact .inl rfl
  | some s =>
    cases s with
    | none => exact .inr (.inl rfl)
    | some p => exact .inr (.inr ⟨p.1, p.2, rfl⟩)
theorem tv_var {i : Nat} (h : TV W (rVar i) σ H Q) : tVar i σ H Q := by
  obtain ⟨S, P, en, R, w⟩ := h
  unfold rVar at w
  rcases slot_cases en i with e | e | ⟨f, d, e⟩
  · rw [e] at w; exact w.elim
  · rw [e] at w; exact w.elim
  · rw [e] at w
    cases f with
    | fz =>
      obtain ⟨v, hv, dv, t, _⟩ := R.slot i .fz d e
      exact ⟨v, hv, w v H S P .refl R ⟨t rfl, dv⟩⟩
    | lk => exact w.elim
    | ow =>
      obtain ⟨p, o, hv, dv, hf, ho⟩ := R.free e
      obtain ⟨ex, R2⟩ := (R.drop i).freeze hf ho
      have dz : Dz W (add S p) H (.ref p) d := by
        refine ⟨?_, dv.mono ex.s (fun _ _ => rfl) ?_⟩
        · cases d <;> first | exact trivial | exact Or.inr rfl
        · cases d <;> first | exact trivial | exact rfl
      have R3 := R2.put (i := i) (by rw [List.length_set]; exact lt_of_get e) dz
      rw [set_set_same R i _ hv] at R3
      exact ⟨.ref p, hv, w _ H _ _ ex R3 dz⟩
theorem tv_mov {i : Nat} (h : TV W (rMov i) σ H Q) : tVar i σ H Q := by
  obtain ⟨S, P, en, R, w⟩ := h
  unfold rMov at w
  rcases slot_cases en i with e | e | ⟨f, d, e⟩
  · rw [e] at w; exact w.elim
  · rw [e] at w; exact w.elim
  · rw [e] at w
    cases f with
    | fz =>
      obtain ⟨v, hv, dv, t, _⟩ := R.slot i .fz d e
      exact ⟨v, hv, w v H S P .refl R ⟨t rfl, dv⟩⟩
    | lk => exact w.elim
    | ow =>
      obtain ⟨p, o, hv, dv, hf, ho⟩ := R.free e
      exact ⟨.ref p, hv, w _ H S P .refl (R.drop i) ⟨dv, p, o, rfl, hf, ho⟩⟩
theorem tv_bor {i : Nat} (h : TV W (rBor i) σ H Q) : tVar i σ H Q := by
  obtain ⟨S, P, en, R, w⟩ := h
  unfold rBor at w
  rcases slot_cases en i with e | e | ⟨f, d, e⟩
  · rw [e] at w; exact w.elim
  · rw [e] at w; exact w.elim
  · rw [e] at w
    obtain ⟨v, hv, _⟩ := R.slot i f d e
    exact ⟨v, hv, w v H S P .refl R hv⟩
theorem tv_c {v : V} {d : D} (hd : ∀ S H, Dz W S H v d) (h : TV W (rC d) σ H Q) : tC v σ H Q := by
  obtain ⟨S, P, en, R, w⟩ := h
  exact w v H S P .refl R (hd S H)
end

/-! ### arguments -/
abbrev Runs := En → T (List Op × En)
def PendL (W : Wd) (S : Addr → Prop) (σ : St) (H : Hp) : List V → List Op → Prop
  | [], [] => True
  | v :: vs, o :: os => Pend W S σ H v o ∧ PendL W S σ H vs os
  | _, _ => False
def TVs (W : Wd) (runs : Runs) : TA := fun σ H Q => ∃ S P en, Rel W S P en σ H ∧ (runs en).wp fun r => ∀ vs H' S' P', Ext S P H S' P' H' → Rel W S' P' r.2 σ H' → PendL W S' σ H' vs r.1 → Q vs H'
def rNil : Runs := fun en => .ret ([], en)
def rCons (ra : Run) (rs : Runs) : Runs := fun en => (ra en).bind fun a => (rs a.2).bind fun b => .ret (a.1.fz :: b.1, b.2)
def frcs (en : En) : List Op → Option (List D)
  | [] => some []
  | o :: os => (frc en o).bind fun d => (frcs en os).bind fun ds => some (d :: ds)
/-- frozen alone -/
def onlyV : List Op → Option (List D)
  | [] => some []
  | .v d :: os => (onlyV os).bind fun ds => some (d :: ds)
  | _ => none
def DvA (W : Wd) (S : Addr → Prop) (H : Hp) : List V → List D → Prop
  | [], [] => True
  | v :: vs, d :: ds => Dv W S H v d ∧ DvA W S H vs ds
  | _, _ => False
section
variable {W : Wd} {S P S' P' : Addr → Prop} {en : En} {σ : St} {H H' : Hp} {X : Cx}
theorem PendL.now (R : Rel W S P en σ H) : ∀ {vs : List V} {os : List Op} {ds : List D}, PendL W S σ H vs os → frcs en os = some ds → DvA W S H vs ds
  | [], [], ds, _, q => by cases q; trivial
  | v :: vs, o :: os, ds, h, q => by
    obtain ⟨d, e1, q⟩ := Option.bind_eq_some_iff.mp q
    obtain ⟨ds', e2, q⟩ := Option.bind_eq_some_iff.mp q
    cases q
    exact ⟨h.1.now R e1, PendL.now R h.2 e2⟩
  | [], _ :: _, _, h, _ => h.elim
  | _ :: _, [], _, h, _ => h.elim
theorem PendL.only : ∀ {vs : List V} {os : List Op} {ds : List D}, PendL W S σ H vs os → onlyV os = some ds → DvL W S H vs ds
  | [], [], ds, _, q => by cases q; exact .nil
  | v :: vs, .v d :: os, ds, h, q => by
    obtain ⟨ds', e2, q⟩ := Option.bind_eq_some_iff.mp q
    cases q
    exact .cons h.1.1 h.1.2 (PendL.only h.2 e2)
  | _ :: _, .fr _ :: _, _, _, q => by cases q
  | _ :: _, .b _ :: _, _, _, q => by cases q
  | [], _ :: _, _, h, _ => h.elim
  | _ :: _, [], _, h, _ => h.elim
theorem TVs.use {α : Type} {runs : Runs} {f : List Op × En → T α} {Q' : List V → Hp → Prop} {R : α → Prop} (hR : Rel W S P en σ H) (h : ((runs en).bind f).wp R)
    (k : ∀ (r : List Op × En) vs H' S' P', Ext S P H S' P' H' → Rel W S' P' r.2 σ H' → PendL W S' σ H' vs r.1 → (f r).wp R → Q' vs H') : TVs W runs σ H Q' :=
  ⟨S, P, en, hR, T.wp_mono ((T.wp_bind _ _ _).mp h) fun r q vs H' S' P' e R' ok => k r vs H' S' P' e R' ok q⟩
theorem tvs_nil {Q : List V → Hp → Prop} (h : TVs W rNil σ H Q) : tNil σ H Q := by
  obtain ⟨S, P, en, R, w⟩ := h
  exact w [] H S P .refl R trivial
theorem PendL.ext (R : Rel W S P en σ H) (e : Ext S P H S' P' H') : ∀ {vs : List V} {os : List Op}, PendL W S σ H vs os → PendL W S' σ H' vs os
  | [], [], _ => trivial
  | v :: vs, o :: os, h => ⟨h.1.ext R e, PendL.ext R e h.2⟩
  | [], _ :: _, h => h.elim
  | _ :: _, [], h => h.elim
theorem tvs_cons {ra : Run} {rs : Runs} {Q : List V → Hp → Prop} (h : TVs W (rCons ra rs) σ H Q) : tCons (TV W ra) (TVs W rs) σ H Q := by
  obtain ⟨S, P, en, R, w⟩ := h
  have w := (T.wp_bind _ _ _).mp w
  refine ⟨S, P, en, R, T.wp_mono w fun a q v H1 S1 P1 e1 R1 ok => ?_⟩
  obtain ⟨S2, P2, e2, R2, pe⟩ := ok.settle R1
  have q := (T.wp_bind _ _ _).mp q
  refine ⟨S2, P2, a.2, R2, T.wp_mono q fun b q vs H3 S3 P3 e3 R3 okl => ?_⟩
  exact q (v :: vs) H3 S3 P3 (e1.trans (e2.trans e3)) R3 ⟨pe.ext R2 e3, okl⟩
theorem pa_weak {es : List Expr} {t t' : TA} (h : PA X es t) (w : ∀ σ H Q, t' σ H Q → t σ H Q) : PA X es t' := ⟨fun pos pins s σ H Q I q => h.run pos pins s σ H Q I (w σ H Q q)⟩
theorem x_nil : PA X [] (TVs W rNil) := pa_weak pa_nil fun _ _ _ h => tvs_nil h
theorem x_cons {e : Expr} {es : List Expr} {ra : Run} {rs : Runs} (ha : PE X e (TV W ra)) (hr : PA X es (TVs W rs)) (hs : starEach (e :: es) X.env = (false, eval e X.env) :: starEach es X.env) : PA X (e :: es) (TVs W (rCons ra rs)) :=
  pa_weak (pa_cons ha hr hs) fun _ _ _ h => tvs_cons h
/-- a rule by values -/
def PureN (W : Wd) (r : List V → Hp → VK → Prop) (f : List D → Option (Bool × D)) : Prop := ∀ S H vs ds c Q, DomS S H → DvA W S H vs ds → f ds = some c → PRes W S H c Q → r vs H Q
def runN (rs : Runs) (f : List D → Option (Bool × D)) : Run := fun en => (rs en).bind fun a => ret1 ((frcs a.2 a.1).bind f) a.2
theorem tvN {r : List V → Hp → VK → Prop} {f : List D → Option (Bool × D)} {rs : Runs} {Q : VK} (hr : PureN W r f) (h : TV W (runN rs f) σ H Q) : TVs W rs σ H fun vs H1 => r vs H1 Q := by
  obtain ⟨S, P, en, R, w⟩ := h
  refine TVs.use R w fun c vs H1 S1 P1 e1 R1 p1 q => ?_
  obtain ⟨z, ez, qz⟩ := wp_ret1 q
  obtain ⟨x, ex, fx⟩ := Option.bind_eq_some_iff.mp ez
  exact hr S1 H1 vs x z Q R1.dom (p1.now R1 ex) fx (R1.res fun v' H' S' P' e' R' ok => qz v' H' S' P' (e1.trans e') R' ok)
/-- displays: a list, a tuple of frozen data -/
def rDisp (c : List D → Option (Bool × D)) (rs : Runs) : Run := fun en => (rs en).bind fun a => ret1 ((onlyV a.1).bind c) a.2
def small (ds : List D) (c : Bool × D) : Option (Bool × D) := if ds.length ≤ 4096 then some c else none
theorem DvL.len {vs : List V} {ds : List D} (h : DvL W S H vs ds) : vs.length = ds.length := by
  induction ds generalizing vs with
  | nil => cases h; rfl
  | cons d ds ih => cases h with | cons _ _ r => simp [ih r]
theorem line4096 {n : Nat} (h : n ≤ 4096) : n ≤ sizeLine := Nat.le_trans h (by rw [sizeLine_eq]; decide)
theorem DvL.upd {S : Addr → Prop} {H : Hp} {p : Addr} {u : HO} {vs : List V} {ds : List D} (hd : DomS S H) (hp : H p = none) (h : DvL W S H vs ds) : DvL W S (upd H p u) vs ds :=
  h.mono (fun _ q => q) fun a s => upd_ne (by rintro rfl; obtain ⟨o, q⟩ := hd a s; rw [hp] at q; cases q)
theorem upd_keeps {H : Hp} {p : Addr} {u : HO} (hp : H p = none) : ∀ a o, H a = some o → upd H p u a = some o := fun a o e => by
  rw [upd_ne (ne_of_none e hp)]; exact e
/-- a new list, a new tuple -/
theorem PRes.lst {xs : List V} {ds : List D} {Q : VK} (hd : DomS S H) (h : DvL W S H xs ds) (r : PRes W S H (true, .lst ds) Q) : ∀ p, H p = none → Q (.ref p) (L2.upd H p (.lst xs)) := fun p hp =>
  r (.ref p) _ S (upd_keeps hp) (fun _ h => h) (fun _ h => .inl h) (fun a h => by obtain ⟨o, q⟩ := hd a h; exact ⟨o, upd_keeps hp a o q⟩) tup_upd (.lst upd_same (h.upd hd hp)) (fun z => by cases z)
    fun _ => ⟨p, _, rfl, hp, (fun s => by obtain ⟨o, q⟩ := hd p s; rw [hp] at q; cases q), upd_same⟩
theorem PRes.tup {xs : List V} {ds : List D} {Q : VK} (hd : DomS S H) (h : DvL W S H xs ds) (r : PRes W S H (false, .tup ds) Q) : ∀ p, H p = none → Q (.ref p) (L2.upd H p (.tup xs)) := fun p hp =>
  r (.ref p) _ (add S p) (upd_keeps hp) (fun _ h => .inl h) (fun _ h => h.imp id fun e => by rw [e]; exact hp)
    (fun a h => h.elim (fun h => by obtain ⟨o, q⟩ := hd a h; exact ⟨o, upd_keeps hp a o q⟩) fun e => by subst e; exact ⟨_, upd_same⟩) (tup_new (.inr rfl)) (.tup (.inl ⟨.inr rfl, upd_same⟩) ((h.upd hd hp).mono (fun _ h => .inl h) fun _ _ => rfl)) (fun _ => trivial) fun z => by cases z
theorem x_lst {es : List Expr} {rs : Runs} {pos : Pos} (h : PA X es (TVs W rs)) : PE X (.List es pos) (TV W (rDisp (fun ds => small ds (true, .lst ds)) rs)) := by
  refine pe_weak (pe_lst h) fun σ H Q h => ?_
  obtain ⟨S, P, en, R, w⟩ := h
  refine TVs.use R w fun c vs H1 S1 P1 e1 R1 p1 q => ?_
  obtain ⟨z, ez, qz⟩ := wp_ret1 q
  obtain ⟨x, ex, fx⟩ := Option.bind_eq_some_iff.mp ez
  have dl := p1.only ex
  unfold small at fx
  split at fx
  · rename_i hl
    cases fx
    exact ⟨line4096 (by rw [dl.len]; exact hl), PRes.lst R1.dom dl (R1.res fun v' H' S' P' e' R' ok => qz v' H' S' P' (e1.trans e') R' ok)⟩
  · cases fx
theorem x_tup {es : List Expr} {rs : Runs} {pos : Pos} {k : Nat} (h : PA X es (TVs W rs)) : PE X (.Tuple es k pos) (TV W (rDisp (fun ds => small ds (false, .tup ds)) rs)) := by
  refine pe_weak (pe_tup h) fun σ H Q h => ?_
  obtain ⟨S, P, en, R, w⟩ := h
  refine TVs.use R w fun c vs H1 S1 P1 e1 R1 p1 q => ?_
  obtain ⟨z, ez, qz⟩ := wp_ret1 q
  obtain ⟨x, ex, fx⟩ := Option.bind_eq_some_iff.mp ez
  have dl := p1.only ex
  unfold small at fx
  split at fx
  · rename_i hl
    cases fx
    exact ⟨line4096 (by rw [dl.len]; exact hl), PRes.tup R1.dom dl (R1.res fun v' H' S' P' e' R' ok => qz v' H' S' P' (e1.trans e') R' ok)⟩
  · cases fx
end
end Sx
set_option Elab.async false
set_option linter.all false
set_option maxRecDepth 100000
set_option maxHeartbeats 4000000
set_option autoImplicit false
namespace Sx
open PySem L2

/-! ### tests -/
abbrev RunT := En → T (Bool × En)
def TVT (W : Wd) (run : RunT) : TT := fun σ H Q => ∃ S P en, Rel W S P en σ H ∧ (run en).wp fun r => ∀ H' S' P', Ext S P H S' P' H' → Rel W S' P' r.2 σ H' → Q r.1 H'
def boolOf : Option D → Option Bool
  | some (.bl b) => some b
  | _ => none
def toT (run : Run) : RunT := fun en => (run en).bind fun a => match boolOf (frc a.2 a.1.fz) with
  | some b => .ret (b, a.2)
  | none => .fail
def rAnd (ra rb : Run) : Run := fun en => (toT ra en).bind fun a => if a.1 then rb a.2 else .ret (.v (.bl false), a.2)
def rOr (ra rb : Run) : Run := fun en => (toT ra en).bind fun a => if a.1 then .ret (.v (.bl true), a.2) else rb a.2
def rNot (ra : Run) : Run := fun en => (toT ra en).bind fun a => .ret (.v (.bl (!a.1)), a.2)
def rIf (rc ra rb : Run) : Run := fun en => (toT rc en).bind fun a => if a.1 then ra a.2 else rb a.2
section
variable {W : Wd} {S P S' P' : Addr → Prop} {en : En} {σ : St} {H H' : Hp} {X : Cx} {ra rb rc : Run} {a b c : Expr} {rest : List Expr} {pos : Pos} {Q : VK}
theorem boolOf_some {o : Option D} {b : Bool} (h : boolOf o = some b) : o = some (.bl b) := by
  cases o with
  | none => cases h
  | some d => cases d <;> first | (cases h; rfl) | cases h
theorem dv_bl {v : V} {b : Bool} (h : Dv W S H v (.bl b)) : v = .bl b := by cases h; rfl
/-- a value as a test, then what follows -/
theorem toT_use {α : Type} {f : Bool × En → T α} {R : α → Prop} {Q' : V → Hp → Prop} (hR : Rel W S P en σ H) (h : ((toT ra en).bind f).wp R)
    (k : ∀ (c : Bool) en1 H' S' P', Ext S P H S' P' H' → Rel W S' P' en1 σ H' → (f (c, en1)).wp R → Q' (.bl c) H') : TV W ra σ H Q' := by
  have h := (T.wp_bind _ _ _).mp ((T.wp_bind _ _ _).mp h)
  refine ⟨S, P, en, hR, T.wp_mono h fun r q v H' S' P' e R' ok => ?_⟩
  obtain ⟨S2, P2, e2, R2, pe⟩ := ok.settle R'
  cases hb : boolOf (frc r.2 r.1.fz) with
  | none => rw [hb] at q; exact q.elim
  | some b =>
    rw [hb] at q
    have := pe.now R2 (boolOf_some hb)
    rw [dv_bl this]
    exact k b r.2 H' S2 P2 (e.trans e2) R2 q
theorem tvt_tB {Q : Bool → Hp → Prop} (h : TVT W (toT ra) σ H Q) : tB (TV W ra) σ H Q := by
  obtain ⟨S, P, en, R, w⟩ := h
  rw [← T.bind_ret (toT ra en)] at w
  exact toT_use R w fun c en1 H' S' P' e R' q => ⟨c, rfl, q H' S' P' e R'⟩
theorem tv_and (h : TV W (rAnd ra rb) σ H Q) : tAndV (TV W ra) (TV W rb) σ H Q := by
  obtain ⟨S, P, en, R, w⟩ := h
  refine toT_use R w fun c en1 H' S' P' e R' q => ⟨c, rfl, ?_⟩
  cases c with
  | false => exact q _ H' S' P' e R' ⟨trivial, .bl _⟩
  | true => exact ⟨S', P', en1, R', T.wp_mono q fun r q v H2 S2 P2 e2 R2 ok => q v H2 S2 P2 (e.trans e2) R2 ok⟩
theorem tv_not (h : TV W (rNot ra) σ H Q) : tNotV (TV W ra) σ H Q := by
  obtain ⟨S, P, en, R, w⟩ := h
  exact toT_use R w fun c en1 H' S' P' e R' q => ⟨c, rfl, q _ H' S' P' e R' ⟨trivial, .bl _⟩⟩
/-- tests that are and, or, not -/
theorem tvt_and {Q : Bool → Hp → Prop} {ta tb : TT} (ha : ∀ Q, TVT W (toT ra) σ H Q → ta σ H Q) (hb : ∀ H Q, TVT W (toT rb) σ H Q → tb σ H Q) (h : TVT W (toT (rAnd ra rb)) σ H Q) : tAnd ta tb σ H Q := by
  obtain ⟨S, P, en, R, w⟩ := h
  have w := (T.wp_bind _ _ _).mp ((T.wp_bind _ _ _).mp w)
  refine ha _ ⟨S, P, en, R, T.wp_mono w fun r q H' S' P' e R' => ?_⟩
  obtain ⟨c, en1⟩ := r
  cases c with
  | false => exact q H' S' P' e R'
  | true =>
    refine hb _ _ ⟨S', P', en1, R', ?_⟩
    refine (T.wp_bind _ _ _).mpr (T.wp_mono q fun r q => ?_)
    exact T.wp_mono q fun r q H2 S2 P2 e2 R2 => q H2 S2 P2 (e.trans e2) R2
theorem tvt_or {Q : Bool → Hp → Prop} {ta tb : TT} (ha : ∀ Q, TVT W (toT ra) σ H Q → ta σ H Q) (hb : ∀ H Q, TVT W (toT rb) σ H Q → tb σ H Q) (h : TVT W (toT (rOr ra rb)) σ H Q) : tOr ta tb σ H Q := by
  obtain ⟨S, P, en, R, w⟩ := h
  have w := (T.wp_bind _ _ _).mp ((T.wp_bind _ _ _).mp w)
  refine ha _ ⟨S, P, en, R, T.wp_mono w fun r q H' S' P' e R' => ?_⟩
  obtain ⟨c, en1⟩ := r
  cases c with
  | true => exact q H' S' P' e R'
  | false =>
    refine hb _ _ ⟨S', P', en1, R', ?_⟩
    refine (T.wp_bind _ _ _).mpr (T.wp_mono q fun r q => ?_)
    exact T.wp_mono q fun r q H2 S2 P2 e2 R2 => q H2 S2 P2 (e.trans e2) R2
theorem tvt_not {Q : Bool → Hp → Prop} {ta : TT} (ha : ∀ Q, TVT W (toT ra) σ H Q → ta σ H Q) (h : TVT W (toT (rNot ra)) σ H Q) : tNot ta σ H Q := by
  obtain ⟨S, P, en, R, w⟩ := h
  have w := (T.wp_bind _ _ _).mp ((T.wp_bind _ _ _).mp w)
  exact ha _ ⟨S, P, en, R, T.wp_mono w fun r q H' S' P' e R' => q H' S' P' e R'⟩
theorem tv_if (h : TV W (rIf rc ra rb) σ H Q) : tIf (TVT W (toT rc)) (TV W ra) (TV W rb) σ H Q := by
  obtain ⟨S, P, en, R, w⟩ := h
  have w := (T.wp_bind _ _ _).mp w
  refine ⟨S, P, en, R, T.wp_mono w fun r q H' S' P' e R' => ?_⟩
  obtain ⟨c, en1⟩ := r
  cases c with
  | true => exact ⟨S', P', en1, R', T.wp_mono q fun r q v H2 S2 P2 e2 R2 ok => q v H2 S2 P2 (e.trans e2) R2 ok⟩
  | false => exact ⟨S', P', en1, R', T.wp_mono q fun r q v H2 S2 P2 e2 R2 ok => q v H2 S2 P2 (e.trans e2) R2 ok⟩
theorem x_if (hc : PT X c (TVT W (toT rc))) (ha : PE X a (TV W ra)) (hb : PE X b (TV W rb)) : PE X (.IfExp c a b pos) (TV W (rIf rc ra rb)) := pe_weak (pe_ifExp hc ha hb) fun _ _ _ h => tv_if h
theorem x_not (ha : PE X a (TV W ra)) : PE X (.UnaryOp .Not a pos) (TV W (rNot ra)) := pe_weak (pe_not ha) fun _ _ _ h => tv_not h
theorem x_and (ha : PE X a (TV W ra)) (hb : PE X (.BoolOp .And (b :: rest) pos) (TV W rb)) : PE X (.BoolOp .And (a :: b :: rest) pos) (TV W (rAnd ra rb)) := pe_weak (pe_and ha hb) fun _ _ _ h => tv_and h
theorem y_val {e : Expr} (h : PE X e (TV W ra)) (he : ∀ whole, isTrue e X.env whole = (do let v ← whole; standAt e.pos; holding [v] (truthy v))) : PT X e (TVT W (toT ra)) := pt_weak (pt_val h he) fun _ _ _ h => tvt_tB h
theorem y_not (ha : PT X a (TVT W (toT ra))) : PT X (.UnaryOp .Not a pos) (TVT W (toT (rNot ra))) := pt_weak (pt_not ha) fun _ _ _ h => tvt_not (fun _ q => q) h
theorem pw_weak {e : Expr} {t t' : TT} (h : PW X e t) (w : ∀ σ H Q, t' σ H Q → t σ H Q) : PW X e t' := ⟨fun whole pins s σ H Q I q => h.run whole pins s σ H Q I (w σ H Q q)⟩
theorem y_and (ha : PT X a (TVT W (toT ra))) (hb : PW X (.BoolOp .And (b :: rest) pos) (TVT W (toT rb))) : PW X (.BoolOp .And (a :: b :: rest) pos) (TVT W (toT (rAnd ra rb))) := pw_weak (pw_and ha hb) fun _ _ _ h => tvt_and (fun _ q => q) (fun _ _ q => q) h
theorem y_or (ha : PT X a (TVT W (toT ra))) (hb : PW X (.BoolOp .Or (b :: rest) pos) (TVT W (toT rb))) : PW X (.BoolOp .Or (a :: b :: rest) pos) (TVT W (toT (rOr ra rb))) := pw_weak (pw_or ha hb) fun _ _ _ h => tvt_or (fun _ q => q) (fun _ _ q => q) h
end

/-! ### statements -/
inductive Fl where
  | nx | rt (c : Bool × D) | bk | ct
abbrev RunS := En → T (Fl × En)
def ROk (W : Wd) (S P : Addr → Prop) (H : Hp) (v : V) (c : Bool × D) : Prop := Dv W S H v c.2 ∧ (c.1 = false → Tin S v c.2) ∧ (c.1 = true → ∃ p o, v = .ref p ∧ ¬ P p ∧ p ≠ W.da ∧ NB W p ∧ H p = some o)
structure RetOk (W : Wd) (S P : Addr → Prop) (H : Hp) : Prop where
  sp : ∀ a, S a → P a
  ds : DomS S H
  dr : DrawOk W H
  dp : ¬ P W.da ∧ NPb W P
  tb : TbS W S H
def Post (W : Wd) (D : Ends) (S P : Addr → Prop) (H : Hp) (r : Fl × En) : Prop := match r.1 with
  | .nx => ∀ σ' H' S' P', Ext S P H S' P' H' → Rel W S' P' r.2 σ' H' → D.nx σ' H'
  | .bk => ∀ σ' H' S' P', Ext S P H S' P' H' → Rel W S' P' r.2 σ' H' → D.bk σ' H'
  | .ct => ∀ σ' H' S' P', Ext S P H S' P' H' → Rel W S' P' r.2 σ' H' → D.ct σ' H'
  | .rt c => ∀ v H' S' P', Ext S P H S' P' H' → RetOk W S' P' H' → ROk W S' P' H' v c → D.rt v H'
def TVS (W : Wd) (run : RunS) : TS := fun D σ H => ∃ S P en, Rel W S P en σ H ∧ (run en).wp (Post W D S P H)
def sNx : RunS := fun en => .ret (.nx, en)
def sSeq (ra rb : RunS) : RunS := fun en => (ra en).bind fun a => match a.1 with
  | .nx => rb a.2
  | f => .ret (f, a.2)
def putO (i : Nat) (a : Op × En) : Option En := if i < a.2.length then (match a.1 with
  | .v d => some (a.2.set i (some (.fz, d)))
  | .fr d => some (a.2.set i (some (.ow, d)))
  | .b _ => none) else none
def sSet (i : Nat) (ra : Run) : RunS := fun en => (ra en).bind fun a => (T.ofOpt (putO i a)).bind fun e => .ret (.nx, e)
def sDrop (ra : Run) : RunS := fun en => (ra en).bind fun a => .ret (.nx, a.2)
def retO : Op → Option (Bool × D)
  | .v d => some (false, d)
  | .fr d => some (true, d)
  | .b _ => none
def sRet (ra : Run) : RunS := fun en => (ra en).bind fun a => (T.ofOpt (retO a.1)).bind fun c => .ret (.rt c, a.2)
def sIf (rc : RunT) (ra rb : RunS) : RunS := fun en => (rc en).bind fun a => if a.1 then ra a.2 else rb a.2
def sWhile (rc : RunT) (rb : RunS) : Nat → RunS
  | 0 => fun _ => .fail
  | n + 1 => fun en => (rc en).bind fun a => if a.1 then (rb a.2).bind fun r => (match r.1 with
      | .nx => sWhile rc rb n r.2
      | .ct => sWhile rc rb n r.2
      | .bk => .ret (.nx, r.2)
      | .rt c => .ret (.rt c, r.2)) else .ret (.nx, a.2)
section
variable {W : Wd} {S P S' P' : Addr → Prop} {en : En} {σ : St} {H H' : Hp} {X : Cx} {D : Ends} {st : Stmt} {sts : List Stmt} {pos : Pos} {ra : Run} {rs rt : RunS} {e : Expr}
theorem Post.ext {r : Fl × En} (h : Post W D S P H r) (x : Ext S P H S' P' H') : Post W D S' P' H' r := by
  obtain ⟨f, en'⟩ := r
  cases f with
  | nx => exact fun σ' H2 S2 P2 e2 R2 => h σ' H2 S2 P2 (x.trans e2) R2
  | bk => exact fun σ' H2 S2 P2 e2 R2 => h σ' H2 S2 P2 (x.trans e2) R2
  | ct => exact fun σ' H2 S2 P2 e2 R2 => h σ' H2 S2 P2 (x.trans e2) R2
  | rt c => exact fun v H2 S2 P2 e2 o R2 => h v H2 S2 P2 (x.trans e2) o R2
theorem ps_weak {t t' : TS} (h : PS X st t) (w : ∀ D σ H, t' D σ H → t D σ H) : PS X st t' := ⟨fun pins s σ H D I q => h.run pins s σ H D I (w D σ H q)⟩
theorem pss_weak {t t' : TS} (h : PSs X sts t) (w : ∀ D σ H, t' D σ H → t D σ H) : PSs X sts t' := ⟨fun pins s σ H D I q => h.run pins s σ H D I (w D σ H q)⟩
theorem z_nil : PSs X [] (TVS W sNx) := pss_weak pss_nil fun D σ H h => by
  obtain ⟨S, P, en, R, w⟩ := h
  exact w σ H S P .refl R
theorem z_cons (h1 : PS X st (TVS W rs)) (h2 : PSs X sts (TVS W rt)) : PSs X (st :: sts) (TVS W (sSeq rs rt)) := pss_weak (pss_cons h1 h2) fun D σ H h => by
  obtain ⟨S, P, en, R, w⟩ := h
  have w := (T.wp_bind _ _ _).mp w
  refine ⟨S, P, en, R, T.wp_mono w fun r q => ?_⟩
  obtain ⟨f, en1⟩ := r
  cases f with
  | nx => exact fun σ' H' S' P' e R' => ⟨S', P', en1, R', T.wp_mono q fun r q => q.ext e⟩
  | bk => exact q
  | ct => exact q
  | rt c => exact q
theorem OpOk.put {i : Nat} {v : V} {a : Op × En} {e : En} (R : Rel W S P a.2 σ H) (ok : OpOk W S P a.2 σ H v a.1) (h : putO i a = some e) : Rel W S P e (σ.set i (some v)) H := by
  obtain ⟨o, en⟩ := a
  unfold putO at h
  split at h
  · rename_i hl
    cases o with
    | v d => cases h; exact R.put hl ok
    | fr d =>
      cases h
      obtain ⟨dv, p, u, rfl, hf, hu⟩ := ok
      exact R.take hl dv hf hu
    | b i => cases h
  · cases h
theorem tvs_set {i : Nat} (h : TVS W (sSet i ra) D σ H) : tAsg (TV W ra) (gName i) D σ H := by
  obtain ⟨S, P, en, R, w⟩ := h
  have w := (T.wp_bind _ _ _).mp w
  refine ⟨S, P, en, R, T.wp_mono w fun r q v H' S' P' e R' ok => ?_⟩
  obtain ⟨e', he, q⟩ := T.wp_ofOpt ((T.wp_bind _ _ _).mp q)
  exact q _ H' S' P' e (ok.put R' he)
theorem tvs_drop (h : TVS W (sDrop ra) D σ H) : tDrop (TV W ra) D σ H := by
  obtain ⟨S, P, en, R, w⟩ := h
  have w := (T.wp_bind _ _ _).mp w
  exact ⟨S, P, en, R, T.wp_mono w fun r q v H' S' P' e R' ok => q _ H' S' P' e R'⟩
theorem tvs_ret (h : TVS W (sRet ra) D σ H) : tRet (TV W ra) D σ H := by
  obtain ⟨S, P, en, R, w⟩ := h
  have w := (T.wp_bind _ _ _).mp w
  refine ⟨S, P, en, R, T.wp_mono w fun r q v H' S' P' e R' ok => ?_⟩
  obtain ⟨c, he, q⟩ := T.wp_ofOpt ((T.wp_bind _ _ _).mp q)
  refine q v H' S' P' e ⟨R'.sp, R'.dom, R'.dr, R'.drP, R'.tb⟩ ?_
  obtain ⟨o, en'⟩ := r
  cases o with
  | v d => cases he; exact ⟨ok.2, fun _ => ok.1, fun z => by cases z⟩
  | fr d =>
    cases he
    obtain ⟨dv, p, u, rfl, hf, hu⟩ := ok
    exact ⟨dv, (fun z => by cases z), fun _ => ⟨p, u, rfl, hf.1, hf.2.1, hf.2.2.1, hu⟩⟩
  | b i => cases he
theorem z_ret (h : PE X e (TV W ra)) : PS X (.Return (some e) pos) (TVS W (sRet ra)) := ps_weak (ps_ret h) fun _ _ _ h => tvs_ret h
theorem z_if {c : Expr} {a b : List Stmt} {rc : RunT} (hc : PT X c (TVT W rc)) (ha : PSs X a (TVS W rs)) (hb : PSs X b (TVS W rt)) : PS X (.If c a b pos) (TVS W (sIf rc rs rt)) := ps_weak (ps_if hc ha hb) fun D σ H h => by
  obtain ⟨S, P, en, R, w⟩ := h
  have w := (T.wp_bind _ _ _).mp w
  refine ⟨S, P, en, R, T.wp_mono w fun r q H' S' P' e R' => ?_⟩
  obtain ⟨c, en1⟩ := r
  cases c with
  | true => exact ⟨S', P', en1, R', T.wp_mono q fun r q => q.ext e⟩
  | false => exact ⟨S', P', en1, R', T.wp_mono q fun r q => q.ext e⟩
theorem z_while {c : Expr} {a : List Stmt} {rc : RunT} {n : Nat} (hp : PassesOwn (model X.prog X.w) X.A X.env X.xe) (hc : PT X c (TVT W rc)) (ha : PSs X a (TVS W rs)) : PS X (.While c a [] pos) (TVS W (sWhile rc rs n)) := ps_weak (ps_while hp hc ha) fun D σ H h => by
  refine ⟨fun m σ H => ∃ S P en, Rel W S P en σ H ∧ (sWhile rc rs m en).wp (Post W D S P H), ⟨n, h⟩, ?_⟩
  rintro m σ H ⟨S, P, en, R, w⟩
  cases m with
  | zero => exact w.elim
  | succ m =>
    have w := (T.wp_bind _ _ _).mp w
    refine ⟨S, P, en, R, T.wp_mono w fun r q H' S' P' e R' => ?_⟩
    obtain ⟨c, en1⟩ := r
    cases c with
    | false => exact q σ H' S' P' e R'
    | true =>
      have q := (T.wp_bind _ _ _).mp q
      refine ⟨fun σ' H' => ∃ S P en, Rel W S P en σ' H' ∧ (sWhile rc rs m en).wp (Post W D S P H'), fun σ' H' h => ⟨m, Nat.lt_succ_self m, h⟩, S', P', en1, R', T.wp_mono q fun r q => ?_⟩
      obtain ⟨f, en2⟩ := r
      cases f with
      | nx => exact fun σ2 H2 S2 P2 e2 R2 => ⟨S2, P2, en2, R2, T.wp_mono q fun r q => q.ext (e.trans e2)⟩
      | ct => exact fun σ2 H2 S2 P2 e2 R2 => ⟨S2, P2, en2, R2, T.wp_mono q fun r q => q.ext (e.trans e2)⟩
      | bk => exact fun σ2 H2 S2 P2 e2 R2 => q σ2 H2 S2 P2 (e.trans e2) R2
      | rt c => exact fun v H2 S2 P2 e2 o R2 => q v H2 S2 P2 (e.trans e2) o R2
end
end Sx
set_option Elab.async false
set_option linter.all false
set_option maxRecDepth 100000
set_option maxHeartbeats 4000000
set_option autoImplicit false
namespace Sx
open PySem L2

/-! ### targets: a name, or a tuple of names -/
abbrev Tg := D → En → Option En
def GOk (W : Wd) (g : TG) (t : Tg) (is : List Nat) : Prop := ∀ (S P : Addr → Prop) (en en' : En) (v : V) (d : D) (σ : St) (H : Hp) (Q : St → Hp → Prop), Rel W S P en σ H → Dz W S H v d → t d en = some en' →
  (∀ σ', (∀ j, j ∉ is → σ'[j]? = σ[j]?) → σ'.length = σ.length → Rel W S P en' σ' H → Q σ' H) → g v σ H Q
def tgN (i : Nat) : Tg := fun d en => if i < en.length then some (en.set i (some (.fz, d))) else none
abbrev Tgs := List D → En → Option En
def GsOk (W : Wd) (g : TGs) (t : Tgs) (is : List Nat) : Prop := ∀ (S P : Addr → Prop) (en en' : En) (vs : List V) (ds : List D) (σ : St) (H : Hp) (Q : St → Hp → Prop), Rel W S P en σ H → DvL W S H vs ds → t ds en = some en' →
  (∀ σ', (∀ j, j ∉ is → σ'[j]? = σ[j]?) → σ'.length = σ.length → Rel W S P en' σ' H → Q σ' H) → g vs σ H Q
def tgNil : Tgs := fun ds en => match ds with
  | [] => some en
  | _ => none
def tgCons (t : Tg) (u : Tgs) : Tgs := fun ds en => match ds with
  | d :: r => (t d en).bind (u r)
  | [] => none
def tgTup (n : Nat) (u : Tgs) : Tg := fun d en => match d with
  | .tup ds => if ds.length = n then u ds en else none
  | _ => none
section
variable {W : Wd} {S P S' P' : Addr → Prop} {en : En} {σ : St} {H H' : Hp}
theorem g_name {i : Nat} : GOk W (gName i) (tgN i) [i] := by
  intro S P en en' v d σ H Q R dz ht k
  unfold tgN at ht
  split at ht
  · rename_i hl
    cases ht
    exact k _ (fun j hj => List.getElem?_set_ne (by rintro rfl; exact hj (by simp))) (by rw [List.length_set]) (R.put hl dz)
  · cases ht
theorem g_nil : GsOk W gNil tgNil [] := by
  intro S P en en' vs ds σ H Q R dl ht k
  cases ds with
  | nil => cases dl; cases ht; exact ⟨rfl, k σ (fun _ _ => rfl) rfl R⟩
  | cons d ds => cases ht
theorem g_cons {g : TG} {u : TGs} {t : Tg} {r : Tgs} {is js : List Nat} (h : GOk W g t is) (h2 : GsOk W u r js) : GsOk W (gCons g u) (tgCons t r) (is ++ js) := by
  intro S P en en' vs ds σ H Q R dl ht k
  cases ds with
  | nil => cases ht
  | cons d ds =>
    cases dl with
    | cons t1 d1 rl =>
      obtain ⟨e1, h1, ht⟩ := Option.bind_eq_some_iff.mp ht
      refine ⟨_, _, rfl, h S P en e1 _ d σ H _ R ⟨t1, d1⟩ h1 fun σ1 a1 l1 R1 => ?_⟩
      exact h2 S P e1 en' _ ds σ1 H Q R1 rl ht fun σ2 a2 l2 R2 => k σ2 (fun j hj => (a2 j fun z => hj (List.mem_append_right _ z)).trans (a1 j fun z => hj (List.mem_append_left _ z))) (l2.trans l1) R2
theorem g_tup {u : TGs} {r : Tgs} {n : Nat} {is : List Nat} (h : GsOk W u r is) : GOk W (gTup W.K n u) (tgTup n r) is := by
  intro S P en en' v d σ H Q R dz ht k
  cases d with
  | tup ds =>
    unfold tgTup at ht
    simp only at ht
    split at ht
    · rename_i hn
      obtain ⟨_, dv⟩ := dz
      cases dv with
      | tup hs dl =>
        refine ⟨_, _, rfl, ?_, dl.len.trans hn, h S P en en' _ ds σ H Q R dl ht k⟩
        rcases hs with ⟨_, hs⟩ | hs
        · exact SqT.of hs
        · rcases hs with (hs | ⟨_, hs⟩) | hs
          · cases hs
          · cases hs
          · exact .inr hs
    · cases ht
  | _ => cases ht
/-- what may be walked: in every heap that keeps P the i-th turn brings the i-th item -/
structure Walks (W : Wd) (S P : Addr → Prop) (H1 : Hp) (J : It) (ds : List D) : Prop where
  stop : ∀ i H, (∀ a, P a → H a = H1 a) → ds.length ≤ i → J.stop i H
  go : ∀ i H, (∀ a, P a → H a = H1 a) → i < ds.length → J.go i H
  yld : ∀ i H x H', (∀ a, P a → H a = H1 a) → i < ds.length → J.yld i H x H' → ∃ d, ds[i]? = some d ∧ ((H' = H ∧ Dz W S H x d) ∨ ∃ q xs es, x = .ref q ∧ H q = none ∧ H' = upd H q (.tup xs) ∧ d = .tup es ∧ DvL W S H xs es)
theorem Walks.turn {S2 P2 : Addr → Prop} {J : It} {H1 : Hp} {ds : List D} (w : Walks W S P H1 J ds) (R : Rel W S2 P2 en σ H) (hS : ∀ a, S a → S2 a) (hP : ∀ a, P a → P2 a ∧ H a = H1 a) {i : Nat} {x : V} (hi : i < ds.length) (y : J.yld i H x H') :
    ∃ d S3 P3, ds[i]? = some d ∧ Ext S2 P2 H S3 P3 H' ∧ Rel W S3 P3 en σ H' ∧ Dz W S3 H' x d := by
  obtain ⟨d, hd, h⟩ := w.yld i H x H' (fun a h => (hP a h).2) hi y
  rcases h with ⟨rfl, dz⟩ | ⟨q, xs, es, rfl, hq, rfl, rfl, dl⟩
  · exact ⟨d, S2, P2, hd, .refl, R, dz.mono hS fun _ _ => rfl⟩
  · have hd2 := R.dom
    have dl2 : DvL W S2 H xs es := dl.mono hS fun _ _ => rfl
    obtain ⟨e, R'⟩ := R.same (H' := upd H q (.tup xs)) (upd_keeps hq) (S' := add S2 q) (fun a h => .inl h) (fun a h => h.imp id fun e => by rw [e]; exact hq) (fun a h => h.elim (fun h => by obtain ⟨o, z⟩ := hd2 a h; exact ⟨o, upd_keeps hq a o z⟩) fun e => by subst e; exact ⟨_, upd_same⟩) (tup_new (.inr rfl))
    exact ⟨_, _, _, hd, e, R', trivial, .tup (.inl ⟨.inr rfl, upd_same⟩) ((dl2.upd hd2 hq).mono (fun _ h => .inl h) fun _ _ => rfl)⟩
end

/-! ### for -/
abbrev RunI := En → T (List D × En)
/-- the walk's end: the name that was locked is its own again -/
def unl (l : Option Nat) (en : En) : En := match l with
  | none => en
  | some i => match en[i]? with
    | some (some (.lk, d)) => en.set i (some (.ow, d))
    | _ => en
def TVI (W : Wd) (run : RunI) (l : Option Nat) : TI := fun σ H R => ∃ S P en, Rel W S P en σ H ∧ (run en).wp fun r => ∀ J H' S' P' Pw, Ext S P H S' P' H' → Rel W S' Pw r.2 σ H' → (∀ a, P' a → Pw a) →
  (∀ S2 P2 en2 σ2 H2, (l = none ∨ σ2 = σ) → Ext S' Pw H' S2 P2 H2 → Rel W S2 P2 en2 σ2 H2 → ∃ P3, (∀ a, P3 a → P2 a) ∧ Ext S' P' H' S2 P3 H2 ∧ Rel W S2 P3 (unl l en2) σ2 H2) → (l = none → Pw = P') → Walks W S' Pw H' J r.1 → R J H'
def sForL (l : Option Nat) (t : Tg) (rb : RunS) : List D → RunS
  | [] => fun en => .ret (.nx, unl l en)
  | d :: ds => fun en => (T.ofOpt (t d en)).bind fun en => (rb en).bind fun r => (match r.1 with
      | .nx => sForL l t rb ds r.2
      | .ct => sForL l t rb ds r.2
      | .bk => .ret (.nx, unl l r.2)
      | .rt c => .ret (.rt c, r.2))
def sFor (ri : RunI) (l : Option Nat) (t : Tg) (rb : RunS) : RunS := fun en => (ri en).bind fun a => sForL l t rb a.1 a.2
section
variable {W : Wd} {X : Cx} {pos : Pos} {rs : RunS} {ri : RunI} {l : Option Nat} {g : TG} {t : Tg} {is : List Nat}
theorem z_for {tg iter : Expr} {a : List Stmt} (hp : PassesOwn (model X.prog X.w) X.A X.env X.xe) (hc : X.calm = true) (hi : PI X tg iter (TVI W ri none)) (hg : PG X tg g) (gk : GOk W g t is) (hb : PSs X a (TVS W rs)) (hs : ∀ x, foldedSetIterable iter X.env x = pure x) :
    PS X (.For tg iter a [] pos) (TVS W (sFor ri none t rs)) := ps_weak (ps_for hp hc hi hg hb (hs := hs)) fun D σ H h => by
  obtain ⟨S, P, en, R, w⟩ := h
  have w := (T.wp_bind _ _ _).mp w
  refine ⟨S, P, en, R, T.wp_mono w fun r q J H1 S1 P1 Pw e1 R1 hPw hun hrt wk => ?_⟩
  obtain rfl := hrt rfl
  have q := q
  refine ⟨fun i m σ2 H2 => i ≤ r.1.length ∧ m = r.1.length - i ∧ ∃ S2 P2 en2, Ext S1 Pw H1 S2 P2 H2 ∧ Rel W S2 P2 en2 σ2 H2 ∧ (sForL none t rs (r.1.drop i) en2).wp (Post W D S P H), ⟨_, Nat.zero_le _, rfl, S1, Pw, r.2, .refl, R1, q⟩, ?_⟩
  rintro i m σ2 H2 ⟨hi, rfl, S2, P2, en2, e2, R2, w2⟩
  by_cases hlt : i < r.1.length
  · refine .inr ⟨wk.go i H2 (fun a h => e2.h a h) hlt, fun σ3 H3 => ∃ S3 P3 en3, Ext S1 Pw H1 S3 P3 H3 ∧ Rel W S3 P3 en3 σ3 H3 ∧ (sForL none t rs (r.1.drop (i + 1)) en3).wp (Post W D S P H), fun σ3 H3 z => ⟨r.1.length - (i + 1), by omega, hlt, rfl, z⟩, fun x H3 y => ?_⟩
    obtain ⟨d, S3, P3, hd, e3, R3, dz⟩ := wk.turn R2 e2.s (fun a h => ⟨e2.p a h, e2.h a h⟩) hlt y
    have hdrop : r.1.drop i = d :: r.1.drop (i + 1) := by
      rw [List.drop_eq_getElem_cons hlt]
      congr 1
      have := List.getElem?_eq_getElem hlt
      rw [hd] at this
      exact (Option.some.inj this).symm
    rw [hdrop] at w2
    obtain ⟨en3, ht, w3⟩ := T.wp_ofOpt ((T.wp_bind _ _ _).mp w2)
    refine gk S3 P3 en2 en3 x d σ2 H3 _ R3 dz ht fun σ3 _ _ R4 => ?_
    have w3 := (T.wp_bind _ _ _).mp w3
    have e13 := e2.trans e3
    refine ⟨S3, P3, en3, R4, T.wp_mono w3 fun r4 q4 => ?_⟩
    obtain ⟨f, en4⟩ := r4
    cases f with
    | nx => exact fun σ5 H5 S5 P5 e5 R5 => ⟨S5, P5, en4, e13.trans e5, R5, q4⟩
    | ct => exact fun σ5 H5 S5 P5 e5 R5 => ⟨S5, P5, en4, e13.trans e5, R5, q4⟩
    | bk =>
      intro σ5 H5 S5 P5 e5 R5
      obtain ⟨P6, _, e6, R6⟩ := hun S5 P5 en4 σ5 H5 (.inl rfl) (e13.trans e5) R5
      exact q4 σ5 H5 S5 P6 (e1.trans e6) R6
    | rt c =>
      intro v H5 S5 P5 e5 o5 ok
      exact q4 v H5 S5 P5 (e1.trans (e13.trans e5)) o5 ok
  · have ei : i = r.1.length := by omega
    subst ei
    rw [List.drop_length] at w2
    obtain ⟨P3, _, e3, R3⟩ := hun S2 P2 en2 σ2 H2 (.inl rfl) e2 R2
    exact .inl ⟨wk.stop _ H2 (fun a h => e2.h a h) (Nat.le_refl _), w2 σ2 H2 S2 P3 (e1.trans e3) R3⟩

end
/-! ### what is locked stays so: no run locks a name -/
namespace T
variable {α β : Type}
def all : T α → (α → Prop) → Prop
  | .ret a, Q => Q a
  | .fail, _ => True
  | .ch n k, Q => ∀ i, i < n → (k i).all Q
theorem all_bind {t : T α} {f : α → T β} {Q : β → Prop} (h : t.all fun a => (f a).all Q) : (t.bind f).all Q := by
  induction t with
  | ret a => exact h
  | fail => trivial
  | ch n k ih => exact fun i hi => ih i (h i hi)
theorem all_mono {t : T α} {Q R : α → Prop} (h : t.all Q) (m : ∀ a, Q a → R a) : t.all R := by
  induction t with
  | ret a => exact m a h
  | fail => trivial
  | ch n k ih => exact fun i hi => ih i (h i hi)
theorem all_triv {t : T α} {Q : α → Prop} (m : ∀ a, Q a) : t.all Q := by
  induction t with
  | ret a => exact m a
  | fail => trivial
  | ch n k ih => exact fun i hi => ih i
theorem wp_all {t : T α} {Q R : α → Prop} (h : t.wp Q) (g : t.all R) : t.wp fun a => Q a ∧ R a := by
  induction t with
  | ret a => exact ⟨h, g⟩
  | fail => exact h
  | ch n k ih => exact fun i hi => ih i (h i hi) (g i hi)
theorem all_ofOpt {o : Option α} {Q : α → Prop} (h : ∀ a, o = some a → Q a) : (ofOpt o).all Q := by
  cases o with
  | none => trivial
  | some a => exact h a rfl
end T
def LkSub (en' en : En) : Prop := ∀ (i : Nat) (d : D), en'[i]? = some (some (.lk, d)) → ∃ d', en[i]? = some (some (.lk, d'))
theorem LkSub.refl (en : En) : LkSub en en := fun _ d h => ⟨d, h⟩
theorem LkSub.trans {a b c : En} (h : LkSub a b) (g : LkSub b c) : LkSub a c := fun i d e => by obtain ⟨d', e'⟩ := h i d e; exact g i d' e'
theorem LkSub.set {en : En} {i : Nat} {s : Slot} (h : ∀ d, s ≠ some (.lk, d)) : LkSub (en.set i s) en := fun j d e => by
  rcases set_get e with ⟨_, q⟩ | ⟨_, q⟩
  · exact absurd q (h d)
  · exact ⟨d, q⟩
def ShR (r : Run) : Prop := ∀ en, (r en).all fun a => LkSub a.2 en
def ShT (r : RunT) : Prop := ∀ en, (r en).all fun a => LkSub a.2 en

/-! ### list comprehensions -/
def wip (en : En) : List Nat → En
  | [] => en
  | v :: vs => (wip en vs).set v none
def back (en en0 : En) : List Nat → En
  | [] => en
  | v :: vs => (back en en0 vs).set v (match en0[v]? with
    | some (some (.fz, d)) => some (.fz, d)
    | _ => none)
def valO : Op → Option D
  | .v d => some d
  | .fr d => some d
  | .b _ => none
def rLcL (t : Tg) (rt : RunT) (re : Run) (vs : List Nat) : List D → En → List D → T (List D × En)
  | [], en, acc => .ret (acc, en)
  | d :: ds, en, acc => (T.ofOpt (t d en)).bind fun en1 => (rt en1).bind fun b => if b.1 then (re b.2).bind fun o => (T.ofOpt (valO o.1)).bind fun y => rLcL t rt re vs ds (wip o.2 vs) (acc ++ [y]) else rLcL t rt re vs ds (wip b.2 vs) acc
def rLc (ri : RunI) (l : Option Nat) (t : Tg) (rt : RunT) (re : Run) (vs : List Nat) : Run := fun en => (ri en).bind fun a => if a.1.length ≤ 4096 then (rLcL t rt re vs a.1 (wip a.2 vs) []).bind fun r => .ret (.fr (.lst r.1), unl l (back r.2 a.2 vs)) else .fail
section
variable {W : Wd} {S P S' P' : Addr → Prop} {en en0 : En} {σ σ2 : St} {H H' : Hp}
theorem wipe_at {σ : St} {j : Nat} : ∀ {vs : List Nat}, j ∉ vs → (wipe σ vs)[j]? = σ[j]?
  | [], _ => rfl
  | v :: vs, h => by
    show ((wipe σ vs).set v none)[j]? = _
    rw [List.getElem?_set_ne (by rintro rfl; exact h List.mem_cons_self)]
    exact wipe_at fun z => h (List.mem_cons_of_mem _ z)
theorem wip_len {en : En} : ∀ (vs : List Nat), (wip en vs).length = en.length
  | [] => rfl
  | v :: vs => by show ((wip en vs).set v none).length = _; rw [List.length_set, wip_len vs]
theorem wip_get {en : En} {i : Nat} {f : Fg} {d : D} : ∀ {vs : List Nat}, (wip en vs)[i]? = some (some (f, d)) → i ∉ vs ∧ en[i]? = some (some (f, d))
  | [], h => ⟨by simp, h⟩
  | v :: vs, h => by
    have h : ((wip en vs).set v none)[i]? = some (some (f, d)) := h
    rcases set_get h with ⟨_, q⟩ | ⟨ne, q⟩
    · cases q
    · obtain ⟨a, b⟩ := wip_get q
      exact ⟨by simp only [List.mem_cons, not_or]; exact ⟨fun e => ne e.symm, a⟩, b⟩
theorem back_len {en en0 : En} : ∀ (vs : List Nat), (back en en0 vs).length = en.length
  | [] => rfl
  | v :: vs => by show ((back en en0 vs).set v _).length = _; rw [List.length_set, back_len vs]
theorem back_get {en en0 : En} {i : Nat} {f : Fg} {d : D} : ∀ {vs : List Nat}, (back en en0 vs)[i]? = some (some (f, d)) → (i ∈ vs ∧ f = .fz ∧ en0[i]? = some (some (f, d))) ∨ (i ∉ vs ∧ en[i]? = some (some (f, d)))
  | [], h => .inr ⟨by simp, h⟩
  | v :: vs, h => by
    have h : ((back en en0 vs).set v (match en0[v]? with
      | some (some (.fz, d)) => some (.fz, d)
      | _ => none))[i]? = some (some (f, d)) := h
    rcases set_get h with ⟨rfl, q⟩ | ⟨ne, q⟩
    · split at q
      · rename_i d' e
        cases q
        exact .inl ⟨List.mem_cons_self, rfl, e⟩
      · cases q
    · rcases back_get q with ⟨a, b⟩ | ⟨a, b⟩
      · exact .inl ⟨List.mem_cons_of_mem _ a, b⟩
      · exact .inr ⟨by simp only [List.mem_cons, not_or]; exact ⟨fun e => ne e.symm, a⟩, b⟩
theorem wipe_eq {σ σ2 : St} {vs is : List Nat} (his : ∀ i ∈ is, i ∈ vs) (h : ∀ j, j ∉ is → σ2[j]? = (wipe σ vs)[j]?) (hl : σ2.length = (wipe σ vs).length) : wipe σ2 vs = wipe σ vs := by
  have wn : ∀ (τ : St) (j : Nat) (us : List Nat), j ∈ us → j < τ.length → (wipe τ us)[j]? = some none := by
    intro τ j us
    induction us with
    | nil => intro h; simp at h
    | cons u us ih =>
      intro h hlt
      show ((wipe τ us).set u none)[j]? = some none
      by_cases e : u = j
      · subst e; rw [List.getElem?_set_self (by rw [wipe_length]; exact hlt)]
      · rw [List.getElem?_set_ne e]
        exact ih ((List.mem_cons.mp h).resolve_left fun z => e z.symm) hlt
  apply List.ext_getElem?
  intro j
  by_cases hj : j ∈ vs
  · by_cases hlt : j < σ.length
    · rw [wn σ2 j vs hj (by rw [hl, wipe_length]; exact hlt), wn σ j vs hj hlt]
    · rw [List.getElem?_eq_none (by rw [wipe_length, hl, wipe_length]; omega), List.getElem?_eq_none (by rw [wipe_length]; omega)]
  · rw [wipe_at hj]
    exact h j fun z => hj (his j z)
/-- the comprehension's names are forgotten -/
theorem Rel.wipe (R : Rel W S P en σ2 H) {vs is : List Nat} (his : ∀ i ∈ is, i ∈ vs) (h : ∀ j, j ∉ is → σ2[j]? = (L2.wipe σ vs)[j]?) (hl : σ2.length = σ.length) : Rel W S P (wip en vs) (L2.wipe σ vs) H := by
  refine ⟨R.sp, R.pd, fun i f d e => ?_, fun i j f g d e v h1 h2 h3 h4 h5 h6 => ?_, by rw [wip_len, wipe_length, ← hl]; exact R.len, R.dr, R.drP, R.tb⟩
  · obtain ⟨hi, e⟩ := wip_get e
    rw [← h i fun z => hi (his i z)]
    exact R.slot i f d e
  · obtain ⟨hi, e1⟩ := wip_get h1
    obtain ⟨hj, e2⟩ := wip_get h2
    rw [← h i fun z => hi (his i z)] at h5
    rw [← h j fun z => hj (his j z)] at h6
    exact R.inj i j f g d e v e1 e2 h3 h4 h5 h6
theorem Rel.wipe0 (R : Rel W S P en σ H) (vs : List Nat) : Rel W S P (wip en vs) (L2.wipe σ vs) H := by
  refine ⟨R.sp, R.pd, fun i f d e => ?_, fun i j f g d e v h1 h2 h3 h4 h5 h6 => ?_, by rw [wip_len, wipe_length]; exact R.len, R.dr, R.drP, R.tb⟩
  · obtain ⟨hi, e⟩ := wip_get e
    rw [wipe_at hi]
    exact R.slot i f d e
  · obtain ⟨hi, e1⟩ := wip_get h1
    obtain ⟨hj, e2⟩ := wip_get h2
    rw [wipe_at hi] at h5
    rw [wipe_at hj] at h6
    exact R.inj i j f g d e v e1 e2 h3 h4 h5 h6
/-- an object that no name holds is guarded -/
theorem Rel.guard {p : Addr} {u : HO} (R : Rel W S P en σ H) (hp : Free W P en σ p) (ho : H p = some u) : Rel W S (add P p) en σ H := by
  refine ⟨fun a h => .inl (R.sp a h), fun a h => h.elim (R.pd a) fun e => ⟨u, by rw [e]; exact ho⟩, fun i f d e => ?_, R.inj, R.len, R.dr, ⟨fun w => w.elim R.drP.1 fun e => hp.2.1 e.symm, R.drP.2.add hp.2.2.1⟩, R.tb⟩
  obtain ⟨v, hv, dv, t, ow⟩ := R.slot i f d e
  refine ⟨v, hv, dv, t, fun z => ?_⟩
  obtain ⟨q, o, ev, hs, hq, hl, h1, h2, h3⟩ := ow z
  have ne : q ≠ p := fun eq => by
    subst eq
    exact hp.2.2.2 i f d e z (by rw [hv, ev])
  exact ⟨q, o, ev, hs, fun y w => w.elim (hq y) ne, fun y => .inl (hl y), h1, h2, h3⟩
/-- a guarded object is changed, and let go -/
theorem Rel.turn {p : Addr} {u : HO} (R : Rel W S P en σ H) (hp : P p) (hs : ¬ S p) (hlk : ∀ (i : Nat) (d : D), en[i]? = some (some (.lk, d)) → σ[i]? ≠ some (some (.ref p))) (tb : TbS W S (upd H p u)) :
    Rel W S (fun a => P a ∧ a ≠ p) en σ (upd H p u) ∧ Free W (fun a => P a ∧ a ≠ p) en σ p := by
  have neS : ∀ a, S a → a ≠ p := fun a h e => hs (e ▸ h)
  have pda : p ≠ W.da ∧ NB W p := ⟨fun e => R.drP.1 (e ▸ hp), R.drP.2.nb hp⟩
  have nep : ∀ (i : Nat) (f : Fg) (d : D), en[i]? = some (some (f, d)) → f ≠ .fz → σ[i]? ≠ some (some (.ref p)) := by
    intro i f d e nf hv
    cases f with
    | fz => exact nf rfl
    | lk => exact hlk i d e hv
    | ow =>
      obtain ⟨v, hv', _, _, ow⟩ := R.slot i .ow d e
      obtain ⟨q, o, ev, _, hq, _⟩ := ow nf
      rw [hv] at hv'
      cases hv'
      cases ev
      exact hq rfl hp
  refine ⟨⟨fun a h => ⟨R.sp a h, neS a h⟩, fun a h => by rw [upd_ne h.2]; exact R.pd a h.1, fun i f d e => ?_, R.inj, R.len, ?_, ⟨fun w => R.drP.1 w.1, R.drP.2.sub fun _ w => w.1⟩, tb⟩, ⟨fun w => w.2 rfl, pda.1, pda.2, nep⟩⟩
  · obtain ⟨v, hv, dv, t, ow⟩ := R.slot i f d e
    refine ⟨v, hv, dv.mono (fun _ h => h) (fun a h => upd_ne (neS a h)) ?_, t, fun z => ?_⟩
    · by_cases hf : f = .fz
      · exact (t hf).mono fun a h => upd_ne (neS a h)
      · obtain ⟨q, o, ev, _⟩ := ow hf
        subst ev
        have ne : q ≠ p := fun eq => nep i f d e hf (by rw [hv, eq])
        have : upd H p u q = H q := upd_ne ne
        cases d <;> first | exact trivial | exact this
    · obtain ⟨q, o, ev, hs', hq, hl, h1, h2, h3⟩ := ow z
      have ne : q ≠ p := fun eq => nep i f d e z (by rw [hv, ev, eq])
      exact ⟨q, o, ev, hs', fun y w => hq y w.1, fun y => ⟨hl y, ne⟩, h1, h2, by rw [upd_ne ne]; exact h3⟩
  · obtain ⟨ne, ns, i, j, k, h1, h2, h3⟩ := R.dr
    exact ⟨ne, ns, i, j, k, by rw [upd_ne pda.1.symm]; exact h1, by rw [upd_ne pda.2.1.symm]; exact h2, h3⟩
end
end Sx
set_option Elab.async false
set_option linter.all false
set_option maxRecDepth 100000
set_option maxHeartbeats 4000000
set_option autoImplicit false
namespace Sx
open PySem L2
section
variable {W : Wd} {X : Cx} {pos : Pos} {ri : RunI} {l : Option Nat} {g : TG} {t : Tg} {is : List Nat} {rt : RunT} {re : Run}
theorem DvL.snoc {S : Addr → Prop} {H : Hp} {vs : List V} {ds : List D} {v : V} {d : D} (h : DvL W S H vs ds) (z : Dz W S H v d) : DvL W S H (vs ++ [v]) (ds ++ [d]) := by
  induction ds generalizing vs with
  | nil => cases h; exact .cons z.1 z.2 .nil
  | cons e es ih => cases h with | cons t1 d1 r => exact .cons t1 d1 (ih r)
theorem OpOk.valz {S P : Addr → Prop} {en : En} {σ : St} {H : Hp} {v : V} {o : Op} {y : D} (R : Rel W S P en σ H) (h : OpOk W S P en σ H v o) (e : valO o = some y) : ∃ S' P', Ext S P H S' P' H ∧ Rel W S' P' en σ H ∧ Dz W S' H v y := by
  cases o with
  | v d => cases e; exact ⟨S, P, .refl, R, h⟩
  | b i => cases e
  | fr d' =>
    cases e
    exact OpOk.settle (o := .fr _) R h
theorem drop_at {α : Type} {l : List α} {i : Nat} {d : α} (h : l[i]? = some d) : l.drop i = d :: l.drop (i + 1) := by
  have hlt := lt_of_get h
  rw [List.drop_eq_getElem_cons hlt]
  congr 1
  have := List.getElem?_eq_getElem hlt
  rw [h] at this
  exact (Option.some.inj this).symm
theorem unl_nf {l : Option Nat} {en : En} {i : Nat} {f : Fg} {d : D} (h : (unl l en)[i]? = some (some (f, d))) (nf : f ≠ .fz) : ∃ g e, en[i]? = some (some (g, e)) ∧ g ≠ .fz := by
  cases l with
  | none => exact ⟨f, d, h, nf⟩
  | some j =>
    unfold unl at h
    simp only at h
    split at h
    · rename_i d' e
      rcases set_get h with ⟨rfl, q⟩ | ⟨_, q⟩
      · exact ⟨.lk, d', e, by decide⟩
      · exact ⟨f, d, q, nf⟩
    · exact ⟨f, d, h, nf⟩
/-- behind the walk the outer names stand again -/
theorem Rel.back {S1 P1 S P : Addr → Prop} {en1 en : En} {σ : St} {H1 H : Hp} {vs : List Nat} (R1 : Rel W S1 P1 en1 σ H1) (e : Ext S1 P1 H1 S P H) (R : Rel W S P en (L2.wipe σ vs) H) : Rel W S P (Sx.back en en1 vs) σ H := by
  refine ⟨R.sp, R.pd, fun i f d q => ?_, fun i j f g d e' v h1 h2 h3 h4 h5 h6 => ?_, by rw [back_len, R.len, wipe_length], R.dr, R.drP, R.tb⟩
  · rcases back_get q with ⟨hi, rfl, q⟩ | ⟨hi, q⟩
    · obtain ⟨v, hv, dv, tn, _⟩ := R1.slot i .fz d q
      have dz : Dz W S H v d := R1.top e ⟨tn rfl, dv⟩
      exact ⟨v, hv, dz.2, fun _ => dz.1, fun z => absurd rfl z⟩
    · rw [← wipe_at hi]; exact R.slot i f d q
  · rcases back_get h1 with ⟨_, rfl, _⟩ | ⟨hi, q1⟩
    · exact absurd rfl h3
    · rcases back_get h2 with ⟨_, rfl, _⟩ | ⟨hj, q2⟩
      · exact absurd rfl h4
      · rw [← wipe_at hi] at h5
        rw [← wipe_at hj] at h6
        exact R.inj i j f g d e' v q1 q2 h3 h4 h5 h6
/-- a target locks nothing -/
def ShG (t : Tg) (is : List Nat) : Prop := ∀ d en en', t d en = some en' → LkSub en' en ∧ ∀ j ∈ is, ∀ d', en'[j]? ≠ some (some (.lk, d'))
theorem tv_lc {vs : List Nat} (gk : GOk W g t is) (sg : ShG t is) (his : ∀ i ∈ is, i ∈ vs) (ht : ShT rt) (he : ShR re) (hsz : (4096 : Nat) < sizeLine) {σ : St} {H : Hp} {Q : VK} (h : TV W (rLc ri l t rt re vs) σ H Q) :
    tLc (TVI W ri l) g (TVT W rt) (TV W re) vs σ H Q := by
  obtain ⟨S, P, en, R, w⟩ := h
  have w := (T.wp_bind _ _ _).mp w
  refine ⟨S, P, en, R, T.wp_mono w fun r q J H1 S1 P1 Pw e1 R1 hPw hun _ wk => ?_⟩
  intro Da hD
  have q : (if r.1.length ≤ 4096 then (rLcL t rt re vs r.1 (wip r.2 vs) []).bind fun r' => T.ret (Op.fr (.lst r'.1), unl l (back r'.2 r.2 vs)) else T.fail).wp _ := q
  split at q
  case isFalse => exact q.elim
  rename_i hlen
  have q := (T.wp_bind _ _ _).mp q
  have pwd : ∀ a, Pw a → a ≠ Da := fun a h z => by obtain ⟨o, e⟩ := R1.pd a h; rw [z, hD] at e; cases e
  have dd1 : Da ≠ W.da ∧ NB W Da := by
    obtain ⟨ne, ns, i, j, k, h1, h2, h3⟩ := R1.dr
    exact ⟨fun z => (by rw [← z, hD] at h1; cases h1), NB.of_none ⟨_, h2⟩ R1.tb hD⟩
  -- the start
  have e0 : Ext S1 Pw H1 S1 Pw (upd H1 Da (.lst [])) := ⟨fun _ h => h, fun _ h => h, fun a h => upd_ne (pwd a h), fun _ h => .inl h⟩
  have R0 : Rel W S1 Pw (wip r.2 vs) (wipe σ vs) (upd H1 Da (.lst [])) ∧ Free W Pw (wip r.2 vs) (wipe σ vs) Da := by
    obtain ⟨_, R0⟩ := (R1.wipe0 vs).same (upd_keeps (u := .lst []) hD) (fun _ h => h) (fun _ h => .inl h) (fun a h => by obtain ⟨o, e⟩ := R1.dom a h; exact ⟨o, upd_keeps hD a o e⟩) tup_upd
    have R0' : Rel W S1 Pw (wip r.2 vs) (wipe σ vs) (upd H1 Da (.lst [])) := by
      have eq : (fun a => Pw a ∨ S1 a) = Pw := by funext a; exact propext ⟨fun h => h.elim id (R1.sp a), .inl⟩
      rw [eq] at R0; exact R0
    refine ⟨R0', fun h => pwd Da h rfl, dd1.1, dd1.2, fun i f d e nf hv => ?_⟩
    obtain ⟨v, hv', _, _, ow⟩ := (R1.wipe0 vs).slot i f d e
    obtain ⟨q, o, ev, _, _, _, _, _, h3⟩ := ow nf
    rw [hv'] at hv
    cases hv
    cases ev
    rw [hD] at h3; cases h3
  refine ⟨fun i m H2 => i ≤ r.1.length ∧ m = r.1.length - i ∧ ∃ S2 P2 en2 acc accD, Ext S1 Pw H1 S2 P2 H2 ∧ Rel W S2 P2 en2 (wipe σ vs) H2 ∧ ¬ S2 Da ∧ Free W P2 en2 (wipe σ vs) Da ∧ H2 Da = some (.lst acc) ∧ DvL W S2 H2 acc accD ∧ acc.length ≤ i ∧
    (rLcL t rt re vs (r.1.drop i) en2 accD).wp fun r' => ∀ v H' S' P', Ext S P H S' P' H' → Rel W S' P' (unl l (Sx.back r'.2 r.2 vs)) σ H' → OpOk W S' P' (unl l (Sx.back r'.2 r.2 vs)) σ H' v (.fr (.lst r'.1)) → Q v H',
    ⟨_, Nat.zero_le _, rfl, S1, Pw, wip r.2 vs, [], [], e0, R0.1, fun h => pwd Da (R1.sp Da h) rfl, R0.2, upd_same, .nil, Nat.zero_le _, q⟩, ?_⟩
  rintro i m H2 ⟨hi, rfl, S2, P2, en2, acc, accD, e2, R2, nS, fD, hD2, dl, hacc, w2⟩
  by_cases hlt : i < r.1.length
  case neg =>
    have ei : i = r.1.length := by omega
    subst ei
    rw [List.drop_length] at w2
    refine .inl ⟨wk.stop _ H2 (fun a h => e2.h a h) (Nat.le_refl _), ?_⟩
    obtain ⟨P3, hP3, e3, R3⟩ := hun S2 P2 (Sx.back en2 r.2 vs) σ H2 (.inr rfl) e2 (R1.back e2 R2)
    refine w2 (.ref Da) H2 S2 P3 (e1.trans e3) R3 ⟨.lst hD2 dl, Da, _, rfl, ⟨fun h => fD.1 (hP3 Da h), dd1.1, dd1.2, fun j f d e nf hv => ?_⟩, hD2⟩
    obtain ⟨g', d', e', nf'⟩ := unl_nf e nf
    rcases back_get e' with ⟨_, rfl, _⟩ | ⟨hj, q1⟩
    · exact absurd rfl nf'
    · rw [← wipe_at hj] at hv
      exact fD.2.2.2 j g' d' q1 nf' hv
  refine .inr ⟨wk.go i H2 (fun a h => e2.h a h) hlt, fun H3 => ∃ S2 P2 en2 acc accD, Ext S1 Pw H1 S2 P2 H3 ∧ Rel W S2 P2 en2 (wipe σ vs) H3 ∧ ¬ S2 Da ∧ Free W P2 en2 (wipe σ vs) Da ∧ H3 Da = some (.lst acc) ∧ DvL W S2 H3 acc accD ∧ acc.length ≤ i + 1 ∧
    (rLcL t rt re vs (r.1.drop (i + 1)) en2 accD).wp fun r' => ∀ v H' S' P', Ext S P H S' P' H' → Rel W S' P' (unl l (Sx.back r'.2 r.2 vs)) σ H' → OpOk W S' P' (unl l (Sx.back r'.2 r.2 vs)) σ H' v (.fr (.lst r'.1)) → Q v H',
    fun H3 z => ⟨r.1.length - (i + 1), by omega, hlt, rfl, z⟩, fun x H3 y => ?_⟩
  -- Da guarded through the turn
  have Rg := R2.guard fD hD2
  have eg : Ext S2 P2 H2 S2 (add P2 Da) H2 := ⟨fun _ h => h, fun a h => .inl h, fun _ _ => rfl, fun _ h => .inl h⟩
  obtain ⟨d, S3, P3, hd, e3, R3, dz⟩ := wk.turn Rg (fun a h => e2.s a h) (fun a h => ⟨.inl (e2.p a h), e2.h a h⟩) hlt y
  have nS3 : ¬ S3 Da := fun h => (e3.n Da h).elim nS fun z => z (.inr rfl)
  have hD3 : H3 Da = some (.lst acc) := (e3.h Da (.inr rfl)).trans hD2
  rw [drop_at hd] at w2
  obtain ⟨en3, htg, w3⟩ := T.wp_ofOpt ((T.wp_bind _ _ _).mp w2)
  refine gk S3 P3 en2 en3 x d (wipe σ vs) H3 _ R3 dz htg fun σ3 ha hl R4 => ⟨wipe_eq his ha hl, ?_⟩
  -- no locked name holds Da
  obtain ⟨sg1, sg2⟩ := sg d en2 en3 htg
  have lk3 : ∀ (j : Nat) (d' : D), en3[j]? = some (some (.lk, d')) → σ3[j]? ≠ some (some (.ref Da)) := by
    intro j d' e hv
    by_cases hj : j ∈ is
    · exact sg2 j hj d' e
    · rw [ha j hj] at hv
      obtain ⟨d2, e2'⟩ := sg1 j d' e
      exact fD.2.2.2 j .lk d2 e2' (by decide) hv
  have w3 := (T.wp_bind _ _ _).mp w3
  have w3 := T.wp_all w3 (ht en3)
  have e13 : Ext S1 Pw H1 S3 P3 H3 := (e2.trans eg).trans e3
  refine ⟨S3, P3, en3, R4, T.wp_mono w3 fun b ⟨q4, sb⟩ H4 S4 P4 e4 R5 => ?_⟩
  have nS4 : ¬ S4 Da := fun h => (e4.n Da h).elim nS3 fun z => z (e3.p Da (.inr rfl))
  have pD4 : P4 Da := e4.p Da (e3.p Da (.inr rfl))
  have hD4 : H4 Da = some (.lst acc) := (e4.h Da (e3.p Da (.inr rfl))).trans hD3
  have lk4 : ∀ (j : Nat) (d' : D), b.2[j]? = some (some (.lk, d')) → σ3[j]? ≠ some (some (.ref Da)) := fun j d' e => by
    obtain ⟨d2, e'⟩ := sb j d' e
    exact lk3 j d2 e'
  have dl4 : DvL W S4 H4 acc accD := (dl.mono (fun a h => e3.s a h) fun a h => e3.h a (.inl (R2.sp a h))).mono (fun a h => e4.s a h) fun a h => e4.h a (R3.sp a h)
  have drop0 : ∀ (S5 P5 : Addr → Prop) (H5 : Hp), Ext S1 Pw H1 S5 P5 H5 → ¬ S5 Da → ∀ u, Ext S1 Pw H1 S5 (fun a => P5 a ∧ a ≠ Da) (upd H5 Da u) := fun S5 P5 H5 e nS5 u =>
    ⟨e.s, fun a h => ⟨e.p a h, pwd a h⟩, fun a h => (upd_ne (pwd a h)).trans (e.h a h), e.n⟩
  have same : ∀ (H5 : Hp) (u : HO), H5 Da = some u → upd H5 Da u = H5 := fun H5 u e => by
    funext a
    by_cases h : a = Da
    · subst h; rw [upd_same, e]
    · exact upd_ne h
  obtain ⟨bb, enb⟩ := b
  cases bb with
  | false =>
    obtain ⟨R6, f6⟩ := R5.turn (u := .lst acc) pD4 nS4 lk4 (Tabs.upd R5.tb hD4 (nx_lst _))
    rw [same H4 _ hD4] at R6
    have d0 := drop0 S4 P4 H4 (e13.trans e4) nS4 (.lst acc)
    rw [same H4 _ hD4] at d0
    refine ⟨S4, _, wip enb vs, acc, accD, d0, R6.wipe his ha (by rw [hl, wipe_length]), nS4, ⟨f6.1, dd1.1, dd1.2, fun j f d' e nf hv => ?_⟩, hD4, dl4, Nat.le_succ_of_le hacc, q4⟩
    obtain ⟨hj, e'⟩ := wip_get e
    rw [wipe_at hj] at hv
    rw [← wipe_at hj, ← ha j fun z => hj (his j z)] at hv
    exact f6.2.2.2 j f d' e' nf hv
  | true =>
    have q4 := (T.wp_bind _ _ _).mp q4
    have q4 := T.wp_all q4 (he enb)
    refine ⟨S4, P4, enb, R5, T.wp_mono q4 fun o ⟨q5, so⟩ yv H5 S5 P5 e5 R6 ok => ?_⟩
    obtain ⟨yd, hy, q5⟩ := T.wp_ofOpt ((T.wp_bind _ _ _).mp q5)
    have nS5 : ¬ S5 Da := fun h => (e5.n Da h).elim nS4 fun z => z pD4
    obtain ⟨S6, P6, e6, R7, dz6⟩ := ok.valz R6 hy
    have nS6 : ¬ S6 Da := fun h => (e6.n Da h).elim nS5 fun z => z (e5.p Da pD4)
    have pD6 : P6 Da := e6.p Da (e5.p Da pD4)
    have hD6 : H5 Da = some (.lst acc) := (e5.h Da pD4).trans hD4
    have lk6 : ∀ (j : Nat) (d' : D), o.2[j]? = some (some (.lk, d')) → σ3[j]? ≠ some (some (.ref Da)) := fun j d' e => by
      obtain ⟨d2, e'⟩ := so j d' e
      exact lk4 j d2 e'
    have dl6 : DvL W S6 H5 acc accD := (dl4.mono (fun a h => e5.s a h) fun a h => e5.h a (R5.sp a h)).mono (fun a h => e6.s a h) fun a _ => rfl
    obtain ⟨R8, f8⟩ := R7.turn (u := .lst (acc ++ [yv])) pD6 nS6 lk6 (Tabs.upd R7.tb hD6 (nx_lst _))
    have hup : ∀ a, S6 a → upd H5 Da (.lst (acc ++ [yv])) a = H5 a := fun a h => upd_ne fun z => nS6 (z ▸ h)
    refine ⟨acc, hD6, Nat.lt_of_le_of_lt (Nat.le_trans hacc (Nat.le_trans hi hlen)) hsz, S6, _, wip o.2 vs, acc ++ [yv], accD ++ [yd], drop0 S6 P6 H5 ((e13.trans e4).trans (e5.trans e6)) nS6 _, R8.wipe his ha (by rw [hl, wipe_length]), nS6, ⟨f8.1, dd1.1, dd1.2, fun j f d' e nf hv => ?_⟩, upd_same,
      (dl6.snoc dz6).mono (fun _ h => h) hup, by rw [List.length_append]; simpa using hacc, q5⟩
    obtain ⟨hj, e'⟩ := wip_get e
    rw [← ha j fun z => hj (his j z)] at hv
    exact f8.2.2.2 j f d' e' nf hv
end
end Sx
set_option Elab.async false
set_option linter.all false
set_option maxRecDepth 100000
set_option maxHeartbeats 4000000
set_option autoImplicit false
namespace Sx
open PySem L2

/-! ### what is walked: lists, tuples, texts -/
section
variable {X : Cx} {tg : Expr}
def iAny (K : PySem.W.Frag) (tl : TE) : TI := fun σ H R => tl σ H fun x H1 => (∃ a, x = .ref a ∧ (∃ xs, SqL K H1 a xs) ∧ R (Itl K a) H1) ∨ (∃ a, x = .ref a ∧ (∃ xs, SqT K H1 a xs) ∧ R (Itt K a) H1) ∨ ∃ z, x = .str z ∧ R (Its z) H1
theorem pi_any {l : Expr} {tl : TE} (hl : PE X l tl) : PI X tg l (iAny X.K tl) := by
  refine ⟨fun pins s σ H R I h => thn (hl.run pins s σ H _ I h) fun v s1 ⟨x, H1, I1, r1, q1⟩ => ?_⟩
  rcases q1 with ⟨a, rfl, ⟨xs, hq⟩, q⟩ | ⟨a, rfl, ⟨xs, hq⟩, q⟩ | ⟨z, rfl, q⟩
  · cases r1
    obtain ⟨its, _, p, _⟩ := I1.list hq
    exact wpAny_pyIter_list p.isList (pi_one (tk := s1.toks) I1 _ (turn_list a _) ⟨_, Heap.get?_push_size _ rfl, rfl, rfl⟩ q)
  · cases r1
    obtain ⟨its, _, p, _⟩ := I1.tuple hq
    exact wpAny_pyIter_tuple (show s1.heap.IsTuple a its.toArray from p) (pi_one (tk := s1.toks) I1 _ (turn_tuple a _) ⟨_, Heap.get?_push_size _ rfl, rfl, rfl⟩ q)
  · obtain ⟨t, rfl⟩ := r1
    by_cases ha : z.cps.all (· < 128) = true
    · exact wpAny_pyIter_ascii ha (pi_one (tk := s1.toks) I1 _ (turn_str _ z t _ (.inl rfl)) ⟨_, Heap.get?_push_size _ rfl, rfl, rfl⟩ q)
    · exact wpAny_pyIter_wide (by simpa using ha) (pi_one (tk := s1.toks) I1 _ (turn_str _ z t _ (.inr rfl)) ⟨_, Heap.get?_push_size _ rfl, rfl, rfl⟩ q)
end
def signs (x : Str) : List D := x.cps.toList.map fun c => .str ⟨#[c]⟩
def itemsOf : Option D → Option (List D)
  | some (.lst ds) => some ds
  | some (.tup ds) => some ds
  | some (.str x) => some (signs x)
  | _ => none
def iSeq (ra : Run) : RunI := fun en => (ra en).bind fun a => (T.ofOpt (itemsOf (valO a.1))).bind fun ds => .ret (ds, a.2)
/-- a name's own list, locked while it is walked -/
def iLock (i : Nat) : RunI := fun en => match en[i]? with
  | some (some (.ow, .lst ds)) => .ret (ds, en.set i (some (.lk, .lst ds)))
  | some (some (.fz, .lst ds)) => .ret (ds, en)
  | _ => .fail
section
variable {W : Wd} {S P S' P' : Addr → Prop} {en : En} {σ : St} {H H' H1 : Hp} {X : Cx} {tg e : Expr} {ra : Run}
theorem DvL.at {vs : List V} {ds : List D} {i : Nat} (h : DvL W S H vs ds) : (∀ x, vs[i]? = some x → ∃ d, ds[i]? = some d ∧ Dz W S H x d) ∧ (∀ d, ds[i]? = some d → ∃ x, vs[i]? = some x ∧ Dz W S H x d) := by
  induction ds generalizing vs i with
  | nil => cases h; exact ⟨fun x e => by simp at e, fun x e => by simp at e⟩
  | cons d ds ih =>
    cases h with
    | cons t dv r =>
      cases i with
      | zero => exact ⟨fun x e => by simp at e; subst e; exact ⟨d, by simp, t, dv⟩, fun x e => by simp at e; subst e; exact ⟨_, by simp, t, dv⟩⟩
      | succ i =>
        obtain ⟨a, b⟩ := ih (i := i) r
        exact ⟨fun x e => a x (by simpa using e), fun x e => b x (by simpa using e)⟩
theorem walks_lst {a : Addr} {xs : List V} {ds : List D} (R : Rel W S P en σ H) (ha : P a) (h : H a = some (.lst xs)) (dl : DvL W S H xs ds) : Walks W S P H (Itl W.K a) ds := by
  have at' : ∀ H2, (∀ b, P b → H2 b = H b) → SqL W.K H2 a xs := fun H2 q => SqL.of ((q a ha).trans h)
  refine ⟨fun i H2 q hi => ⟨xs, at' H2 q, by rw [dl.len]; exact hi⟩, fun i H2 q hi => ?_, fun i H2 x H3 q hi y => ?_⟩
  · have hi' : i < xs.length := by rw [dl.len]; exact hi
    exact ⟨xs, xs[i], at' H2 q, List.getElem?_eq_getElem hi'⟩
  · obtain ⟨rfl, y⟩ := y
    obtain ⟨d, hd, dz⟩ := (dl.at (i := i)).1 x (y xs (at' _ q))
    exact ⟨d, hd, .inl ⟨rfl, dz.mono (fun _ h => h) fun b s => q b (R.sp b s)⟩⟩
theorem walks_tup {a : Addr} {xs : List V} {ds : List D} (R : Rel W S P en σ H) (h : (S a ∧ H a = some (.tup xs)) ∨ Wr W a xs) (dl : DvL W S H xs ds) : Walks W S P H (Itt W.K a) ds := by
  have at' : ∀ H2, (∀ b, P b → H2 b = H b) → SqT W.K H2 a xs := fun H2 q => by
    rcases h with ⟨s, h⟩ | (h | ⟨_, h⟩) | h
    · exact SqT.of ((q a (R.sp a s)).trans h)
    · cases h
    · cases h
    · exact .inr h
  refine ⟨fun i H2 q hi => ⟨xs, at' H2 q, by rw [dl.len]; exact hi⟩, fun i H2 q hi => ?_, fun i H2 x H3 q hi y => ?_⟩
  · have hi' : i < xs.length := by rw [dl.len]; exact hi
    exact ⟨xs, xs[i], at' H2 q, List.getElem?_eq_getElem hi'⟩
  · obtain ⟨rfl, y⟩ := y
    obtain ⟨d, hd, dz⟩ := (dl.at (i := i)).1 x (y xs (at' _ q))
    exact ⟨d, hd, .inl ⟨rfl, dz.mono (fun _ h => h) fun b s => q b (R.sp b s)⟩⟩
theorem walks_str {x : Str} : Walks W S P H (Its x) (signs x) := by
  have hl : (signs x).length = x.cps.size := by simp [signs]
  refine ⟨fun i H2 _ hi => by rw [hl] at hi; exact hi, fun i H2 _ hi => by rw [hl] at hi; exact hi, fun i H2 v H3 _ hi y => ?_⟩
  obtain ⟨rfl, c, hc, rfl⟩ := y
  refine ⟨.str ⟨#[c]⟩, ?_, .inl ⟨rfl, trivial, .str _⟩⟩
  unfold signs
  rw [List.getElem?_map, Array.getElem?_toList, hc]
  rfl
theorem x_seq (h : PE X e (TV W ra)) (hK : X.K = W.K) : PI X tg e (TVI W (iSeq ra) none) := by
  refine ⟨fun pins s σ H R I q => (pi_any (tg := tg) h).run pins s σ H R I ?_⟩
  rw [hK]
  obtain ⟨S, P, en, Rl, w⟩ := q
  have w := (T.wp_bind _ _ _).mp w
  refine ⟨S, P, en, Rl, T.wp_mono w fun a q v H1 S1 P1 e1 R1 ok => ?_⟩
  obtain ⟨ds, hds, q⟩ := T.wp_ofOpt ((T.wp_bind _ _ _).mp q)
  cases hv : valO a.1 with
  | none => rw [hv] at hds; cases hds
  | some y =>
    obtain ⟨S2, P2, e2, R2, dz⟩ := ok.valz R1 hv
    rw [hv] at hds
    have fin : ∀ J, Walks W S2 P2 H1 J ds → R J H1 := fun J wk => q J H1 S2 P2 P2 (e1.trans e2) R2 (fun _ h => h) (fun S3 P3 en3 σ3 H3 _ e3 R3 => ⟨P3, fun _ h => h, e3, R3⟩) (fun _ => rfl) wk
    obtain ⟨tn, dv⟩ := dz
    cases dv with
    | lst ha dl => cases hds; exact .inl ⟨_, rfl, ⟨_, SqL.of ha⟩, fin _ (walks_lst R2 (R2.sp _ tn) ha dl)⟩
    | @tup _ xs _ ha dl =>
      cases hds
      refine .inr (.inl ⟨_, rfl, ⟨xs, ?_⟩, fin _ (walks_tup R2 ha dl)⟩)
      rcases ha with ⟨_, h⟩ | (h | ⟨_, h⟩) | h
      · exact SqT.of h
      · cases h
      · cases h
      · exact .inr h
    | str z =>
      obtain rfl : signs z = ds := Option.some.inj hds
      exact .inr (.inr ⟨z, rfl, fin (Its z) walks_str⟩)
    | _ => cases hds
theorem Rel.lock (R : Rel W S P en σ H) {i : Nat} {d : D} {p : Addr} {o : HO} (h : en[i]? = some (some (.ow, d))) (hv : σ[i]? = some (some (V.ref p))) (ho : H p = some o) : Rel W S (add P p) (en.set i (some (.lk, d))) σ H ∧ ¬ P p ∧ ¬ S p := by
  obtain ⟨v, hv', dv, _, ow⟩ := R.slot i .ow d h
  rw [hv] at hv'
  cases hv'
  obtain ⟨q, o', eq, hs, hp, _, h1, h2, h3⟩ := ow (by decide)
  cases eq
  refine ⟨⟨fun a s => .inl (R.sp a s), fun a s => s.elim (R.pd a) fun e => by subst e; exact ⟨o, ho⟩, fun j f e q => ?_, fun j k f g e e' v g1 g2 g3 g4 g5 g6 => ?_, by rw [List.length_set]; exact R.len, R.dr, ⟨fun w => w.elim R.drP.1 fun e => h1 e.symm, R.drP.2.add h2⟩, R.tb⟩, hp rfl, hs⟩
  · rcases set_get q with ⟨rfl, q2⟩ | ⟨ne, q2⟩
    · cases q2
      exact ⟨_, hv, dv, (fun z => by cases z), fun _ => ⟨p, o, rfl, hs, (fun z => by cases z), fun _ => .inr rfl, h1, h2, ho⟩⟩
    · obtain ⟨v, hv2, dv2, t2, ow2⟩ := R.slot j f e q2
      refine ⟨v, hv2, dv2, t2, fun z => ?_⟩
      obtain ⟨q, o2, ev, hs2, hq2, hl2, g1, g2, g3⟩ := ow2 z
      subst ev
      have nq : q ≠ p := fun eq => ne (R.inj i j .ow f d e _ h q2 (by decide) z hv (by rw [hv2, eq]))
      exact ⟨q, o2, rfl, hs2, fun y w => w.elim (hq2 y) nq, fun y => .inl (hl2 y), g1, g2, g3⟩
  · rcases set_get g1 with ⟨rfl, k1⟩ | ⟨n1, k1⟩
    · rcases set_get g2 with ⟨e2, _⟩ | ⟨n2, k2⟩
      · exact e2
      · exact R.inj i k .ow g d e' v h k2 (by decide) g4 g5 g6
    · rcases set_get g2 with ⟨rfl, k2⟩ | ⟨n2, k2⟩
      · exact R.inj j i f .ow e d v k1 h g3 (by decide) g5 g6
      · exact R.inj j k f g e e' v k1 k2 g3 g4 g5 g6
theorem Rel.unlock {p : Addr} (R : Rel W S P en σ H) {i : Nat} (hp : ¬ S p) (hi : ∀ d, en[i]? = some (some (.lk, d)) → σ[i]? = some (some (V.ref p))) (hx : ∀ (j : Nat) (d : D), j ≠ i → en[j]? = some (some (.lk, d)) → σ[j]? ≠ some (some (V.ref p))) :
    Rel W S (fun a => P a ∧ a ≠ p) (unl (some i) en) σ H := by
  have neS : ∀ a, S a → a ≠ p := fun a h e => hp (e ▸ h)
  have base : ∀ (j : Nat) (f : Fg) (d : D), en[j]? = some (some (f, d)) → (f = .lk → j ≠ i) → ∃ v, σ[j]? = some (some v) ∧ Dv W S H v d ∧ (f = .fz → Tin S v d) ∧ (f ≠ .fz → ∃ q o, v = V.ref q ∧ ¬ S q ∧ (f = .ow → ¬ (P q ∧ q ≠ p)) ∧ (f = .lk → P q ∧ q ≠ p) ∧ q ≠ W.da ∧ NB W q ∧ H q = some o) := by
    intro j f d e hj
    obtain ⟨v, hv, dv, t, ow⟩ := R.slot j f d e
    refine ⟨v, hv, dv, t, fun z => ?_⟩
    obtain ⟨q, o, ev, hs, hq, hl, h1, h2, h3⟩ := ow z
    refine ⟨q, o, ev, hs, fun y w => hq y w.1, fun y => ⟨hl y, fun eq => ?_⟩, h1, h2, h3⟩
    subst y
    exact hx j d (hj rfl) e (by rw [hv, ev, eq])
  have go : unl (some i) en = en ∧ (∀ d, en[i]? ≠ some (some (.lk, d))) ∨ ∃ d, en[i]? = some (some (.lk, d)) ∧ unl (some i) en = en.set i (some (.ow, d)) := by
    rcases slot_cases en i with e | e | ⟨f, d, e⟩
    · exact .inl ⟨by simp only [unl, e], fun d q => by rw [e] at q; cases q⟩
    · exact .inl ⟨by simp only [unl, e], fun d q => by rw [e] at q; cases q⟩
    · cases f with
      | lk => exact .inr ⟨d, e, by simp only [unl, e]⟩
      | fz => exact .inl ⟨by simp only [unl, e], fun d q => by rw [e] at q; cases q⟩
      | ow => exact .inl ⟨by simp only [unl, e], fun d q => by rw [e] at q; cases q⟩
  rcases go with ⟨eq, nl⟩ | ⟨d, e, eq⟩
  · rw [eq]
    exact ⟨fun a h => ⟨R.sp a h, neS a h⟩, fun a h => R.pd a h.1, fun j f d e => base j f d e fun z w => by subst z; subst w; exact nl d e, R.inj, R.len, R.dr, ⟨fun w => R.drP.1 w.1, R.drP.2.sub fun _ w => w.1⟩, R.tb⟩
  · rw [eq]
    refine ⟨fun a h => ⟨R.sp a h, neS a h⟩, fun a h => R.pd a h.1, fun j f d2 e2 => ?_, fun j k f g d2 e' v g1 g2 g3 g4 g5 g6 => ?_, by rw [List.length_set]; exact R.len, R.dr, ⟨fun w => R.drP.1 w.1, R.drP.2.sub fun _ w => w.1⟩, R.tb⟩
    · rcases set_get e2 with ⟨rfl, q2⟩ | ⟨ne, q2⟩
      · cases q2
        obtain ⟨v, hv, dv, _, ow⟩ := R.slot i .lk d e
        obtain ⟨q, o, ev, hs, _, hl, h1, h2, h3⟩ := ow (by decide)
        have : q = p := by
          have := hi d e
          rw [hv, ev] at this
          cases this; rfl
        subst this
        exact ⟨v, hv, dv, (fun z => by cases z), fun _ => ⟨q, o, ev, hs, fun _ w => w.2 rfl, (fun z => by cases z), h1, h2, h3⟩⟩
      · exact base j f d2 q2 fun _ => fun w => ne w.symm
    · rcases set_get g1 with ⟨rfl, k1⟩ | ⟨n1, k1⟩
      · rcases set_get g2 with ⟨e2, _⟩ | ⟨n2, k2⟩
        · exact e2
        · exact R.inj i k .lk g d e' v e k2 (by decide) g4 g5 g6
      · rcases set_get g2 with ⟨rfl, k2⟩ | ⟨n2, k2⟩
        · exact R.inj j i f .lk d2 d v k1 e g3 (by decide) g5 g6
        · exact R.inj j k f g d2 e' v k1 k2 g3 g4 g5 g6
theorem x_lock {i : Nat} {x : Str} {pos : Pos} (h : PE X (.Name x pos) (tVar i)) (hK : X.K = W.K) : PI X tg (.Name x pos) (TVI W (iLock i) (some i)) := by
  refine ⟨fun pins s σ H R I q => (pi_any (tg := tg) h).run pins s σ H R I ?_⟩
  rw [hK]
  obtain ⟨S, P, en, Rl, w⟩ := q
  unfold iLock at w
  rcases slot_cases en i with e | e | ⟨f, d, e⟩
  · rw [e] at w; exact w.elim
  · rw [e] at w; exact w.elim
  · rw [e] at w
    cases d with
    | lst ds =>
      obtain ⟨v, hv, dv, tn, ow⟩ := Rl.slot i f _ e
      cases dv with
      | @lst a xs _ ha dl =>
        refine ⟨_, hv, .inl ⟨a, rfl, ⟨xs, SqL.of ha⟩, ?_⟩⟩
        cases f with
        | fz =>
          refine w (Itl W.K a) H S P P .refl Rl (fun _ h => h) (fun S3 P3 en3 σ3 H3 hs e3 R3 => ?_) (fun _ => rfl) (walks_lst Rl (Rl.sp a (tn rfl)) ha dl)
          have hs : σ3 = σ := hs.resolve_left (by intro z; cases z)
          subst hs
          by_cases hl : ∃ d, en3[i]? = some (some (.lk, d))
          · obtain ⟨d, hl⟩ := hl
            obtain ⟨v, hv', _, _, ow3⟩ := R3.slot i .lk d hl
            obtain ⟨q, o, ev, nS, _⟩ := ow3 (by decide)
            rw [hv] at hv'
            cases hv'
            cases ev
            exact absurd (e3.s a (tn rfl)) nS
          · refine ⟨P3, fun _ h => h, e3, ?_⟩
            have : unl (some i) en3 = en3 := by
              unfold unl
              simp only
              split
              · rename_i d z; exact absurd ⟨d, z⟩ hl
              · rfl
            rw [this]; exact R3
        | lk => exact w.elim
        | ow =>
          obtain ⟨R2, nP, nS⟩ := Rl.lock e hv ha
          refine w (Itl W.K a) H S P (add P a) .refl R2 (fun _ h => .inl h) (fun S3 P3 en3 σ3 H3 hs e3 R3 => ?_) (fun z => by cases z) (walks_lst R2 (.inr rfl) ha dl)
          · have hs : σ3 = σ := hs.resolve_left (by intro z; cases z)
            subst hs
            have nS3 : ¬ S3 a := fun h => (e3.n a h).elim nS fun z => z (.inr rfl)
            by_cases hl : ∃ d, en3[i]? = some (some (.lk, d))
            · obtain ⟨d, hl⟩ := hl
              refine ⟨fun b => P3 b ∧ b ≠ a, fun _ h => h.1, ⟨e3.s, fun b h => ⟨e3.p b (.inl h), fun z => nP (z ▸ h)⟩, fun b h => e3.h b (.inl h), fun b h => (e3.n b h).imp id fun z w => z (.inl w)⟩, R3.unlock nS3 (fun _ _ => hv) fun j d' ne e' q => ?_⟩
              exact ne (R3.inj j i .lk .lk d' d _ e' hl (by decide) (by decide) q hv)
            · have : unl (some i) en3 = en3 := by
                unfold unl
                simp only
                split
                · rename_i d z; exact absurd ⟨d, z⟩ hl
                · rfl
              rw [this]
              exact ⟨P3, fun _ h => h, ⟨e3.s, fun b h => e3.p b (.inl h), fun b h => e3.h b (.inl h), fun b h => (e3.n b h).imp id fun z w => z (.inl w)⟩, R3⟩
    | _ => cases f <;> exact w.elim
end
end Sx
set_option Elab.async false
set_option linter.all false
set_option maxRecDepth 100000
set_option maxHeartbeats 4000000
set_option autoImplicit false
namespace Sx
open PySem L2

/-! ### defs -/
abbrev Fn := List D → T (Bool × D)
/-- all that stands but the draws -/
def Pall (W : Wd) (H : Hp) : Addr → Prop := fun a => (∃ o, H a = some o) ∧ a ≠ W.da ∧ NB W a
/-- the promise of a def that does what f does -/
def spR (K : PySem.W.Frag) (cls : CT) (n : Nat) (f : Fn) : Sp := fun vs H Q _ => vs.length = n ∧ ∃ W S ds, W.K = K ∧ W.cls = cls ∧ DrawOk W H ∧ TbS W S H ∧ DomS S H ∧ ¬ S W.da ∧ NPb W S ∧ DvL W S H vs ds ∧
  (f ds).wp fun c => ∀ v H' S' P', Ext S (Pall W H) H S' P' H' → RetOk W S' P' H' → ROk W S' P' H' v c → Q v H'
def en0 (n : Nat) (ds : List D) : En := ds.map (fun d => some (.fz, d)) ++ List.replicate (n - ds.length) none
def flOf : Fl → Option (Bool × D)
  | .nx => some (false, .non)
  | .rt c => some c
  | _ => none
def runFn (n : Nat) (run : RunS) : Fn := fun ds => (run (en0 n ds)).bind fun r => T.ofOpt (flOf r.1)
def rCall (f : Fn) (rs : Runs) : Run := fun en => (rs en).bind fun a => (T.ofOpt (onlyV a.1)).bind fun ds => (f ds).bind fun c => .ret (mkO c, a.2)
section
variable {W : Wd} {S P S' P' : Addr → Prop} {en : En} {σ : St} {H H' : Hp} {X : Cx} {v : V} {c : Bool × D}
theorem DrawOk.at (d : DrawOk W H) : (∃ o, H W.da = some o) ∧ ∃ o, H W.db = some o := by
  obtain ⟨_, ns, i, j, k, h1, h2, _⟩ := d
  exact ⟨⟨_, h1⟩, ⟨_, h2⟩⟩
/-- behind a call -/
theorem Rel.call (R : Rel W S P en σ H) (e : Ext S (Pall W H) H S' P' H') (ro : RetOk W S' P' H') (ok : ROk W S' P' H' v c) :
    Ext S P H S' (fun a => P a ∨ S' a) H' ∧ Rel W S' (fun a => P a ∨ S' a) en σ H' ∧ OpOk W S' (fun a => P a ∨ S' a) en σ H' v (mkO c) := by
  have inA : ∀ a, P a → Pall W H a := fun a h => ⟨R.pd a h, fun z => R.drP.1 (z ▸ h), R.drP.2.nb h⟩
  have hA : ∀ a, Pall W H a → H' a = H a := e.h
  have nS : ∀ a, Pall W H a → ¬ S a → ¬ S' a := fun a h n w => (e.n a w).elim n fun z => z h
  have nd : ¬ S' W.da ∧ NPb W S' := ⟨fun w => ro.dp.1 (ro.sp _ w), ro.dp.2.sub ro.sp⟩
  refine ⟨⟨e.s, fun a h => .inl h, fun a h => hA a (inA a h), fun a h => (e.n a h).imp id fun z w => z (inA a w)⟩, ⟨fun a h => .inr h, fun a h => h.elim (fun h => by obtain ⟨o, q⟩ := R.pd a h; exact ⟨o, (hA a (inA a h)).trans q⟩) (ro.ds a), fun i f d q => ?_, R.inj, R.len, ro.dr, ⟨fun w => w.elim R.drP.1 nd.1, ⟨fun w => w.elim R.drP.2.1 nd.2.1, fun x hx w => w.elim (R.drP.2.2 x hx) (nd.2.2 x hx)⟩⟩, ro.tb⟩, ?_⟩
  · obtain ⟨v, hv, dv, t, ow⟩ := R.slot i f d q
    refine ⟨v, hv, dv.mono e.s (fun a h => hA a (inA a (R.sp a h))) ?_, fun z => (t z).mono e.s, fun z => ?_⟩
    · by_cases hf : f = .fz
      · exact (t hf).mono fun a h => hA a (inA a (R.sp a h))
      · obtain ⟨p, o, ev, _, _, _, h1, h2, h3⟩ := ow hf
        subst ev
        have : H' p = H p := hA p ⟨⟨o, h3⟩, h1, h2⟩
        cases d <;> first | exact trivial | exact this
    · obtain ⟨p, o, ev, hs, hq, hl, h1, h2, h3⟩ := ow z
      have pa : Pall W H p := ⟨⟨o, h3⟩, h1, h2⟩
      have ns := nS p pa hs
      exact ⟨p, o, ev, ns, fun y w => w.elim (hq y) ns, fun y => .inl (hl y), h1, h2, (hA p pa).trans h3⟩
  · obtain ⟨f, d⟩ := c
    obtain ⟨dv, tn, ow⟩ := ok
    cases f with
    | false => exact ⟨tn rfl, dv⟩
    | true =>
      obtain ⟨p, o, rfl, nP, h1, h2, h3⟩ := ow rfl
      have nA : ¬ Pall W H p := fun w => nP (e.p p w)
      refine ⟨dv, p, o, rfl, ⟨fun w => w.elim (fun w => nA (inA p w)) fun w => nP (ro.sp p w), h1, h2, fun i f d q nf hv => ?_⟩, h3⟩
      obtain ⟨v, hv', _, _, ow⟩ := R.slot i f d q
      obtain ⟨p', o', ev, _, _, _, g1, g2, g3⟩ := ow nf
      rw [hv'] at hv
      cases hv
      cases ev
      exact nA ⟨⟨o', g3⟩, g1, g2⟩
theorem tv_call {n : Nat} {f : Fn} {rs : Runs} {cls : CT} (hcl : W.cls = cls) {Q : VK} (hn : ∀ en, (rs en).all fun r => ∀ ds, onlyV r.1 = some ds → ds.length = n) (h : TV W (rCall f rs) σ H Q) : tCall (spR W.K cls n f) [] E0 (TVs W rs) σ H Q := by
  obtain ⟨S, P, en, R, w⟩ := h
  have w := T.wp_all ((T.wp_bind _ _ _).mp w) (hn en)
  refine ⟨S, P, en, R, T.wp_mono w fun r ⟨q, len⟩ vs H1 S1 P1 e1 R1 pe => ?_⟩
  obtain ⟨ds, hds, q⟩ := T.wp_ofOpt ((T.wp_bind _ _ _).mp q)
  have dl := pe.only hds
  have q := (T.wp_bind _ _ _).mp q
  rw [List.append_nil]
  refine ⟨dl.len.trans (len ds hds), W, S1, ds, rfl, hcl, R1.dr, R1.tb, R1.dom, fun w => R1.drP.1 (R1.sp _ w), R1.drP.2.sub R1.sp, dl, T.wp_mono q fun c q v H' S' P' e ro ok => ?_⟩
  obtain ⟨e2, R2, ok2⟩ := R1.call e ro ok
  exact q v H' S' _ (e1.trans e2) R2 ok2
end

section
variable {P : Program} {w : World} {K : PySem.W.Frag} {mg : Str → Option Value} {base : Heap} {cls : CT}
theorem en0_get {n : Nat} {ds : List D} {i : Nat} {f : Fg} {d : D} (h : (en0 n ds)[i]? = some (some (f, d))) : f = .fz ∧ ds[i]? = some d := by
  unfold en0 at h
  by_cases hl : i < ds.length
  · rw [List.getElem?_append_left (by simpa using hl), List.getElem?_map] at h
    cases e : ds[i]? with
    | none => rw [e] at h; cases h
    | some x => rw [e] at h; cases h; exact ⟨rfl, rfl⟩
  · rw [List.getElem?_append_right (by simpa using hl)] at h
    have := List.eq_of_mem_replicate (List.mem_of_getElem? h)
    cases this
end
end Sx
set_option Elab.async false
set_option linter.all false
set_option maxRecDepth 100000
set_option maxHeartbeats 4000000
set_option autoImplicit false
namespace Sx
open PySem L2

/-! ### plain data -/
mutual
def py : D → Option PyData
  | .non => some .none
  | .bl b => some (.bool b)
  | .int i => some (.int i)
  | .str x => some (.str x)
  | .lst xs => (pyL xs).bind fun ps => some (.list ps)
  | .tup xs => (pyL xs).bind fun ps => some (.tuple ps)
  | _ => none
def pyL : List D → Option (List PyData)
  | [] => some []
  | x :: xs => (py x).bind fun p => (pyL xs).bind fun ps => some (p :: ps)
end
section
variable {W : Wd} {S : Addr → Prop} {H : Hp}
theorem Wr.to {a : Addr} {xs : List V} (h : Wr W a xs) : SqT W.K H a xs := by
  rcases h with (h | ⟨_, h⟩) | h
  · cases h
  · cases h
  · exact .inr h
theorem tup_sq {a : Addr} {xs : List V} (h : (S a ∧ H a = some (.tup xs)) ∨ Wr W a xs) : SqT W.K H a xs := h.elim (fun h => SqT.of h.2) Wr.to
mutual
theorem Dv.dp : ∀ {v : V} {d : D} {p : PyData}, Dv W S H v d → py d = some p → Dp W.K H v p
  | _, _, _, .non, e => by cases e; exact .non
  | _, _, _, .bl b, e => by cases e; exact .bl b
  | _, _, _, .int i, e => by cases e; exact .int i
  | _, _, _, .str x, e => by cases e; exact .str x
  | _, _, _, .lst h r, e => by
    obtain ⟨ps, e1, e2⟩ := Option.bind_eq_some_iff.mp e
    cases e2
    exact .lst (SqL.of h) (DvL.dp r e1)
  | _, _, _, .tup h r, e => by
    obtain ⟨ps, e1, e2⟩ := Option.bind_eq_some_iff.mp e
    cases e2
    exact .tup (tup_sq h) (DvL.dp r e1)
  | _, _, _, .dK _ _, e => by cases e
  | _, _, _, .dT _ _, e => by cases e
  | _, _, _, .obj _ _, e => by cases e
  | _, _, _, .scr _, e => by cases e
  | _, _, _, .drw, e => by cases e
  | _, _, _, .ty _, e => by cases e
  | _, _, _, .cl _, e => by cases e
theorem DvL.dp : ∀ {vs : List V} {ds : List D} {ps : List PyData}, DvL W S H vs ds → pyL ds = some ps → DpAll W.K H vs ps
  | _, _, _, .nil, e => by cases e; exact .nil
  | _, _, _, .cons _ h r, e => by
    obtain ⟨p, e1, e⟩ := Option.bind_eq_some_iff.mp e
    obtain ⟨ps, e2, e⟩ := Option.bind_eq_some_iff.mp e
    cases e
    exact .cons (Dv.dp h e1) (DvL.dp r e2)
end
mutual
theorem dp_plain {K : PySem.W.Frag} : ∀ {v : V} {p : PyData}, Dp K H v p → p.plain = true
  | _, _, .non => rfl
  | _, _, .bl _ => rfl
  | _, _, .int _ => rfl
  | _, _, .str _ => rfl
  | _, _, .lst _ r => dp_plainL r
  | _, _, .tup _ r => dp_plainL r
theorem dp_plainL {K : PySem.W.Frag} : ∀ {vs : List V} {ps : List PyData}, DpAll K H vs ps → PyData.plainAll ps = true
  | _, _, .nil => rfl
  | _, _, .cons h r => by
    show (PyData.plain _ && PyData.plainAll _) = true
    rw [dp_plain h, dp_plainL r]
    rfl
end
end

/-! ### rules by data -/
section
variable {W : Wd} {S : Addr → Prop} {H : Hp} {X : Cx} {Q : VK} {v : V} {d : D}
/-- a scalar, or a part of what stood -/
theorem PRes.old (hd : DomS S H) (r : PRes W S H (false, d) Q) (h : Dz W S H v d) : Q v H := r v H S (fun _ _ e => e) (fun _ h => h) (fun _ h => .inl h) hd (fun _ _ e => .inl e) h.2 (fun _ => h.1) fun z => by cases z
theorem PRes.bl {b : Bool} (hd : DomS S H) (r : PRes W S H (false, .bl b) Q) : Q (.bl b) H := r.old hd ⟨trivial, .bl b⟩
theorem PRes.int {i : Int} (hd : DomS S H) (r : PRes W S H (false, .int i) Q) : Q (.int i) H := r.old hd ⟨trivial, .int i⟩
theorem PRes.str {x : Str} (hd : DomS S H) (r : PRes W S H (false, .str x) Q) : Q (.str x) H := r.old hd ⟨trivial, .str x⟩
def rDD (K : PySem.W.Frag) (C : PyData → PyData → Prop) (f : PyData → PyData → Bool) : R2 := fun x y H Q => ∃ p q, Dp K H x p ∧ Dp K H y q ∧ C p q ∧ Q (.bl (f p q)) H
theorem op_eqP (hu : X.A.units + 64 < cLine) : OpR X (compareOp .Eq) (rDD X.K (fun p _ => p.depth ≤ 60) PyData.eqv) := by
  intro pins s σ H x y v u Q I rx ry h
  obtain ⟨p, q, hp, hq, hs, k⟩ := h
  obtain ⟨as, r1⟩ := Dp.reads I p x v hp rx
  obtain ⟨bs, r2⟩ := Dp.reads I q y u hq ry
  exact SeqAt.eq_plain r1 r2 (dp_plain hp) (dp_plain hq) (by omega) ⟨.bl _, H, I, rfl, k⟩
theorem op_neP (hu : X.A.units + 64 < cLine) : OpR X (compareOp .NotEq) (rDD X.K (fun p _ => p.depth ≤ 60) fun p q => !PyData.eqv p q) := by
  intro pins s σ H x y v u Q I rx ry h
  obtain ⟨p, q, hp, hq, hs, k⟩ := h
  obtain ⟨as, r1⟩ := Dp.reads I p x v hp rx
  obtain ⟨bs, r2⟩ := Dp.reads I q y u hq ry
  exact SeqAt.ne_plain r1 r2 (dp_plain hp) (dp_plain hq) (by omega) ⟨.bl _, H, I, rfl, k⟩
def CLt (p q : PyData) : Prop := PySem.W.alike p q = true ∧ p ≠ .none ∧ p.depth ≤ 60
theorem op_ltP (hu : X.A.units + 64 < cLine) : OpR X (compareOp .Lt) (rDD X.K CLt fun p q => PySem.W.dataLt p q) := by
  intro pins s σ H x y v u Q I rx ry h
  obtain ⟨p, q, hp, hq, ⟨c1, c2, c3⟩, k⟩ := h
  obtain ⟨as, r1⟩ := Dp.reads I p x v hp rx
  obtain ⟨bs, r2⟩ := Dp.reads I q y u hq ry
  exact PySem.W.lt_data r1 r2 c1 c2 (by omega) ⟨.bl _, H, I, rfl, k⟩
theorem op_gtP (hu : X.A.units + 64 < cLine) : OpR X (compareOp .Gt) (rDD X.K CLt fun p q => PySem.W.dataLt q p) := by
  intro pins s σ H x y v u Q I rx ry h
  obtain ⟨p, q, hp, hq, ⟨c1, c2, c3⟩, k⟩ := h
  obtain ⟨as, r1⟩ := Dp.reads I p x v hp rx
  obtain ⟨bs, r2⟩ := Dp.reads I q y u hq ry
  exact PySem.W.gt_data r1 r2 c1 c2 (by omega) ⟨.bl _, H, I, rfl, k⟩
theorem op_leP (hu : X.A.units + 64 < cLine) : OpR X (compareOp .LtE) (rDD X.K CLt fun p q => !PySem.W.dataLt q p) := by
  intro pins s σ H x y v u Q I rx ry h
  obtain ⟨p, q, hp, hq, ⟨c1, c2, c3⟩, k⟩ := h
  obtain ⟨as, r1⟩ := Dp.reads I p x v hp rx
  obtain ⟨bs, r2⟩ := Dp.reads I q y u hq ry
  exact PySem.W.le_data r1 r2 c1 c2 (by omega) ⟨.bl _, H, I, rfl, k⟩
theorem op_geP (hu : X.A.units + 64 < cLine) : OpR X (compareOp .GtE) (rDD X.K CLt fun p q => !PySem.W.dataLt p q) := by
  intro pins s σ H x y v u Q I rx ry h
  obtain ⟨p, q, hp, hq, ⟨c1, c2, c3⟩, k⟩ := h
  obtain ⟨as, r1⟩ := Dp.reads I p x v hp rx
  obtain ⟨bs, r2⟩ := Dp.reads I q y u hq ry
  exact PySem.W.ge_data r1 r2 c1 c2 (by omega) ⟨.bl _, H, I, rfl, k⟩
/-- x in a list or a tuple -/
def rInP (K : PySem.W.Frag) (neg : Bool) : R2 := fun x y H Q => ∃ p ps a xs, y = .ref a ∧ Dp K H x p ∧ DpAll K H xs ps ∧ (SqL K H a xs ∨ SqT K H a xs) ∧ p.depth ≤ 60 ∧ Q (.bl (if neg then !ps.any fun z => PyData.eqv z p else ps.any fun z => PyData.eqv z p)) H
theorem op_inP (hu : X.A.units + 64 < cLine) : OpR X (compareOp .In) (rInP X.K false) := by
  intro pins s σ H x y v u Q I rx ry h
  obtain ⟨p, ps, a, xs, rfl, hp, hps, hs, hd, k⟩ := h
  obtain ⟨as, r1⟩ := Dp.reads I p x v hp rx
  rcases hs with hs | hs
  · obtain ⟨bs, r2⟩ := Dp.reads I (.list ps) (.ref a) u (.lst hs hps) ry
    exact SeqAt.in_list_data r2 r1 (dp_plainL hps) (dp_plain hp) (by omega) ⟨.bl _, H, I, rfl, k⟩
  · obtain ⟨bs, r2⟩ := Dp.reads I (.tuple ps) (.ref a) u (.tup hs hps) ry
    exact SeqAt.in_tuple_data r2 r1 (dp_plainL hps) (dp_plain hp) (by omega) ⟨.bl _, H, I, rfl, k⟩
theorem op_notInP (hu : X.A.units + 64 < cLine) : OpR X (compareOp .NotIn) (rInP X.K true) := by
  intro pins s σ H x y v u Q I rx ry h
  obtain ⟨p, ps, a, xs, rfl, hp, hps, hs, hd, k⟩ := h
  obtain ⟨as, r1⟩ := Dp.reads I p x v hp rx
  rcases hs with hs | hs
  · obtain ⟨bs, r2⟩ := Dp.reads I (.list ps) (.ref a) u (.lst hs hps) ry
    exact SeqAt.notIn_list_data r2 r1 (dp_plainL hps) (dp_plain hp) (by omega) ⟨.bl _, H, I, rfl, k⟩
  · obtain ⟨bs, r2⟩ := Dp.reads I (.tuple ps) (.ref a) u (.tup hs hps) ry
    exact SeqAt.notIn_tuple_data r2 r1 (dp_plainL hps) (dp_plain hp) (by omega) ⟨.bl _, H, I, rfl, k⟩

/-! the functions on data -/
def some0 (d : D) : Option (Bool × D) := some (false, d)
def some1 (d : D) : Option (Bool × D) := some (true, d)
def fEq (x y : D) : Option (Bool × D) := (py x).bind fun p => (py y).bind fun q => if p.depth ≤ 60 then some0 (.bl (PyData.eqv p q)) else none
def fNe (x y : D) : Option (Bool × D) := (py x).bind fun p => (py y).bind fun q => if p.depth ≤ 60 then some0 (.bl (!PyData.eqv p q)) else none
def cLt (p q : PyData) : Bool := PySem.W.alike p q && (match p with | .none => false | _ => true) && decide (p.depth ≤ 60)
def fCmp (g : PyData → PyData → Bool) (x y : D) : Option (Bool × D) := (py x).bind fun p => (py y).bind fun q => if cLt p q then some0 (.bl (g p q)) else none
def fInG (neg : Bool) (x y : D) : Option (Bool × D) := match x, y with
  | .str x', .str y' => match x'.cps.toList with
    | [c] => some0 (.bl (if neg then !decide (c ∈ y'.cps.toList) else decide (c ∈ y'.cps.toList)))
    | _ => none
  | x, y => (py x).bind fun p => (match y with | .lst ds => pyL ds | .tup ds => pyL ds | _ => none).bind fun ps => if p.depth ≤ 60 then some0 (.bl (if neg then !ps.any fun z => PyData.eqv z p else ps.any fun z => PyData.eqv z p)) else none
theorem bind2 {α β γ : Type} {a : Option α} {b : Option β} {f : α → β → Option γ} {c : γ} (h : (a.bind fun p => b.bind fun q => f p q) = some c) : ∃ p q, a = some p ∧ b = some q ∧ f p q = some c := by
  obtain ⟨p, e1, h⟩ := Option.bind_eq_some_iff.mp h
  obtain ⟨q, e2, h⟩ := Option.bind_eq_some_iff.mp h
  exact ⟨p, q, e1, e2, h⟩
theorem p_eq : Pure2 W (rDD W.K (fun p _ => p.depth ≤ 60) PyData.eqv) fEq := by
  intro S H x y d e c Q hd hx hy h r
  obtain ⟨p, q, e1, e2, h⟩ := bind2 h
  split at h
  · cases h; exact ⟨p, q, hx.dp e1, hy.dp e2, by assumption, r.bl hd⟩
  · cases h
theorem p_ne : Pure2 W (rDD W.K (fun p _ => p.depth ≤ 60) fun p q => !PyData.eqv p q) fNe := by
  intro S H x y d e c Q hd hx hy h r
  obtain ⟨p, q, e1, e2, h⟩ := bind2 h
  split at h
  · cases h; exact ⟨p, q, hx.dp e1, hy.dp e2, by assumption, r.bl hd⟩
  · cases h
theorem p_cmp {g : PyData → PyData → Bool} : Pure2 W (rDD W.K CLt g) (fCmp g) := by
  intro S H x y d e c Q hd hx hy h r
  obtain ⟨p, q, e1, e2, h⟩ := bind2 h
  split at h
  · rename_i hc
    cases h
    unfold cLt at hc
    simp only [Bool.and_eq_true, decide_eq_true_eq] at hc
    exact ⟨p, q, hx.dp e1, hy.dp e2, ⟨hc.1.1, (fun z => by rw [z] at hc; exact absurd hc.1.2 (by decide)), hc.2⟩, r.bl hd⟩
  · cases h
def rInAll (K : PySem.W.Frag) (neg : Bool) : R2 := fun x y H Q => rInP K neg x y H Q ∨ ∃ (c : Nat) (z : Str), x = .str ⟨#[c]⟩ ∧ y = .str z ∧ Q (.bl (if neg then !decide (c ∈ z.cps.toList) else decide (c ∈ z.cps.toList))) H
theorem op_inAll (hu : X.A.units + 64 < cLine) : OpR X (compareOp .In) (rInAll X.K false) := (op_inP hu).or op_in_sign
theorem op_notInAll (hu : X.A.units + 64 < cLine) : OpR X (compareOp .NotIn) (rInAll X.K true) := (op_notInP hu).or op_notIn_sign
theorem str1 {x : Str} {c : Nat} (h : x.cps.toList = [c]) : x = ⟨#[c]⟩ := by
  obtain ⟨a⟩ := x
  have h : a.toList = [c] := h
  have : a = #[c] := Array.toList_inj.mp h
  rw [this]
theorem p_in {neg : Bool} : Pure2 W (rInAll W.K neg) (fInG neg) := by
  intro S H x y d e c Q hd hx hy h r
  have gen : ∀ (p : PyData) (ds : List D), py d = some p → ∀ ps, (match e with | .lst ds => pyL ds | .tup ds => pyL ds | _ => none) = some ps → p.depth ≤ 60 → c = (false, .bl (if neg then !ps.any fun z => PyData.eqv z p else ps.any fun z => PyData.eqv z p)) → rInAll W.K neg x y H Q := by
    intro p _ e1 ps e2 hp hc
    subst hc
    refine .inl ?_
    cases hy with
    | lst ha dl => exact ⟨p, ps, _, _, rfl, hx.dp e1, dl.dp e2, .inl (SqL.of ha), hp, r.bl hd⟩
    | tup ha dl => exact ⟨p, ps, _, _, rfl, hx.dp e1, dl.dp e2, .inr (tup_sq ha), hp, r.bl hd⟩
    | _ => cases e2
  unfold fInG at h
  split at h
  · rename_i x' y'
    split at h
    · rename_i c' hc
      cases h
      cases hx
      cases hy
      exact .inr ⟨c', y', by rw [str1 hc], rfl, r.bl hd⟩
    · cases h
  · obtain ⟨p, ps, e1, e2, h⟩ := bind2 h
    split at h
    · cases h; exact gen p [] e1 ps e2 (by assumption) rfl
    · cases h
/-- + -/
def fAdd (x y : D) : Option (Bool × D) := match x, y with
  | .int i, .int j => some0 (.int (i + j))
  | .str a, .str b => if a.length + b.length ≤ 65536 then some0 (.str (a ++ b)) else none
  | .lst xs, .lst ys => if xs.length + ys.length ≤ 4096 then some1 (.lst (xs ++ ys)) else none
  | .tup xs, .tup ys => if xs.length + ys.length ≤ 4096 then some0 (.tup (xs ++ ys)) else none
  | _, _ => none
def rAddAll (K : PySem.W.Frag) : R2 := fun x y H Q => ((rI0 fun i j => .int (i + j)) x y H Q ∨ ∃ i j, x = .str i ∧ y = .str j ∧ i.length + j.length ≤ sizeLine ∧ Q (.str (i ++ j)) H) ∨ (rCat x y H Q ∨ rCatA K x y H Q)
theorem op_addAll : OpR X (binaryOp .Add) (rAddAll X.K) := (op_add.or op_add_str).or (op_cat.or op_catA)
theorem line65536 {n : Nat} (h : n ≤ 65536) : n ≤ sizeLine := Nat.le_trans h (by rw [sizeLine_eq]; decide)
theorem DvL.app {vs ws : List V} {ds es : List D} (h : DvL W S H vs ds) (g : DvL W S H ws es) : DvL W S H (vs ++ ws) (ds ++ es) := by
  induction ds generalizing vs with
  | nil => cases h; exact g
  | cons d ds ih => cases h with | cons t dv r => exact .cons t dv (ih r)
theorem DvL.nil_iff {vs : List V} {ds : List D} (h : DvL W S H vs ds) : vs = [] ↔ ds = [] := by
  cases h <;> simp
theorem p_add : Pure2 W (rAddAll W.K) fAdd := by
  intro S H x y d e c Q hd hx hy h r
  unfold fAdd at h
  split at h
  · cases h; cases hx; cases hy; exact .inl (.inl ⟨_, _, rfl, rfl, r.int hd⟩)
  · split at h
    · cases h; cases hx; cases hy; exact .inl (.inr ⟨_, _, rfl, rfl, line65536 (by assumption), r.str hd⟩)
    · cases h
  · split at h
    · rename_i hl
      cases h
      cases hx with
      | lst ha dl =>
        cases hy with
        | lst hb dl2 => exact .inr (.inl ⟨_, _, _, _, rfl, rfl, ha, hb, line4096 (by rw [dl.len, dl2.len]; exact hl), PRes.lst hd (dl.app dl2) r⟩)
    · cases h
  · split at h
    · rename_i hl
      cases h
      cases hx with
      | tup ha dl =>
        cases hy with
        | tup hb dl2 =>
          refine .inr (.inr ⟨_, _, _, _, rfl, rfl, tup_sq ha, tup_sq hb, line4096 (by rw [dl.len, dl2.len]; exact hl), fun z => ?_, fun _ z => ?_, fun _ _ => PRes.tup hd (dl.app dl2) r⟩)
          · have := dl.nil_iff.mp z
            subst this
            exact r.old hd ⟨trivial, .tup hb dl2⟩
          · have := dl2.nil_iff.mp z
            subst this
            rw [List.append_nil] at r
            exact r.old hd ⟨trivial, .tup ha dl⟩
    · cases h
  · cases h
def fIntC (C : Int → Int → Bool) (g : Int → Int → Int) (x y : D) : Option (Bool × D) := match x, y with
  | .int i, .int j => if C i j then some0 (.int (g i j)) else none
  | _, _ => none
theorem p_intC {C : Int → Int → Bool} {C' : Int → Int → Prop} {g : Int → Int → Int} (hC : ∀ i j, C i j = true → C' i j) : Pure2 W (rI C' fun i j => .int (g i j)) (fIntC C g) := by
  intro S H x y d e c Q hd hx hy h r
  unfold fIntC at h
  split at h
  · split at h
    · cases h; cases hx; cases hy; exact ⟨_, _, rfl, rfl, hC _ _ (by assumption), r.int hd⟩
    · cases h
  · cases h
def fNeg (x : D) : Option (Bool × D) := match x with
  | .int i => some0 (.int (-i))
  | _ => none
theorem p_neg : Pure1 W (rU fun i => .int (-i)) fNeg := by
  intro S H x d c Q hd hx h r
  unfold fNeg at h
  split at h
  · cases h; cases hx; exact ⟨_, rfl, r.int hd⟩
  · cases h
/-- is None, is a truth value -/
def fIs (neg : Bool) (x y : D) : Option (Bool × D) := match x, y with
  | .non, .non => some0 (.bl (!neg))
  | .bl a, .bl b => some0 (.bl (if neg then !decide (a = b) else decide (a = b)))
  | _, .non => some0 (.bl neg)
  | _, _ => none
def rIsAll (neg : Bool) : R2 := fun x y H Q => (y = .non ∧ Q (.bl (if neg then !decide (x = .non) else decide (x = .non))) H) ∨ ∃ a b, x = .bl a ∧ y = .bl b ∧ Q (.bl (if neg then !decide (a = b) else decide (a = b))) H
theorem op_isAll : OpR X (compareOp .Is) (rIsAll false) := op_isN.or op_is_bl
theorem dv_non {x : V} {d : D} (h : Dv W S H x d) : (x = .non) ↔ d = .non := by cases h <;> simp
theorem p_is {neg : Bool} : Pure2 W (rIsAll neg) (fIs neg) := by
  intro S H x y d e c Q hd hx hy h r
  unfold fIs at h
  split at h
  · cases h
    cases hy
    refine .inl ⟨rfl, ?_⟩
    have : x = .non := (dv_non hx).mpr rfl
    subst this
    have := r.bl hd
    cases neg <;> exact this
  · cases h; cases hx; cases hy; exact .inr ⟨_, _, rfl, rfl, r.bl hd⟩
  · rename_i h1 h2
    have hn : d ≠ .non := fun z => by
      subst z
      first | exact h1 rfl | exact h1 rfl rfl | exact h2 rfl | exact h2 rfl rfl
    cases h
    cases hy
    refine .inl ⟨rfl, ?_⟩
    have nx : ¬ x = .non := fun z => hn ((dv_non hx).mp z)
    have := r.bl hd
    cases neg with
    | true => rw [if_pos rfl, decide_eq_false nx]; exact this
    | false => rw [if_neg (by decide), decide_eq_false nx]; exact this
  · cases h
end
end Sx
set_option Elab.async false
set_option linter.all false
set_option maxRecDepth 100000
set_option maxHeartbeats 4000000
set_option autoImplicit false
namespace Sx
open PySem L2

section
variable {W : Wd} {S P : Addr → Prop} {H : Hp} {X : Cx} {Q : VK} {v : V} {d : D} {en : En} {σ : St}
/-! ### subscripts, slices -/
def fIx (x y : D) : Option (Bool × D) := match x, y with
  | .lst ds, .int i => (atI ds i).bind some0
  | .tup ds, .int i => (atI ds i).bind some0
  | .str s, .int i => if s.length ≤ 65536 then (atI s.cps.toList i).bind fun c => some0 (.str ⟨#[c]⟩) else none
  | _, _ => none
theorem DvL.atI {vs : List V} {ds : List D} {i : Int} {d : D} (h : DvL W S H vs ds) (e : L2.atI ds i = some d) : ∃ x, L2.atI vs i = some x ∧ Dz W S H x d := by
  unfold L2.atI at e ⊢
  rw [h.len]
  obtain ⟨j, e1, e2⟩ := Option.bind_eq_some_iff.mp e
  obtain ⟨x, hx, dz⟩ := (h.at (i := j)).2 d e2
  exact ⟨x, by rw [e1]; exact hx, dz⟩
theorem p_ix : Pure2 W (rIx W.K) fIx := by
  intro S H x y d e c Q hd hx hy h r
  unfold fIx at h
  split at h
  · obtain ⟨z, e1, e2⟩ := Option.bind_eq_some_iff.mp h
    cases e2
    cases hy
    cases hx with
    | lst ha dl =>
      obtain ⟨u, hu, dz⟩ := dl.atI e1
      exact .inl ⟨_, _, _, _, rfl, rfl, SqL.of ha, hu, r.old hd dz⟩
  · obtain ⟨z, e1, e2⟩ := Option.bind_eq_some_iff.mp h
    cases e2
    cases hy
    cases hx with
    | tup ha dl =>
      obtain ⟨u, hu, dz⟩ := dl.atI e1
      exact .inr (.inl ⟨_, _, _, _, rfl, rfl, tup_sq ha, hu, r.old hd dz⟩)
  · split at h
    · obtain ⟨z, e1, e2⟩ := Option.bind_eq_some_iff.mp h
      cases e2
      cases hy
      cases hx
      exact .inr (.inr ⟨_, _, _, rfl, rfl, line65536 (by assumption), e1, r.str hd⟩)
    · cases h
  · cases h
theorem x_ix {a b : Expr} {ra rb : Run} {pos : Pos} (ha : PE X a (TV W ra)) (hb : PE X b (TV W rb)) (hK : X.K = W.K) (hs : PlainIx b) : PE X (.Subscript a b pos) (TV W (run2 ra rb fIx)) :=
  pe_weak (pe_ix (r := rIx W.K) (by rw [← hK]; exact ix_seq) ha hb hs) fun _ _ _ h => tv2 p_ix h
/-- a part of a slice -/
abbrev RunO := En → T (Option Int × En)
def TVO (W : Wd) (run : RunO) : TO := fun σ H Q => ∃ S P en, Rel W S P en σ H ∧ (run en).wp fun r => ∀ H' S' P', Ext S P H S' P' H' → Rel W S' P' r.2 σ H' → Q r.1 H'
def oNone : RunO := fun en => .ret (none, en)
def intOf : Option D → Option Int
  | some (.int i) => some i
  | _ => none
def oSome (ra : Run) : RunO := fun en => (ra en).bind fun a => (T.ofOpt (intOf (frc a.2 a.1.fz))).bind fun i => .ret (some i, a.2)
theorem po_weak {e : Option Expr} {t t' : TO} (h : PO X e t) (w : ∀ σ H Q, t' σ H Q → t σ H Q) : PO X e t' := ⟨fun pins s σ H Q I q => h.run pins s σ H Q I (w σ H Q q)⟩
theorem o_none : PO X none (TVO W oNone) := po_weak po_none fun σ H Q h => by
  obtain ⟨S, P, en, R, w⟩ := h
  exact w H S P .refl R
theorem intOf_some {o : Option D} {i : Int} (h : intOf o = some i) : o = some (.int i) := by
  unfold intOf at h
  split at h
  · cases h; rfl
  · cases h
theorem o_some {e : Expr} {ra : Run} (h : PE X e (TV W ra)) : PO X (some e) (TVO W (oSome ra)) := po_weak (po_some h) fun σ H Q h => by
  obtain ⟨S, P, en, R, w⟩ := h
  refine TV.use R w fun c v H1 S1 P1 e1 R1 p1 q => ?_
  obtain ⟨i, ei, q⟩ := T.wp_ofOpt ((T.wp_bind _ _ _).mp q)
  have := p1.now R1 (intOf_some ei)
  cases this
  exact ⟨i, rfl, q H1 S1 P1 e1 R1⟩
def cutD (xs : List D) (lo hi : Option Int) : List D := (xs.drop (HT.sIx xs.length 0 lo)).take (HT.sIx xs.length xs.length hi - HT.sIx xs.length 0 lo)
def fSl (x : D) (lo hi : Option Int) : Option (Bool × D) := match x with
  | .lst ds => some1 (.lst (cutD ds lo hi))
  | .tup ds => some0 (.tup (cutD ds lo hi))
  | .str s => if s.length ≤ 65536 then some0 (.str (cutS s lo hi)) else none
  | _ => none
def rSlice (ra : Run) (rl rh : RunO) : Run := fun en => (ra en).bind fun a => (rl a.2).bind fun l => (rh l.2).bind fun h => ret1 ((frc h.2 a.1.fz).bind fun x => fSl x l.1 h.1) h.2
theorem DvL.take {vs : List V} {ds : List D} (n : Nat) (h : DvL W S H vs ds) : DvL W S H (vs.take n) (ds.take n) := by
  induction n generalizing vs ds with
  | zero => exact .nil
  | succ n ih => cases h with
    | nil => exact .nil
    | cons t dv r => exact .cons t dv (ih r)
theorem DvL.drop {vs : List V} {ds : List D} (n : Nat) (h : DvL W S H vs ds) : DvL W S H (vs.drop n) (ds.drop n) := by
  induction n generalizing vs ds with
  | zero => exact h
  | succ n ih => cases h with
    | nil => exact .nil
    | cons t dv r => exact ih r
theorem DvL.cut {vs : List V} {ds : List D} {lo hi : Option Int} (h : DvL W S H vs ds) : DvL W S H (cutV vs lo hi) (cutD ds lo hi) := by
  unfold cutV cutD
  rw [h.len]
  exact (h.drop _).take _
theorem cutD_whole (ds : List D) (lo hi : Option Int) (h : HT.sIx ds.length 0 lo = 0 ∧ HT.sIx ds.length ds.length hi = ds.length) : cutD ds lo hi = ds := by
  unfold cutD
  rw [h.1, h.2]
  simp
def rSlAll (K : PySem.W.Frag) : V → Option Int → Option Int → Hp → VK → Prop := fun x lo hi H Q => rSlL K x lo hi H Q ∨ (rSlA K x lo hi H Q ∨ rSlS x lo hi H Q)
theorem sl_all : SlR X (rSlAll X.K) := sl_list.or (sl_tupA.or sl_str)
theorem x_slice {e : Expr} {lo hi : Option Expr} {ra : Run} {rl rh : RunO} {pos p2 : Pos} (hK : X.K = W.K) (he : PE X e (TV W ra)) (hl : PO X lo (TVO W rl)) (hh : PO X hi (TVO W rh)) : PE X (.Subscript e (.Slice lo hi none p2) pos) (TV W (rSlice ra rl rh)) := by
  refine pe_weak (pe_slice sl_all he hl hh) fun σ H Q h => ?_
  rw [hK]
  obtain ⟨S, P, en, R, w⟩ := h
  refine TV.use R w fun c v H1 S1 P1 e1 R1 p1 q => ?_
  have q := (T.wp_bind _ _ _).mp q
  refine ⟨S1, P1, c.2, R1, T.wp_mono q fun l q H2 S2 P2 e2 R2 => ?_⟩
  have q := (T.wp_bind _ _ _).mp q
  refine ⟨S2, P2, l.2, R2, T.wp_mono q fun u q H3 S3 P3 e3 R3 => ?_⟩
  obtain ⟨z, ez, qz⟩ := wp_ret1 q
  obtain ⟨x, ex, fx⟩ := Option.bind_eq_some_iff.mp ez
  have dv := ((p1.ext R1 e2).ext R2 e3).now R3 ex
  have r := R3.res fun v' H' S' P' e' R' ok => qz v' H' S' P' (e1.trans (e2.trans (e3.trans e'))) R' ok
  have hd := R3.dom
  cases dv with
  | lst ha dl => cases fx; exact .inl ⟨_, _, rfl, SqL.of ha, PRes.lst hd dl.cut r⟩
  | tup ha dl =>
    cases fx
    refine .inr (.inl ⟨_, _, rfl, tup_sq ha, fun hw => ?_, fun _ => PRes.tup hd dl.cut r⟩)
    rw [cutD_whole _ _ _ (by rw [← dl.len]; exact hw)] at r
    exact r.old hd ⟨trivial, .tup ha dl⟩
  | str s =>
    unfold fSl at fx
    simp only at fx
    split at fx
    · cases fx; exact .inr (.inr ⟨s, rfl, line65536 (by assumption), r.str hd⟩)
    · cases fx
  | _ => cases fx
theorem DvL.rev {vs : List V} {ds : List D} (h : DvL W S H vs ds) : DvL W S H vs.reverse ds.reverse := by
  induction ds generalizing vs with
  | nil => cases h; exact .nil
  | cons d ds ih => cases h with
    | cons t dv r =>
      rw [List.reverse_cons, List.reverse_cons]
      exact (ih r).app (.cons t dv .nil)
/-! ### chains -/
def rChn (f f' : D → D → Option (Bool × D)) (ra rb rc : Run) : Run := fun en => (ra en).bind fun a => (rb a.2).bind fun b => (T.ofOpt (boolOf (((frc b.2 a.1.fz).bind fun x => (frc b.2 b.1.fz).bind fun y => f x y).map (·.2)))).bind fun k =>
  if k then (rc b.2).bind fun c => ret1 ((frc c.2 b.1.fz).bind fun y => (frc c.2 c.1.fz).bind fun z => f' y z) c.2 else .ret (.v (.bl false), b.2)
theorem tv_chn {r r' : R2} {f f' : D → D → Option (Bool × D)} {ra rb rc : Run} (hr : Pure2 W r f) (hr' : Pure2 W r' f') {σ : St} {H : Hp} {Q : VK} (h : TV W (rChn f f' ra rb rc) σ H Q) : tChain r r' (TV W ra) (TV W rb) (TV W rc) σ H Q := by
  obtain ⟨S, P, en, R, w⟩ := h
  refine TV.use R w fun c1 v H1 S1 P1 e1 R1 p1 q => ?_
  refine TV.use R1 q fun c2 u H2 S2 P2 e2 R2 p2 q2 => ?_
  obtain ⟨k, ek, q3⟩ := T.wp_ofOpt ((T.wp_bind _ _ _).mp q2)
  have ek := boolOf_some ek
  rw [Option.map_eq_some_iff] at ek
  obtain ⟨⟨fl, d3⟩, ek, e4⟩ := ek
  have e4 : d3 = .bl k := e4
  subst e4
  obtain ⟨x, ex, ek⟩ := Option.bind_eq_some_iff.mp ek
  obtain ⟨y, ey, fx⟩ := Option.bind_eq_some_iff.mp ek
  refine hr S2 H2 v u x y (fl, .bl k) _ R2.dom ((p1.ext R1 e2).now R2 ex) (p2.now R2 ey) fx (R2.res fun v' H' S' P' e' R' ok => ?_)
  have hk : v' = .bl k := by
    cases fl with
    | false => exact dv_bl ok.2
    | true => exact dv_bl ok.1
  refine ⟨k, hk, ?_⟩
  cases k with
  | false => exact q3 _ H' S' P' (e1.trans (e2.trans e')) R' ⟨trivial, .bl _⟩
  | true =>
    refine TV.use R' q3 fun c3 w3 H3 S3 P3 e3 R3 p3 q4 => ?_
    obtain ⟨z, ez, qz⟩ := wp_ret1 q4
    obtain ⟨y2, ey2, ez⟩ := Option.bind_eq_some_iff.mp ez
    obtain ⟨z2, ez2, fz⟩ := Option.bind_eq_some_iff.mp ez
    exact hr' S3 H3 u w3 y2 z2 z Q R3.dom (((p2.ext R2 e').ext R' e3).now R3 ey2) (p3.now R3 ez2) fz (R3.res fun v'' H'' S'' P'' e'' R'' ok' => qz v'' H'' S'' P'' (e1.trans (e2.trans (e'.trans (e3.trans e'')))) R'' ok')

/-! ### built-in functions -/
def fLen (ds : List D) : Option (Bool × D) := match ds with
  | [.lst xs] => some0 (.int xs.length)
  | [.tup xs] => some0 (.int xs.length)
  | [.str s] => if s.length ≤ 65536 then some0 (.int s.length) else none
  | [.scr n] => some0 (.int n)
  | _ => none
def rLenAll (K : PySem.W.Frag) : List V → Hp → VK → Prop := fun xs H Q => (∃ p ys, xs = [.ref p] ∧ (SqL K H p ys ∨ SqT K H p ys) ∧ Q (.int ys.length) H) ∨ ∃ z, xs = [.str z] ∧ z.length ≤ sizeLine ∧ Q (.int z.length) H
theorem cr_lenAll : CallR X (.builtin "len") (rLenAll X.K) := call_len_seq.or call_len_str
theorem DvA.one {vs : List V} {d : D} (h : DvA W S H vs [d]) : ∃ v, vs = [v] ∧ Dv W S H v d := by
  match vs, h with
  | [v], h => exact ⟨v, rfl, h.1⟩
theorem DvA.two {vs : List V} {d e : D} (h : DvA W S H vs [d, e]) : ∃ v u, vs = [v, u] ∧ Dv W S H v d ∧ Dv W S H u e := by
  match vs, h with
  | [v, u], h => exact ⟨v, u, rfl, h.1, h.2.1⟩
theorem p_len : PureN W (rLenAll W.K) fLen := by
  intro S H vs ds c Q hd h hf r
  unfold fLen at hf
  split at hf
  · obtain ⟨v, rfl, dv⟩ := h.one
    cases hf
    cases dv with
    | lst ha dl => exact .inl ⟨_, _, rfl, .inl (SqL.of ha), by rw [dl.len]; exact r.int hd⟩
  · obtain ⟨v, rfl, dv⟩ := h.one
    cases hf
    cases dv with
    | tup ha dl => exact .inl ⟨_, _, rfl, .inr (tup_sq ha), by rw [dl.len]; exact r.int hd⟩
  · split at hf
    · obtain ⟨v, rfl, dv⟩ := h.one
      cases hf
      cases dv
      exact .inr ⟨_, rfl, line65536 (by assumption), r.int hd⟩
    · cases hf
  · obtain ⟨v, rfl, dv⟩ := h.one
    cases hf
    cases dv with
    | scr ha => exact .inl ⟨_, _, rfl, .inl (ha.elim (fun z => z.2) fun z => z _), r.int hd⟩
  · cases hf
def boolsOf : List D → Option (List Bool)
  | [] => some []
  | .bl b :: ds => (boolsOf ds).bind fun bs => some (b :: bs)
  | _ => none
theorem DvL.bools {vs : List V} {ds : List D} {bs : List Bool} (h : DvL W S H vs ds) (e : boolsOf ds = some bs) : vs = bs.map V.bl := by
  induction ds generalizing vs bs with
  | nil => cases h; cases e; rfl
  | cons d ds ih =>
    cases h with
    | cons t dv r =>
      cases dv <;> first | (cases e; done) | skip
      obtain ⟨bs', e1, e2⟩ := Option.bind_eq_some_iff.mp e
      cases e2
      rw [ih r e1]
      rfl
def fAll (ds : List D) : Option (Bool × D) := match ds with
  | [.lst xs] => (boolsOf xs).bind fun bs => some0 (.bl (bs.all id))
  | _ => none
theorem p_all : PureN W (rAll W.K) fAll := by
  intro S H vs ds c Q hd h hf r
  unfold fAll at hf
  split at hf
  · obtain ⟨v, rfl, dv⟩ := h.one
    obtain ⟨bs, e1, e2⟩ := Option.bind_eq_some_iff.mp hf
    cases e2
    cases dv with
    | lst ha dl => exact ⟨_, bs, rfl, by rw [← dl.bools e1]; exact SqL.of ha, r.bl hd⟩
  · cases hf
def fList (ds : List D) : Option (Bool × D) := match ds with
  | [.lst xs] => some1 (.lst xs)
  | [.tup xs] => some1 (.lst xs)
  | _ => none
theorem p_list : PureN W (fun xs H Q => ∃ p ys, xs = [.ref p] ∧ (SqL W.K H p ys ∨ SqT W.K H p ys) ∧ ∀ l, H l = none → Q (.ref l) (upd H l (.lst ys))) fList := by
  intro S H vs ds c Q hd h hf r
  unfold fList at hf
  split at hf
  · obtain ⟨v, rfl, dv⟩ := h.one
    cases hf
    cases dv with
    | lst ha dl => exact ⟨_, _, rfl, .inl (SqL.of ha), PRes.lst hd dl r⟩
  · obtain ⟨v, rfl, dv⟩ := h.one
    cases hf
    cases dv with
    | tup ha dl => exact ⟨_, _, rfl, .inr (tup_sq ha), PRes.lst hd dl r⟩
  · cases hf
def fTuple (ds : List D) : Option (Bool × D) := match ds with
  | [.lst xs] => some0 (.tup xs)
  | [.tup xs] => some0 (.tup xs)
  | _ => none
theorem p_tuple : PureN W (fun xs H Q => ∃ p ys, xs = [.ref p] ∧ ((SqL W.K H p ys ∧ ∀ l, H l = none → Q (.ref l) (upd H l (.tup ys))) ∨ (SqT W.K H p ys ∧ Q (.ref p) H))) fTuple := by
  intro S H vs ds c Q hd h hf r
  unfold fTuple at hf
  split at hf
  · obtain ⟨v, rfl, dv⟩ := h.one
    cases hf
    cases dv with
    | lst ha dl => exact ⟨_, _, rfl, .inl ⟨SqL.of ha, PRes.tup hd dl r⟩⟩
  · obtain ⟨v, rfl, dv⟩ := h.one
    cases hf
    cases dv with
    | tup ha dl => exact ⟨_, _, rfl, .inr ⟨tup_sq ha, r.old hd ⟨trivial, .tup ha dl⟩⟩⟩
  · cases hf
def fMin2 (ds : List D) : Option (Bool × D) := match ds with
  | [.int i, .int j] => some0 (.int (if j < i then j else i))
  | _ => none
theorem p_min2 : PureN W (fun xs H Q => ∃ i j, xs = [.int i, .int j] ∧ Q (.int (if j < i then j else i)) H) fMin2 := by
  intro S H vs ds c Q hd h hf r
  unfold fMin2 at hf
  split at hf
  · obtain ⟨v, u, rfl, dv, du⟩ := h.two
    cases hf; cases dv; cases du; exact ⟨_, _, rfl, r.int hd⟩
  · cases hf
end
end Sx
set_option Elab.async false
set_option linter.all false
set_option maxRecDepth 100000
set_option maxHeartbeats 4000000
set_option autoImplicit false
namespace Sx
open PySem L2
open PySem.W (EachIs dataLe dataLt alike AllAlike Sortable)

section
variable {W : Wd} {S P : Addr → Prop} {H : Hp} {X : Cx} {Q : VK} {v : V} {d : D} {en : En} {σ : St}
/-! ### sorted -/
def keyD (d : D) : PyData := (py d).getD .none
def leD (a b : D) : Bool := !dataLt (keyD b) (keyD a)
def pairsAll (f : PyData → PyData → Bool) (ps : List PyData) : Bool := ps.all fun p => ps.all fun q => f p q
def tup1 (p : PyData) : Bool := match p with
  | .tuple (_ :: _) => true
  | _ => false
def flat1 (p : PyData) : Bool := match p with
  | .tuple _ => false
  | .none => false
  | _ => true
def sortOk (ps : List PyData) : Bool := ps.all (fun p => decide (p.depth ≤ 50)) && pairsAll alike ps && (ps.all tup1 || ps.all flat1)
def fSorted (ds : List D) : Option (Bool × D) := match ds with
  | [.lst xs] => (pyL xs).bind fun ps => if sortOk ps && decide (xs.length ≤ 4096) then some1 (.lst (xs.mergeSort leD)) else none
  | _ => none
def rSortP (K : PySem.W.Frag) : List V → Hp → VK → Prop := fun vs H Q => ∃ (a : Addr) (xs : List V) (ps : List PyData), vs = [.ref a] ∧ SqL K H a xs ∧ DpAll K H xs ps ∧ AllAlike ps ∧ Sortable ps ∧ (∀ p ∈ ps, p.depth ≤ 50) ∧
  ∀ q, H q = none → Q (.ref q) (upd H q (.lst (((xs.zip ps).mergeSort (dataLe false fun z : V × PyData => z.2)).map (·.1))))
theorem each_zip {R : Value → PyData → Prop} : ∀ {us : List Value} {xs : List V} {ps : List PyData}, Vals xs us → EachIs R us ps → xs.length = ps.length → EachIs (fun u (z : V × PyData) => RelV z.1 u ∧ R u z.2) us (xs.zip ps)
  | [], [], [], .nil, _, _ => .nil
  | u :: us, x :: xs, p :: ps, .cons r t, .cons r2 t2, e => .cons ⟨r, r2⟩ (each_zip t t2 (by simpa using e))
theorem each_reads {h : Heap} : ∀ {us : List Value} {ps : List PyData} {as : List Addr}, ReadsAll h us ps as → EachIs (fun u p => ∃ as, Reads h u p as) us ps
  | _, _, _, .nil => .nil
  | _, _, _, .cons r t => .cons ⟨_, r⟩ (each_reads t)
theorem each_vals : ∀ {us : List Value} {zs : List (V × PyData)}, EachIs (fun u (z : V × PyData) => RelV z.1 u) us zs → Vals (zs.map (·.1)) us
  | _, _, .nil => .nil
  | _, _, .cons r t => .cons r (each_vals t)
theorem cr_sortP (hu : X.A.units + 64 < cLine) : CallR X (.builtin "sorted") (rSortP X.K) := by
  intro pins s σ H vs us Q I r h
  obtain ⟨a, xs, ps, rfl, hs, dp, hal, hk, hdp, q⟩ := h
  obtain ⟨u, rfl, ru⟩ := vals1 r
  cases ru
  obtain ⟨its, rv, pl, hz⟩ := I.list hs
  obtain ⟨as, ra⟩ := Dp.readsAll I ps xs its dp rv
  have e0 := each_reads ra
  have hlen : xs.length = ps.length := by rw [rv.length, e0.length]
  have e1 := each_zip rv e0 hlen
  have hsnd : (xs.zip ps).map (fun z : V × PyData => z.2) = ps := by
    have := List.map_snd_zip (l₁ := xs) (l₂ := ps) (by omega)
    exact this
  refine PySem.W.sorted_data (vs := its) (bs := xs.zip ps) (enc := fun z => z.2) (R := fun u z => RelV z.1 u) pl.isList (e1.mono fun _ _ h => h.1) (e1.mono fun _ _ h => h.2) (by rw [hsnd]; exact hal) (by rw [hsnd]; exact hk) (by rw [List.length_zip]; omega) (fun b hb => ?_) fun out hl he => ?_
  · have : b.2 ∈ ps := by rw [← hsnd]; exact List.mem_map.mpr ⟨b, hb, rfl⟩
    have := hdp _ this
    show X.A.units + 2 + b.2.depth < cLine
    omega
  · obtain ⟨e, hat⟩ := PyProof.Rows.sortedAll_at s.heap its out.toArray
    have keep : ∀ b o, s.heap.get? b = some o → (PyProof.Rows.sortedAll s.heap its out.toArray).get? b = some o := fun b o h => PyProof.Rows.sortedAll_old h
    have hle : s.heap.objs.size ≤ s.heap.objs.size + 1 := Nat.le_succ _
    refine ⟨.ref (s.heap.objs.size + 1), _, I.laid (t' := s.toks) (a := s.heap.objs.size + 1) (o := .lst (((xs.zip ps).mergeSort (dataLe false fun z : V × PyData => z.2)).map (·.1))) keep hle ⟨?_, out, e, each_vals he, ?_⟩, rfl, q _ (I.hok.fresh hle)⟩
    · rw [List.length_map, List.length_mergeSort, List.length_zip]; omega
    · exact hat
theorem all_pairs {f : PyData → PyData → Bool} {ps : List PyData} (h : pairsAll f ps = true) : ∀ p ∈ ps, ∀ q ∈ ps, f p q = true := fun p hp q hq => List.all_eq_true.mp (List.all_eq_true.mp h p hp) q hq
theorem sortOk_to {ps : List PyData} (h : sortOk ps = true) : AllAlike ps ∧ Sortable ps ∧ ∀ p ∈ ps, p.depth ≤ 50 := by
  unfold sortOk at h
  simp only [Bool.and_eq_true, Bool.or_eq_true] at h
  obtain ⟨⟨h1, h2⟩, h3⟩ := h
  refine ⟨all_pairs h2, ?_, fun p hp => of_decide_eq_true (List.all_eq_true.mp h1 p hp)⟩
  rcases h3 with h3 | h3
  · refine .inl fun p hp => ?_
    have := List.all_eq_true.mp h3 p hp
    unfold tup1 at this
    split at this
    · exact ⟨_, _, rfl⟩
    · cases this
  · refine .inr fun p hp => ?_
    have := List.all_eq_true.mp h3 p hp
    unfold flat1 at this
    split at this
    · cases this
    · cases this
    · rename_i h1 h2; exact ⟨fun z => h2 z, fun xs z => h1 xs z⟩
/-- values beside data, in one order -/
theorem DvL.both : ∀ {vs : List V} {ds : List D}, DvL W S H vs ds → ∃ zs : List (V × D), zs.map (·.1) = vs ∧ zs.map (·.2) = ds ∧ ∀ z ∈ zs, Dz W S H z.1 z.2
  | _, _, .nil => ⟨[], rfl, rfl, fun _ h => by simp at h⟩
  | _, _, .cons (v := v) (d := d) t dv r => by
    obtain ⟨zs, e1, e2, hz⟩ := DvL.both r
    refine ⟨(v, d) :: zs, by simp [e1], by simp [e2], fun z h => ?_⟩
    rcases List.mem_cons.mp h with rfl | h
    · exact ⟨t, dv⟩
    · exact hz z h
theorem DvL.ofBoth : ∀ {zs : List (V × D)}, (∀ z ∈ zs, Dz W S H z.1 z.2) → DvL W S H (zs.map (·.1)) (zs.map (·.2))
  | [], _ => .nil
  | z :: zs, h => .cons (h z List.mem_cons_self).1 (h z List.mem_cons_self).2 (DvL.ofBoth fun y hy => h y (List.mem_cons_of_mem _ hy))
theorem pyL_key {ds : List D} {ps : List PyData} (h : pyL ds = some ps) : ps = ds.map keyD := by
  induction ds generalizing ps with
  | nil => cases h; rfl
  | cons d ds ih =>
    obtain ⟨p, e1, h⟩ := Option.bind_eq_some_iff.mp h
    obtain ⟨qs, e2, h⟩ := Option.bind_eq_some_iff.mp h
    cases h
    rw [ih e2]
    show p :: _ = keyD d :: _
    unfold keyD
    rw [e1]
    rfl
theorem p_sorted : PureN W (rSortP W.K) fSorted := by
  intro S H vs ds c Q hd h hf r
  unfold fSorted at hf
  split at hf
  · rename_i xs
    obtain ⟨v, rfl, dv⟩ := h.one
    obtain ⟨ps, e1, e2⟩ := Option.bind_eq_some_iff.mp hf
    split at e2
    · rename_i hok
      cases e2
      simp only [Bool.and_eq_true, decide_eq_true_eq] at hok
      obtain ⟨s1, s2, s3⟩ := sortOk_to hok.1
      cases dv with
      | lst ha dl =>
        obtain ⟨zs, z1, z2, hz⟩ := dl.both
        refine ⟨_, _, ps, rfl, SqL.of ha, dl.dp e1, s1, s2, s3, ?_⟩
        have hps := pyL_key e1
        have hzip : ∀ xs', zs.map (·.1) = xs' → xs'.zip ps = zs.map fun z => (z.1, keyD z.2) := by
          intro xs' e
          rw [hps, ← z2, ← e, List.map_map, List.zip_map']
          rfl
        rw [hzip _ z1]
        have m1 : (zs.map fun z => (z.1, keyD z.2)).mergeSort (dataLe false fun z : V × PyData => z.2) = (zs.mergeSort fun a b => leD a.2 b.2).map fun z => (z.1, keyD z.2) := by
          rw [List.map_mergeSort (f := fun z : V × Sx.D => (z.1, keyD z.2)) (r := fun a b => leD a.2 b.2) (s := dataLe false fun z : V × PyData => z.2)]
          intro a _ b _
          rfl
        have m2 : (zs.mergeSort fun a b => leD a.2 b.2).map (·.2) = xs.mergeSort leD := by
          rw [List.map_mergeSort (f := fun z : V × Sx.D => z.2) (r := fun a b => leD a.2 b.2) (s := leD)]
          · rw [z2]
          · intro a _ b _; rfl
        rw [m1, List.map_map]
        have dl2 : DvL W S H ((zs.mergeSort fun a b => leD a.2 b.2).map (·.1)) (xs.mergeSort leD) := by
          rw [← m2]
          exact DvL.ofBoth fun z hz' => hz z ((List.mergeSort_perm zs _).mem_iff.mp hz')
        exact PRes.lst hd dl2 r
    · cases e2
  · cases hf

/-! ### isinstance -/
def tyN : D → Option String
  | .non => some "NoneType"
  | .bl _ => some "bool"
  | .int _ => some "int"
  | .str _ => some "str"
  | .lst _ => some "list"
  | .tup _ => some "tuple"
  | .dK _ => some "dict"
  | .dT _ => some "dict"
  | _ => none
def tyAs : List String := ["NoneType", "bool", "int", "str", "list", "tuple", "dict"]
def tyBs : List String := ["bool", "int", "str", "list", "tuple", "dict"]
def isB (t n : String) : Bool := t == n || (t == "bool" && n == "int")
theorem kit_all : tyAs.all (fun t => tyBs.all fun n => kitB t n == some (isB t n)) = true := by decide +kernel
theorem kit_at {t n : String} (ht : t ∈ tyAs) (hn : n ∈ tyBs) : kitB t n = some (isB t n) := eq_of_beq (List.all_eq_true.mp (List.all_eq_true.mp kit_all t ht) n hn)
theorem tyN_mem {d : D} {t : String} (h : tyN d = some t) : t ∈ tyAs := by
  unfold tyN at h
  split at h <;> first | (cases h; decide) | cases h
theorem tyN_is {v : V} {d : D} {t : String} (h : Dv W S H v d) (e : tyN d = some t) : TyX W.K H v (.type t) := by
  cases h with
  | non => cases e; exact .base .non
  | bl b => cases e; exact .base (.bl b)
  | int i => cases e; exact .base (.int i)
  | str x => cases e; exact .base (.str x)
  | lst ha _ => cases e; exact .base (.lst ha)
  | tup ha _ =>
    cases e
    rcases ha with ⟨_, ha⟩ | (ha | ⟨_, ha⟩) | ⟨o, its, n, h1, h2, _⟩
    · exact .base (.tup ha)
    · cases ha
    · cases ha
    · exact .kTuple h1 h2
  | dK ha _ =>
    cases e
    rcases ha with ha | ⟨o, ha⟩
    · exact .base (.dK ha)
    · exact .fDict ha
  | dT ha _ => cases e; exact .base (.dT ha)
  | _ => cases e
def tysOf : List D → Option (List String)
  | [] => some []
  | .ty n :: ds => if n ∈ tyBs then (tysOf ds).bind fun ns => some (n :: ns) else none
  | _ => none
def fIsi (ds : List D) : Option (Bool × D) := match ds with
  | [x, .ty n] => (tyN x).bind fun t => if n ∈ tyBs then some0 (.bl (isB t n)) else none
  | [x, .tup cs] => (tyN x).bind fun t => (tysOf cs).bind fun ns => some0 (.bl (ns.any fun n => isB t n))
  | _ => none
theorem kitAny_tys {K : PySem.W.Frag} {t : String} (ht : t ∈ tyAs) : ∀ {ns : List String}, (∀ n ∈ ns, n ∈ tyBs) → PySem.W.kitAny K (.type t) (ns.map Value.type) = some (ns.any fun n => isB t n)
  | [], _ => rfl
  | n :: ns, h => by
    have e1 : PySem.W.kitOne K (.type t) (.type n) = some (isB t n) := kit_ty (kit_at ht (h n List.mem_cons_self))
    refine kitAny_cons e1 (fun z => ?_) (fun z => ?_)
    · rw [List.any_cons, z, Bool.false_or]
      exact kitAny_tys ht fun m hm => h m (List.mem_cons_of_mem _ hm)
    · rw [List.any_cons, z]; rfl
theorem tys_of {vs : List V} {cs : List D} {ns : List String} (h : DvL W S H vs cs) (e : tysOf cs = some ns) : vs = ns.map V.ty ∧ ∀ n ∈ ns, n ∈ tyBs := by
  induction cs generalizing vs ns with
  | nil => cases h; cases e; exact ⟨rfl, fun _ h => by simp at h⟩
  | cons d cs ih =>
    cases h with
    | cons t dv r =>
      cases d <;> first | (cases e; done) | skip
      rename_i n
      have e : (if n ∈ tyBs then (tysOf cs).bind fun ns => some (n :: ns) else none) = some ns := e
      split at e
      · rename_i hn
        obtain ⟨ns', e1, e2⟩ := Option.bind_eq_some_iff.mp e
        cases e2
        cases dv
        obtain ⟨a, b⟩ := ih r e1
        exact ⟨by rw [a]; rfl, fun m hm => (List.mem_cons.mp hm).elim (fun z => z ▸ hn) (b m)⟩
      · cases e
theorem paired_tys : ∀ ns : List String, Paired ClsV (ns.map V.ty) (ns.map Value.type)
  | [] => .nil
  | n :: ns => .cons (.ty n) (paired_tys ns)
theorem vals_tys : ∀ {ns : List String} {us : List Value}, Vals (ns.map V.ty) us → us = ns.map Value.type
  | [], _, .nil => rfl
  | n :: ns, _, .cons r t => by
    have e : _ = Value.type n := r
    rw [e, vals_tys t]
    rfl
theorem p_isi : PureN W (fun xs H Q => rIsi W.K xs H Q ∨ (rIsiT W.K xs H Q ∨ rIsiK W.K xs H Q)) fIsi := by
  intro S H vs ds c Q hd h hf r
  unfold fIsi at hf
  split at hf
  · obtain ⟨v, u, rfl, dv, du⟩ := h.two
    obtain ⟨t, e1, e2⟩ := Option.bind_eq_some_iff.mp hf
    split at e2
    · rename_i hn
      cases e2
      cases du
      exact .inl ⟨v, _, _, _, _, rfl, .ty _, tyN_is dv e1, kit_ty (kit_at (tyN_mem e1) hn), r.bl hd⟩
    · cases e2
  · obtain ⟨v, u, rfl, dv, du⟩ := h.two
    obtain ⟨t, e1, e2⟩ := Option.bind_eq_some_iff.mp hf
    obtain ⟨ns, e3, e4⟩ := Option.bind_eq_some_iff.mp e2
    cases e4
    cases du with
    | tup ha dl =>
      obtain ⟨hv, hn⟩ := tys_of dl e3
      subst hv
      have ka := kitAny_tys (K := W.K) (tyN_mem e1) hn
      rcases ha with ⟨_, ha⟩ | (ha | ⟨_, ha⟩) | ⟨o, its, n, h1, h2, h3, _, h5⟩
      · exact .inr (.inl ⟨v, _, _, _, _, _, rfl, ha, paired_tys ns, tyN_is dv e1, ka, r.bl hd⟩)
      · cases ha
      · cases ha
      · obtain ⟨oc, od, dt, sl⟩ := o
        simp only at h2 h3
        subst h2 h3
        have hi := vals_tys h5
        refine .inr (.inr ⟨v, _, od, ns.map Value.type, n, sl, _, _, rfl, ?_, tyN_is dv e1, ka, r.bl hd⟩)
        rw [← hi]
        exact h1
  · cases hf
theorem cr_isiAll : CallR X (.builtin "isinstance") (fun xs H Q => rIsi X.K xs H Q ∨ (rIsiT X.K xs H Q ∨ rIsiK X.K xs H Q)) := call_isi.or (call_isiT.or call_isiK)

/-! ### join, repr -/
def strsOf : List D → Option (List Str)
  | [] => some []
  | .str x :: ds => (strsOf ds).bind fun xs => some (x :: xs)
  | _ => none
theorem DvL.strs {vs : List V} {ds : List D} {xs : List Str} (h : DvL W S H vs ds) (e : strsOf ds = some xs) : vs = xs.map V.str := by
  induction ds generalizing vs xs with
  | nil => cases h; cases e; rfl
  | cons d ds ih =>
    cases h with
    | cons t dv r =>
      cases dv <;> first | (cases e; done) | skip
      obtain ⟨bs', e1, e2⟩ := Option.bind_eq_some_iff.mp e
      cases e2
      rw [ih r e1]
      rfl
end
end Sx
set_option Elab.async false
set_option linter.all false
set_option maxRecDepth 100000
set_option maxHeartbeats 4000000
set_option autoImplicit false
namespace Sx
open PySem L2 PyProof.Rows
/-! ### defs whose calls know that no repr is running -/
def NoG (A : Around) : Prop := A.guards = some []
structure FnG (Pr : Program) (w : World) (K : PySem.W.Frag) (mg : Str → Option Value) (base : Heap) (CX : CXT) (k : Nat) (f : Addr) (fd : FuncData) (ps : List Str) (sp : Sp) : Prop where
  len : ∀ vs H Q E, sp vs H Q E → vs.length = ps.length
  go : ∀ {A : Around} {outer : List Env} {s : Shared} {H : Hp} {args : Args} {us : List Value} {vs : List V} {Q : VK} {E : XK}, Room k A → NoG A → Env0 Pr w K mg base A outer s H → BindsTo s fd args (ps.zip us) → Vals vs us → sp vs H Q E → codeAny (model Pr w) A (.call (.ref f) args) (CR CX outer Pr w H s Q E) s
section
variable {Pr : Program} {w : World} {K : PySem.W.Frag} {mg : Str → Option Value} {base : Heap} {CX : CXT} {k : Nat} {f : Addr} {fd : FuncData} {ps N : List Str} {sp : Sp}
theorem FnG.mono {j : Nat} (F : FnG Pr w K mg base CX j f fd ps sp) (h : j ≤ k) : FnG Pr w K mg base CX k f fd ps sp := ⟨F.len, fun r g e b v q => F.go (r.mono h) g e b v q⟩
theorem FnG.imp {sp' : Sp} (F : FnG Pr w K mg base CX k f fd ps sp) (h : ∀ vs H Q E, sp' vs H Q E → sp vs H Q E) : FnG Pr w K mg base CX k f fd ps sp' := ⟨fun vs H Q E q => F.len vs H Q E (h _ _ _ _ q), fun r g e b v q => F.go r g e b v (h _ _ _ _ q)⟩
/-- a def's body keeps its promise -/
theorem fnG_of {x qual : Str} {st : Stmt} (F : Fun K x qual st f fd) (S : FnScope N ps (defScope st)) (len : ∀ vs H Q E, sp vs H Q E → vs.length = ps.length)
    (hb : ∀ (cdv : Value) (A : Around) (outer : List Env) (s : Shared) (H : Hp) (vs : List V) (Q : VK) (E : XK), Room k (A.deeper (envOfC qual (defScope st) s.heap.objs.size f cdv)) → NoG (A.deeper (envOfC qual (defScope st) s.heap.objs.size f cdv)) → sp vs H Q E →
      ∃ t, PSs (cxOf CX Pr w K mg base N qual (defScope st) f cdv A outer s H E) (defBody st) t ∧ t { nx := fun _ H' => Q .non H', rt := Q } (L2.start N vs) H) : FnG Pr w K mg base CX (k + 1) f fd ps sp := by
  obtain ⟨oc, od, kV, doc, pm, an, cdv, ct, osl, rfl, lk, hcd⟩ := F.ex
  refine ⟨len, fun {A outer s H args us vs Q E} hr hg e0 hbd r hsp => ?_⟩
  have hl := len vs H Q E hsp
  have kin : K.In s.heap := e0.mod.kin.keeps fun b o e => (e0.bs b o e).1
  have hkind : ∀ y ∈ ps.zip us, (defScope st).names.lookup y.1 = some .local ∨ ((defScope st).names.lookup y.1 = some .cell ∧ ((cellsFrom (s.heap.objs.size + 1) (defScope st).names []).lookup y.1).isSome = true) := fun y hy =>
    (S.par y.1 (List.of_mem_zip (a := y.1) (b := y.2) hy).1).imp id fun q => ⟨q, PySem.W.cellsFrom_some _ _ _ (.inl q)⟩
  refine codeAny_call_function hr.depth (kin _ _ lk) rfl S.co S.gen rfl (PySem.W.codeRec_of kin hcd) (hbd _ _ _ _ (wpAny_newFunctionEnv_cells S.kind hkind fun env he s1 x => ?_))
  subst he
  refine ⟨(e0.mod.nolimit.keeps fun b o e => (e0.bs b o e).1).keeps x.toInCall.keep, codeAny_func ?_⟩
  obtain ⟨t, ht, hq⟩ := hb cdv A outer s H vs Q E (hr.deeper _) hg hsp
  have I : Inv (cxOf CX Pr w K mg base N qual (defScope st) f cdv A outer s H E) [] (L2.start N vs) H s1 := inv_start S hr.hd e0 hl r x
  refine wpAny_mono (ht.run [] s1 (L2.start N vs) H _ I hq) (fun fl s' hs => ?_) fun e s' hs => hs
  have fin : ∀ {σ' : L2.St} {H' : Hp} {v : V} {u : Value}, Inv (cxOf CX Pr w K mg base N qual (defScope st) f cdv A outer s H E) [] σ' H' s' → RelV v u → Q v H' → CE outer Pr w H s Q u s' := fun {_ H' v _} J rv q => ⟨v, H', J.os, J.bare, J.base, J.hok, rv, q⟩
  match fl, hs with
  | .ret u, ⟨v, σ', H', J, rv, q⟩ => exact fin J rv q
  | .next, ⟨σ', H', J, q⟩ => exact fin (v := V.non) (u := Value.none) J rfl q
  | .brk, ⟨_, _, _, q⟩ => exact q.elim
  | .cont, ⟨_, _, _, q⟩ => exact q.elim
end

section
variable {X : Cx} {CX : CXT} {k : Nat} {f C : Addr} {fd : FuncData} {ps ks : List Str} {sp : Sp} {dvs : List V} {ds : List Value} {E : XK} {x m : Str} {p pos apos : Pos} {e o : Expr} {es : List Expr} {kws : List Keyword} {ta : TE} {t tk : TA}
theorem runG {pins : List (Addr × Obj)} {σ : L2.St} {H : Hp} {s : Shared} {Q : VK} {us us' : List Value} {kw : List (Str × Value)} {vs' : List V} (F : FnG X.prog X.w X.K X.mg X.base CX k f fd ps sp) (hr : Room k X.A) (hg : NoG X.A) (hx : Passes CX X E) (I : Inv X pins σ H s)
    (hb : BindsTo s fd ⟨us, kw⟩ (ps.zip us')) (r : Vals vs' us') (h : sp vs' H Q E) : wpAny (model X.prog X.w) X.A (PySem.call (.ref f) us kw) (EP X pins σ Q) X.xe s := by
  refine wpAny_call (codeAny_mono (F.go hr hg I.env0 hb r h) fun fl s' hq => ?_)
  cases fl with
  | error e => exact hx pins σ H s e s' I hq
  | ok u => cases u with
    | ret u => exact I.after hq
    | _ => exact False.elim hq
/-- f(e, ..) -/
theorem pe_callG (F : FnG X.prog X.w X.K X.mg X.base CX k f fd ps sp) (hr : Room k X.A) (hg : NoG X.A) (gl : Gl X x) (hm : X.mg x = some (.ref f)) (hk : PySem.W.keepIn X.K (.ref f) = true) (hb : Binds X.K fd ps ds) (hd : Vals dvs ds) (hx : Passes CX X E) (ha : PA X (e :: es) t) (hdb : (x == ("__debug__" : Str)) = false)
    (he : starEach (e :: es) X.env = (false, eval e X.env) :: starEach es X.env) (hpl : (backTo pos (starEach es X.env)).any (·.1) = false) : PE X (.Call (.Name x p) (e :: es) [] pos) (tCall sp dvs E t) := by
  refine ⟨fun pins s σ H Q I h => wpAny_Call_Name_kw (ld_glob I gl hm ?_ hdb)⟩
  refine PySem.W.callWith_K (h₀ := X.base) I.ok.mod.kin hk (thn (ha.run pos pins s σ H _ I h) fun us s1 ⟨vs, H1, I1, r, q⟩ => ⟨I1.kIn, ?_⟩) he hpl
  have r2 : Vals (vs ++ dvs) (us ++ ds) := r.append hd
  exact runG (kw := []) F hr hg hx I1 (hb s1 us I1.kIn (by rw [← r2.length]; exact F.len _ _ _ _ q)) r2 q
variable {g : List Value → List Value → List Value} {gV : List V → List V → List V}
/-- f(k = v, ..) -/
theorem pe_callGK0 (F : FnG X.prog X.w X.K X.mg X.base CX k f fd ps sp) (hr : Room k X.A) (hg : NoG X.A) (gl : Gl X x) (hm : X.mg x = some (.ref f)) (hk : PySem.W.keepIn X.K (.ref f) = true) (hb : KBinds X.K fd ps ks g gV) (hx : Passes CX X E) (hkw : PK X kws tk)
    (hall : (backToKw pos (keywordEach kws X.env)).all (·.1.isSome) = true) (hks : (backToKw pos (keywordEach kws X.env)).filterMap (·.1) = ks) (hdb : (x == ("__debug__" : Str)) = false)
    (hpl : ((backTo pos (starEach [] X.env)).any (·.1) || (backToKw pos (keywordEach kws X.env)).any (·.1.isNone)) = false) : PE X (.Call (.Name x p) [] kws pos) (tCallK sp gV E tNil tk) := by
  refine ⟨fun pins s σ H Q I h => wpAny_Call_Name_kw (ld_glob I gl hm ?_ hdb)⟩
  refine PySem.W.callWith_KW0 (h₀ := X.base) I.ok.mod.kin hk hall ?_ hpl
  refine thn (hkw.run pos pins s σ H _ I h) fun ws s2 ⟨zs, H2, I2, rz, q2⟩ => ⟨I2.kIn, ?_⟩
  rw [hks]
  have r2 := hb.rel .nil rz
  exact runG (us := []) (kw := ks.zip ws) F hr hg hx I2 (hb.to s2 [] ws I2.kIn (by rw [← r2.length]; exact F.len _ _ _ _ q2)) r2 q2
end

section
variable {Pr : Program} {w : World} {K : PySem.W.Frag} {mg : Str → Option Value} {base : Heap} {cls : CT}
/-- a def whose body does what run does -/
theorem fn_ok {x qual : Str} {st : Stmt} {f : Addr} {fd : FuncData} {N ps : List Str} {k : Nat} {run : RunS} (F : Fun K x qual st f fd) (Sc : FnScope N ps (defScope st))
    (hb : ∀ (cdv : Value) (A : Around) (outer : List PySem.Env) (s : Shared) (H : Hp) (E : XK), Room k (A.deeper (envOfC qual (defScope st) s.heap.objs.size f cdv)) → NoG (A.deeper (envOfC qual (defScope st) s.heap.objs.size f cdv)) → ∀ W : Wd, W.K = K → W.cls = cls →
      PSs (cxOf CX0 Pr w K mg base N qual (defScope st) f cdv A outer s H E).nox (defBody st) (TVS W run)) : FnG Pr w K mg base CX0 (k + 1) f fd ps (spR K cls ps.length (runFn N.length run)) := by
  refine fnG_of F Sc (fun vs H Q E h => h.1) fun cdv A outer s H vs Q E hr hg h => ?_
  obtain ⟨hl, W, S, ds, hK, hc, dr, tb, dom, n1, n2, dl, wpq⟩ := h
  refine ⟨_, (hb cdv A outer s H E hr hg W hK hc).nox, S, Pall W H, en0 N.length ds, ?_, ?_⟩
  · have hd : ds.length = ps.length := dl.len.symm.trans hl
    refine ⟨fun a h => ⟨dom a h, fun z => n1 (z ▸ h), n2.nb h⟩, fun a h => h.1, fun i f d e => ?_, fun i j f g d e v h1 h2 h3 => ?_, ?_, dr, ⟨fun h => h.2.1 rfl, ⟨fun h => h.2.2.1 rfl, fun x hx h => h.2.2.2 x hx rfl⟩⟩, tb⟩
    · obtain ⟨rfl, hd'⟩ := en0_get e
      obtain ⟨v, hv, dz⟩ := (dl.at (i := i)).2 d hd'
      refine ⟨v, ?_, dz.2, fun _ => dz.1, fun z => absurd rfl z⟩
      unfold L2.start
      rw [List.getElem?_append_left (by simpa using lt_of_get hv), List.getElem?_map, hv]
      rfl
    · exact absurd (en0_get h1).1 h3
    · unfold en0 L2.start
      simp only [List.length_append, List.length_map, List.length_replicate, dl.len]
  · have wpq := (T.wp_bind _ _ _).mp wpq
    refine T.wp_mono wpq fun r q => ?_
    obtain ⟨fl, en⟩ := r
    cases fl with
    | nx => exact fun σ' H' S' P' e R' => q .non H' S' P' e ⟨R'.sp, R'.dom, R'.dr, R'.drP, R'.tb⟩ ⟨.non, fun _ => trivial, fun z => by cases z⟩
    | rt c => exact fun v H' S' P' e ro ok => q v H' S' P' e ro ok
    | bk => exact q.elim
    | ct => exact q.elim
/-- the law's own call -/
theorem law_goG {mb : Str → Option Value} {k : Nat} {fa a : Addr} {fd : FuncData} {x : Str} {sp : Sp} {t : Shared} {us : List Value} {ns : List Int} (kin : K.In t.heap) (g1 : t.heap.Ns mainGlobals mg) (g2 : t.heap.Ns builtinsNs mb) (g3 : ∀ x : Str, x ≠ "__name__" → mb x = bootBuiltins x)
    (lim : t.heap.NoLimit) (gen : t.gens = #[]) (oa : t.heap.get? a = some { cls := .type "list", data := .seq us.toArray }) (ia : IntsAre us ns) (la : ns.length ≤ sizeLine) (hr : Room k callerA)
    (F : ∀ b : Heap, K.In b → b.Ns mainGlobals mg → FnG Pr w K mg b CX0 k fa fd [x] sp) (bd : ∀ (s : Shared) (u : Value), BindsTo s fd ⟨[u], []⟩ [(x, u)])
    (hsp : ∀ G : Hp, Only G → SqL K G a (ns.map V.int) → sp [.ref a] G (fun v _ => v = .bl true) E0) :
    codeAny (model Pr w) callerA (.call (.ref fa) ⟨[.ref a], []⟩) (fun r s' => r = .ok (.ret (.bool true)) ∧ OldK t.heap s'.heap ∧ s'.os = t.os ∧ AllBare s'.gens) t := by
  have rv := vals_ints ia
  have core : ∀ G : Hp, Only G → SqL K G a (ns.map V.int) → HOk Pr w G t.heap → (∀ b u, G b = some u → b = a ∧ K.lookup a = none) → codeAny (model Pr w) callerA (.call (.ref fa) ⟨[.ref a], []⟩) (fun r s' => r = .ok (.ret (.bool true)) ∧ OldK t.heap s'.heap ∧ s'.os = t.os ∧ AllBare s'.gens) t := by
    intro G hO hS hok only
    have free : ∀ {b : Addr} {o : Obj}, t.heap.get? b = some o → (∀ xs n, o.data ≠ .seq xs n) → G b = none := fun {b o} e d => by
      cases q : G b with
      | none => rfl
      | some u =>
        obtain ⟨rfl, _⟩ := only b u q
        rw [oa] at e; cases e
        exact absurd rfl (d _ _)
    have ns_of : ∀ {b : Addr} {m : Str → Option Value}, t.heap.Ns b m → (hidT t.heap G).Ns b m := fun {b m} ⟨o, es, ep, e, d, r⟩ => ⟨o, es, ep, hidT_get e (free e fun xs n z => by rw [d] at z; cases z), d, r⟩
    have kb : K.In (hidT t.heap G) := fun b o e => hidT_get (kin b o e) (by
      cases q : G b with
      | none => rfl
      | some u =>
        obtain ⟨rfl, z⟩ := only b u q
        rw [z] at e; cases e)
    have md : Mod K mg (hidT t.heap G) := ⟨kb, ns_of g1, ⟨mb, ns_of g2, g3⟩, (let ⟨mc, h1, h2⟩ := lim; ⟨mc, ns_of h1, h2⟩)⟩
    have e0 : Env0 Pr w K mg (hidT t.heap G) callerA [] t G := ⟨rfl, md, fun b o e => of_hidT e, Nat.le_of_eq (hidT_size _ _), trivial, (fun b hb => by cases hb), hok, .of_eq gen⟩
    refine codeAny_mono ((F _ kb (ns_of g1)).go hr rfl e0 (bd t (.ref a)) (us := [.ref a]) (vs := [.ref a]) (.cons rfl .nil) (hsp G hO hS)) fun r s' h => ?_
    cases r with
    | error e => exact h.elim
    | ok u => cases u with
      | ret u =>
        obtain ⟨v, G', os, bare, un, hok', r', q⟩ := h
        obtain rfl : v = .bl true := q
        obtain rfl : u = Value.bool true := r'
        refine ⟨rfl, OldK.of_keep fun b o e => ?_, os, bare⟩
        cases q : G b with
        | none => exact un.keep b o e q (fun z => by cases z) (fun z => by cases z)
        | some u =>
          rcases hO b with z | ⟨ob, xs, z⟩
          · rw [q] at z; cases z
          · obtain ⟨e1, _⟩ := hok b _ z
            obtain ⟨e2, _⟩ := hok' b _ (un.frzs b ob _ z)
            rw [e] at e1; cases e1
            exact e2
      | _ => exact False.elim h
  cases hk : K.lookup a with
  | some o =>
    have e := kin a o hk
    rw [oa] at e; cases e
    exact core (fun _ => none) (fun _ => .inl rfl) (.inr ⟨_, us.toArray, _, hk, rfl, rfl, rfl, by rw [List.size_toArray, ia.length]; exact la, by simpa using rv⟩) (fun b u z => by cases z) fun b u z => by cases z
  | none =>
    let o0 : Obj := { cls := .type "list", data := .seq us.toArray }
    have at' : ∀ b u, (fun b => if b = a then some (HO.frz o0 (.lst (ns.map V.int))) else none) b = some u → b = a ∧ u = HO.frz o0 (.lst (ns.map V.int)) := fun b u z => by
      by_cases hb : b = a
      · have z' := (if_pos hb).symm.trans z
        cases z'
        exact ⟨hb, rfl⟩
      · have z' := (if_neg hb).symm.trans z
        cases z'
    refine core (fun b => if b = a then some (HO.frz o0 (.lst (ns.map V.int))) else none) (fun b => ?_) (.inl (.inr ⟨o0, if_pos rfl⟩)) (fun b u z => ?_) fun b u z => ⟨(at' b u z).1, hk⟩
    · by_cases hb : b = a
      · exact .inr ⟨o0, _, if_pos hb⟩
      · exact .inl (if_neg hb)
    · obtain ⟨rfl, rfl⟩ := at' b u z
      exact ⟨oa, by rw [List.length_map]; exact la, us, _, rv, oa⟩
/-- the end of a law, from its def's promise -/
theorem walkG {l : PySem.W.OpenLaw} {n k : Nat} {q : Program} {loose : List Str} {XP : (Str → Option Value) → Heap → Prop} {YP : World → Heap → Prop} {d : DefRec} {K : Params → PySem.W.Frag} {sp : PySem.W.Frag → Sp} {x : Str} (hn : l.most = some n) (hn2 : n ≤ sizeLine) (hdf : d.params.defaults = []) (hr : Room k callerA)
    (hY : ∀ (w : World) (h : Heap), YP w h → (K w.params).In h)
    (F : ∀ (w : World) (mg : Str → Option Value) (fa : Addr) (h : Heap), (K w.params).In h → h.Ns mainGlobals mg → mg d.name = some (.ref fa) → ∃ fd : FuncData, (∀ (s : Shared) (u : Value), BindsTo s fd ⟨[u], []⟩ [(x, u)]) ∧
      ∀ b : Heap, (K w.params).In b → b.Ns mainGlobals mg → FnG l.prog w (K w.params) mg b CX0 k fa fd [x] (sp (K w.params)))
    (hsp : ∀ (K : PySem.W.Frag) (G : Hp) (a : Addr) (ns : List Int), ns.length ≤ n → Only G → SqL K G a (ns.map V.int) → sp K [.ref a] G (fun v _ => v = .bl true) E0) : PySem.W.WalkO q loose XP YP l.row.toRowW d [] (fun f vs => PySem.call f vs) := by
  refine Att.attach_call hn hdf fun w s0 t mg mb fa o pm cd doc a us ns G Y ho hd hcd hmg hobj hints hlen gen => ?_
  obtain ⟨fd, hb, hF⟩ := F w mg fa _ (hY w _ Y) G.T.g hmg
  exact law_goG (hY w _ Y) G.T.g G.T.b G.T.builtins G.T.nolimit gen hobj hints (Nat.le_trans hlen hn2) hr hF hb fun G hO hS => hsp _ G a ns hlen hO hS
end
end Sx
set_option Elab.async false
set_option linter.all false
set_option maxRecDepth 100000
set_option maxHeartbeats 4000000
set_option autoImplicit false
namespace Sx
open PySem L2

section
variable {W : Wd} {S P : Addr → Prop} {H : Hp} {X : Cx} {Q : VK} {v : V} {d : D} {en : En} {σ : St}
/-! ### a name's own object is changed -/
theorem Rel.mut {i : Nat} {p : Addr} {u : HO} {d' : D} (R : Rel W S P en σ H) (h : en[i]? = some (some (.ow, d))) (hv : σ[i]? = some (some (.ref p))) (dv : Dv W S (upd H p u) (.ref p) d') (ho : ∃ o, H p = some o ∧ NX o) (nu : ∀ xs, u ≠ .tup xs := by intro _ z; cases z) :
    Ext S P H S P (upd H p u) ∧ Rel W S P (en.set i (some (.ow, d'))) σ (upd H p u) := by
  obtain ⟨v, hv', _, _, ow⟩ := R.slot i .ow d h
  rw [hv] at hv'
  cases hv'
  obtain ⟨q, o, eq, nS, nP, _, h1, h2, h3⟩ := ow (by decide)
  cases eq
  have nP := nP rfl
  have pn : ∀ a, P a → a ≠ p := fun a h e => nP (e ▸ h)
  refine ⟨⟨fun _ h => h, fun _ h => h, fun a h => upd_ne (pn a h), fun _ h => .inl h⟩, ⟨R.sp, fun a h => by rw [upd_ne (pn a h)]; exact R.pd a h, fun j f e q => ?_, fun j k f g e e' v g1 g2 g3 g4 g5 g6 => ?_, by rw [List.length_set]; exact R.len, ?_, R.drP, (by obtain ⟨o, e, n⟩ := ho; exact Tabs.upd R.tb e n nu)⟩⟩
  · rcases set_get q with ⟨rfl, q2⟩ | ⟨ne, q2⟩
    · cases q2
      exact ⟨_, hv, dv, (fun z => by cases z), fun _ => ⟨p, u, rfl, nS, fun _ => nP, (fun z => by cases z), h1, h2, upd_same⟩⟩
    · obtain ⟨v, hv2, dv2, t2, ow2⟩ := R.slot j f e q2
      refine ⟨v, hv2, dv2.mono (fun _ h => h) (fun a h => upd_ne (pn a (R.sp a h))) ?_, t2, fun z => ?_⟩
      · by_cases hf : f = .fz
        · exact (t2 hf).mono fun a h => upd_ne (pn a (R.sp a h))
        · obtain ⟨q, o2, ev, _⟩ := ow2 hf
          subst ev
          have nq : q ≠ p := fun eq => ne (R.inj i j .ow f d e _ h q2 (by decide) hf hv (by rw [hv2, eq]))
          have : upd H p u q = H q := upd_ne nq
          cases e <;> first | exact trivial | exact this
      · obtain ⟨q, o2, ev, a1, a2, a3, a4, a5, a6⟩ := ow2 z
        have nq : q ≠ p := fun eq => ne (R.inj i j .ow f d e _ h q2 (by decide) z hv (by rw [hv2, ev, eq]))
        exact ⟨q, o2, ev, a1, a2, a3, a4, a5, by rw [upd_ne nq]; exact a6⟩
  · have old : ∀ {j : Nat} {f : Fg} {e : D}, (en.set i (some (.ow, d')))[j]? = some (some (f, e)) → f ≠ .fz → ∃ g e', en[j]? = some (some (g, e')) ∧ g ≠ .fz := fun {j f e} q nf => by
      rcases set_get q with ⟨rfl, q2⟩ | ⟨_, q2⟩
      · exact ⟨.ow, d, h, by decide⟩
      · exact ⟨f, e, q2, nf⟩
    obtain ⟨f', d1, k1, n1⟩ := old g1 g3
    obtain ⟨g', d2, k2, n2⟩ := old g2 g4
    exact R.inj j k f' g' d1 d2 v k1 k2 n1 n2 g5 g6
  · obtain ⟨ne, ns, a, b, c, e1, e2, e3⟩ := R.dr
    exact ⟨ne, ns, a, b, c, by rw [upd_ne h1.symm]; exact e1, by rw [upd_ne h2.1.symm]; exact e2, e3⟩
def ownL (en : En) (i : Nat) : Option (List D) := match en[i]? with
  | some (some (.ow, .lst ds)) => some ds
  | _ => none
theorem ownL_some {i : Nat} {ds : List D} (h : ownL en i = some ds) : en[i]? = some (some (.ow, .lst ds)) := by
  unfold ownL at h
  split at h
  · rename_i ds' e; cases h; exact e
  · cases h
theorem Rel.ownL {i : Nat} {ds : List D} (R : Rel W S P en σ H) (h : Sx.ownL en i = some ds) : ∃ p xs, σ[i]? = some (some (.ref p)) ∧ H p = some (.lst xs) ∧ DvL W S H xs ds ∧ ∀ (ys : List V) (es : List D), DvL W S H ys es →
    Ext S P H S P (upd H p (.lst ys)) ∧ Rel W S P (en.set i (some (.ow, .lst es))) σ (upd H p (.lst ys)) := by
  have e := ownL_some h
  obtain ⟨v, hv, dv, _, ow⟩ := R.slot i .ow _ e
  obtain ⟨p, o, rfl, nS, nP, _⟩ := ow (by decide)
  cases dv with
  | lst ha dl =>
    refine ⟨p, _, hv, ha, dl, fun ys es d2 => R.mut e hv (.lst upd_same (d2.mono (fun _ h => h) fun a h => upd_ne (fun (z : a = p) => nS (z ▸ h)))) ⟨_, ha, nx_lst _⟩⟩
/-- x.append(e) -/
def rApp (i : Nat) (re : Run) : Run := fun en => (T.ofOpt (ownL en i)).bind fun _ => (re en).bind fun a => (T.ofOpt (valO a.1)).bind fun y => (T.ofOpt (ownL a.2 i)).bind fun ds => if ds.length < 4096 then .ret (.v .non, a.2.set i (some (.ow, .lst (ds ++ [y])))) else .fail
theorem lt_line {n : Nat} (h : n < 4096) : n < sizeLine := Nat.lt_of_lt_of_le h (Nat.le_trans (by decide : 4096 ≤ 16777216) (by rw [sizeLine_eq]; exact Nat.le_refl _))
theorem tv_app {i : Nat} {re : Run} (hK : X.K = W.K) (h : TV W (rApp i re) σ H Q) : tBM X.K "list" rAppend (tVar i) (tCons (TV W re) tNil) σ H Q := by
  obtain ⟨S, P, en, R, w⟩ := h
  obtain ⟨ds0, h0, w⟩ := T.wp_ofOpt ((T.wp_bind _ _ _).mp w)
  obtain ⟨p, xs, hv, hp, _, _⟩ := R.ownL h0
  refine ⟨.ref p, hv, .inl ⟨rfl, xs, SqL.of hp⟩, S, P, en, R, T.wp_mono ((T.wp_bind _ _ _).mp w) fun a q y H1 S1 P1 e1 R1 ok => ?_⟩
  obtain ⟨yd, hy, q⟩ := T.wp_ofOpt ((T.wp_bind _ _ _).mp q)
  obtain ⟨ds, hds, q⟩ := T.wp_ofOpt ((T.wp_bind _ _ _).mp q)
  obtain ⟨S2, P2, e2, R2, dz⟩ := ok.valz R1 hy
  split at q
  · rename_i hl
    obtain ⟨p', xs', hv', hp', dl, k⟩ := R2.ownL hds
    rw [hv] at hv'
    cases hv'
    obtain ⟨e3, R3⟩ := k (xs' ++ [y]) (ds ++ [yd]) (dl.snoc dz)
    exact ⟨p, xs', y, rfl, rfl, hp', lt_line (by rw [dl.len]; exact hl), q .non _ S2 P2 (e1.trans (e2.trans e3)) R3 ⟨trivial, .non⟩⟩
  · exact q.elim
/-- x.pop(e), x.pop(), x.clear() -/
def rPopI (i : Nat) (re : Run) : Run := fun en => (T.ofOpt (ownL en i)).bind fun _ => (re en).bind fun a => (T.ofOpt (intOf (frc a.2 a.1.fz))).bind fun k => (T.ofOpt (ownL a.2 i)).bind fun ds => if 0 ≤ k ∧ k < 4096 then
  (T.ofOpt ds[k.toNat]?).bind fun y => .ret (.v y, a.2.set i (some (.ow, .lst (ds.eraseIdx k.toNat)))) else .fail
theorem DvL.erase {vs : List V} {ds : List D} (n : Nat) (h : DvL W S H vs ds) : DvL W S H (vs.eraseIdx n) (ds.eraseIdx n) := by
  induction n generalizing vs ds with
  | zero => cases h with
    | nil => exact .nil
    | cons _ _ r => exact r
  | succ n ih => cases h with
    | nil => exact .nil
    | cons t dv r => exact .cons t dv (ih r)
theorem tv_popI {i : Nat} {re : Run} (h : TV W (rPopI i re) σ H Q) : tBM W.K "list" rPopAt (tVar i) (tCons (TV W re) tNil) σ H Q := by
  obtain ⟨S, P, en, R, w⟩ := h
  obtain ⟨ds0, h0, w⟩ := T.wp_ofOpt ((T.wp_bind _ _ _).mp w)
  obtain ⟨p, xs, hv, hp, _, _⟩ := R.ownL h0
  refine ⟨.ref p, hv, .inl ⟨rfl, xs, SqL.of hp⟩, TV.use R w fun a y H1 S1 P1 e1 R1 pe q => ?_⟩
  obtain ⟨k, hk, q⟩ := T.wp_ofOpt ((T.wp_bind _ _ _).mp q)
  obtain ⟨ds, hds, q⟩ := T.wp_ofOpt ((T.wp_bind _ _ _).mp q)
  have yi := pe.now R1 (intOf_some hk)
  cases yi
  split at q
  · rename_i hl
    obtain ⟨z, hz, q⟩ := T.wp_ofOpt ((T.wp_bind _ _ _).mp q)
    obtain ⟨p', xs', hv', hp', dl, mk⟩ := R1.ownL hds
    rw [hv] at hv'
    cases hv'
    obtain ⟨x, hx, dz⟩ := (dl.at (i := k.toNat)).2 z hz
    obtain ⟨e3, R3⟩ := mk _ _ (dl.erase k.toNat)
    have hlt := lt_of_get hx
    have hi : ixN xs'.length k = some k.toNat := by
      unfold ixN
      rw [if_pos hl.1, if_pos (by omega)]
    obtain ⟨s1, _⟩ := ixN_seq hi
    refine ⟨p, xs', k, k.toNat, x, rfl, rfl, hp', by omega, by omega, s1, hx, q x _ S1 P1 (e1.trans e3) R3 ?_⟩
    exact dz.mono e3.s fun b hb => e3.h b (R1.sp b hb)
  · exact q.elim
def rPop0 (i : Nat) : Run := fun en => (T.ofOpt (ownL en i)).bind fun ds => (T.ofOpt ds[ds.length - 1]?).bind fun y => .ret (.v y, en.set i (some (.ow, .lst ds.dropLast)))
theorem DvL.dropLast {vs : List V} {ds : List D} (h : DvL W S H vs ds) : DvL W S H vs.dropLast ds.dropLast := by
  rw [List.dropLast_eq_take, List.dropLast_eq_take, h.len]
  exact h.take _
def rClr (i : Nat) : Run := fun en => (T.ofOpt (ownL en i)).bind fun _ => .ret (.v .non, en.set i (some (.ow, .lst [])))
section
variable {o e : Expr} {re : Run} {i : Nat} {x : Str} {pos apos cpos : Pos}
def few (e : Expr) (X : Cx) (cpos : Pos) : Prop := ((backTo cpos (starEach [e] X.env)).all (fun x => !x.1) && (backToKw cpos (keywordEach [] X.env)).all (fun x => x.1.isSome) && decide ([e].length + ([] : List Keyword).length + (if ([] : List Keyword).isEmpty then 0 else 1) < 30)) = true
theorem x_app (hK : X.K = W.K) (ho : PE X o (tVar i)) (he : PE X e (TV W re)) (hb : attributeBase o "append" X.env (eval o X.env) = eval o X.env) (hf : few e X cpos) (hl : (apos.endLine == cpos.line) = true) (hs : starEach [e] X.env = (false, eval e X.env) :: starEach [] X.env)
    (hp : (backTo cpos (starEach [] X.env)).any (·.1) = false) : PE X (.Call (.Attribute o "append" apos) [e] [] cpos) (TV W (rApp i re)) :=
  pe_weak (pe_bm PySem.F.plainAttrs_list PySem.F.slot_list_append PySem.F.type_list_append mt_append ho (pa_cons he pa_nil hs) hb hf hl hs hp) fun _ _ _ h => tv_app hK h
theorem x_popI (hK : X.K = W.K) (ho : PE X o (tVar i)) (he : PE X e (TV W re)) (hb : attributeBase o "pop" X.env (eval o X.env) = eval o X.env) (hf : few e X cpos) (hl : (apos.endLine == cpos.line) = true) (hs : starEach [e] X.env = (false, eval e X.env) :: starEach [] X.env)
    (hp : (backTo cpos (starEach [] X.env)).any (·.1) = false) : PE X (.Call (.Attribute o "pop" apos) [e] [] cpos) (TV W (rPopI i re)) :=
  pe_weak (pe_bm PySem.F.plainAttrs_list PySem.F.slot_list_pop PySem.F.type_list_pop mt_popAt ho (pa_cons he pa_nil hs) hb hf hl hs hp) fun _ _ _ h => by rw [hK]; exact tv_popI h
end

/-! ### methods of texts -/
def strOf : Option D → Option Str
  | some (.str x) => some x
  | _ => none
def rStrM (ro : Run) (rs : Runs) (f : Str → List D → Option (Bool × D)) : Run := fun en => (ro en).bind fun a => (T.ofOpt (strOf (frc a.2 a.1.fz))).bind fun x => (rs a.2).bind fun b => ret1 ((frcs b.2 b.1).bind fun ds => f x ds) b.2
theorem strOf_some {o : Option D} {x : Str} (h : strOf o = some x) : o = some (.str x) := by
  unfold strOf at h
  split at h
  · cases h; rfl
  · cases h
theorem tv_strM {ro : Run} {rs : Runs} {f : Str → List D → Option (Bool × D)} {r : V → List V → Hp → VK → Prop} (hr : ∀ x, PureN W (fun vs H Q => r (.str x) vs H Q) (f x)) (h : TV W (rStrM ro rs f) σ H Q) : tBM W.K "str" r (TV W ro) (TVs W rs) σ H Q := by
  obtain ⟨S, P, en, R, w⟩ := h
  refine TV.use R w fun a v H1 S1 P1 e1 R1 pe q => ?_
  obtain ⟨x, hx, q⟩ := T.wp_ofOpt ((T.wp_bind _ _ _).mp q)
  have := pe.now R1 (strOf_some hx)
  cases this
  refine ⟨rfl, TVs.use R1 q fun b vs H2 S2 P2 e2 R2 p2 q2 => ?_⟩
  obtain ⟨z, ez, qz⟩ := wp_ret1 q2
  obtain ⟨ds, eds, fx⟩ := Option.bind_eq_some_iff.mp ez
  exact hr x S2 H2 vs ds z Q R2.dom (p2.now R2 eds) fx (R2.res fun v' H' S' P' e' R' ok => qz v' H' S' P' (e1.trans (e2.trans e')) R' ok)
def fJoin (x : Str) (ds : List D) : Option (Bool × D) := match ds with
  | [.lst xs] => (strsOf xs).bind fun ys => if (ys.map (·.length)).sum + ys.length * x.length ≤ 65536 then some0 (.str (Txt.join x ys)) else none
  | _ => none
theorem p_join (x : Str) : PureN W (fun vs H Q => ∃ a p, ∃ ys : List Str, V.str x = .str a ∧ vs = [.ref p] ∧ (SqL W.K H p (ys.map V.str) ∨ SqT W.K H p (ys.map V.str)) ∧ (ys.map (·.length)).sum + ys.length * a.length ≤ 16777216 ∧ Q (.str (Txt.join a ys)) H) (fJoin x) := by
  intro S H vs ds c Q hd h hf r
  unfold fJoin at hf
  split at hf
  · obtain ⟨v, rfl, dv⟩ := h.one
    obtain ⟨ys, e1, e2⟩ := Option.bind_eq_some_iff.mp hf
    split at e2
    · rename_i hl
      cases e2
      cases dv with
      | lst ha dl => exact ⟨x, _, ys, rfl, rfl, .inl (by rw [← dl.strs e1]; exact SqL.of ha), by omega, r.str hd⟩
    · cases e2
  · cases hf
theorem x_join {o e : Expr} {ro re : Run} {apos cpos : Pos} (hK : X.K = W.K) (ho : PE X o (TV W ro)) (he : PE X e (TV W re)) (hb : attributeBase o "join" X.env (eval o X.env) = eval o X.env) (hf : few e X cpos) (hl : (apos.endLine == cpos.line) = true)
    (hs : starEach [e] X.env = (false, eval e X.env) :: starEach [] X.env) (hp : (backTo cpos (starEach [] X.env)).any (·.1) = false) : PE X (.Call (.Attribute o "join" apos) [e] [] cpos) (TV W (rStrM ro (rCons re rNil) fJoin)) :=
  pe_weak (pe_bm PySem.F.plainAttrs_str PySem.F.slot_str_join PySem.F.type_str_join mt_join ho (x_cons he x_nil hs) hb hf hl hs hp) fun _ _ _ h => by rw [hK]; exact tv_strM p_join h

/-! ### ranges and pairs walked -/
def iRange (rs : Runs) : RunI := fun en => (rs en).bind fun a => (T.ofOpt (match frcs a.2 a.1 with
  | some [.int j] => if j ≤ 4096 ∧ -4096 ≤ j then some ((List.range j.toNat).map fun k => D.int (0 + (k : Nat))) else none
  | _ => none)).bind fun ds => .ret (ds, a.2)
theorem walks_rng {n : Nat} {lo : Int} : Walks W S P H (Itr lo n) ((List.range n).map fun k => D.int (lo + (k : Nat))) := by
  have hl : ((List.range n).map fun k => D.int (lo + (k : Nat))).length = n := by simp
  refine ⟨fun i _ _ h => by rw [hl] at h; exact h, fun i _ _ h => by rw [hl] at h; exact h, fun i H2 x H3 _ hi y => ?_⟩
  rw [hl] at hi
  obtain ⟨rfl, rfl⟩ := y
  exact ⟨.int (lo + (i : Nat)), by rw [List.getElem?_map, List.getElem?_range hi]; rfl, .inl ⟨rfl, trivial, .int _⟩⟩
theorem x_range {tg a : Expr} {ra : Run} {p pos : Pos} (hg : Gl X "range") (hm : X.mg "range" = none) (ha : PE X a (TV W ra)) (hs : starEach [a] X.env = (false, eval a X.env) :: starEach [] X.env) : PI X tg (.Call (.Name "range" p) [a] [] pos) (TVI W (iRange (rCons ra rNil)) none) := by
  refine ⟨fun pins s σ H R I q => (pi_range1 (tg := tg) hg hm (x_cons ha x_nil hs) hs).run pins s σ H R I ?_⟩
  obtain ⟨S, P, en, Rl, w⟩ := q
  refine TVs.use Rl w fun c vs H1 S1 P1 e1 R1 p1 q => ?_
  obtain ⟨ds, hds, q⟩ := T.wp_ofOpt ((T.wp_bind _ _ _).mp q)
  split at hds
  · rename_i j hj
    split at hds
    · rename_i hb
      obtain ⟨v, rfl, dv⟩ := (p1.now R1 hj).one
      cases dv
      refine ⟨j, rfl, by omega, by omega, q (Itr 0 j.toNat) H1 S1 P1 P1 e1 R1 (fun _ h => h) (fun S3 P3 en3 σ3 H3 _ e3 R3 => ⟨P3, fun _ h => h, e3, R3⟩) (fun _ => rfl) ?_⟩
      cases hds
      exact walks_rng
    · cases hds
  · cases hds
def enumD (ds : List D) : List D := ds.zipIdx.map fun z => .tup [.int (z.2 : Nat), z.1]
def iEnumR (rs : Runs) : RunI := fun en => (rs en).bind fun a => (T.ofOpt (match onlyV a.1 with
  | some [.lst ds] => some (enumD ds)
  | _ => none)).bind fun ds => .ret (ds, a.2)
theorem walks_enum {a : Addr} {xs : List V} {ds : List D} (R : Rel W S P en σ H) (ha : P a) (h : H a = some (.lst xs)) (dl : DvL W S H xs ds) : Walks W S P H (Ite W.K a) (enumD ds) := by
  have hl : (enumD ds).length = ds.length := by simp [enumD]
  have at' : ∀ H2, (∀ b, P b → H2 b = H b) → SqL W.K H2 a xs := fun H2 q => SqL.of ((q a ha).trans h)
  refine ⟨fun i H2 q hi => ⟨xs, at' H2 q, by rw [dl.len]; omega⟩, fun i H2 q hi => ?_, fun i H2 x H3 q hi y => ?_⟩
  · have hi' : i < xs.length := by rw [dl.len]; omega
    exact ⟨xs, xs[i], at' H2 q, List.getElem?_eq_getElem hi'⟩
  · obtain ⟨T', x', rfl, hT, rfl, y⟩ := y
    obtain ⟨d, hd, dz⟩ := (dl.at (i := i)).1 x' (y xs (at' _ q))
    refine ⟨.tup [.int (i : Nat), d], ?_, .inr ⟨T', _, _, rfl, hT, rfl, rfl, .cons trivial (.int _) (.cons dz.1 (dz.2.mono (fun _ h => h) (fun b s => q b (R.sp b s)) (dz.1.mono fun b s => q b (R.sp b s))) .nil)⟩⟩
    unfold enumD
    rw [List.getElem?_map, List.getElem?_zipIdx, hd]
    simp
end
end Sx
set_option Elab.async false
set_option linter.all false
set_option maxRecDepth 100000
set_option maxHeartbeats 4000000
set_option autoImplicit false
namespace Sx
open PySem L2
/-! ### short words for derivations -/
section
variable {W : Wd} {X : Cx} {a b c e o : Expr} {es : List Expr} {ra rb rc re ro : Run} {rs rt : Runs} {pos apos p p2 p3 : Pos} {i : Nat} {x : Str}
theorem e_var (i : Nat) (hN : X.N[i]? = some x := by rfl) (hv : Vis X.env.scope x := by first | exact Or.inl rfl | exact Or.inr (Or.inl rfl) | exact Or.inr (Or.inr rfl)) (hd : (x == ("__debug__" : Str)) = false := by decide) (hcd : (x == ("__classdict__" : Str)) = false := by decide) :
    PE X (.Name x pos) (TV W (rVar i)) := pe_weak (pe_var hN hv hd hcd) fun _ _ _ h => tv_var h
theorem e_mov (i : Nat) (hN : X.N[i]? = some x := by rfl) (hv : Vis X.env.scope x := by first | exact Or.inl rfl | exact Or.inr (Or.inl rfl) | exact Or.inr (Or.inr rfl)) (hd : (x == ("__debug__" : Str)) = false := by decide) (hcd : (x == ("__classdict__" : Str)) = false := by decide) :
    PE X (.Name x pos) (TV W (rMov i)) := pe_weak (pe_var hN hv hd hcd) fun _ _ _ h => tv_mov h
theorem e_bor (i : Nat) (hN : X.N[i]? = some x := by rfl) (hv : Vis X.env.scope x := by first | exact Or.inl rfl | exact Or.inr (Or.inl rfl) | exact Or.inr (Or.inr rfl)) (hd : (x == ("__debug__" : Str)) = false := by decide) (hcd : (x == ("__classdict__" : Str)) = false := by decide) :
    PE X (.Name x pos) (TV W (rBor i)) := pe_weak (pe_var hN hv hd hcd) fun _ _ _ h => tv_bor h
theorem e_own (i : Nat) (hN : X.N[i]? = some x := by rfl) (hv : Vis X.env.scope x := by first | exact Or.inl rfl | exact Or.inr (Or.inl rfl) | exact Or.inr (Or.inr rfl)) (hd : (x == ("__debug__" : Str)) = false := by decide) (hcd : (x == ("__classdict__" : Str)) = false := by decide) :
    PE X (.Name x pos) (tVar i) := pe_var hN hv hd hcd
theorem e_int {k : Int} {j : Nat} : PE X (.Constant (.int k) j pos) (TV W (rC (.int k))) := pe_weak pe_int fun _ _ _ h => tv_c (d := .int k) (fun _ _ => ⟨trivial, .int _⟩) h
theorem e_bl {k : Bool} {j : Nat} : PE X (.Constant (.bool k) j pos) (TV W (rC (.bl k))) := pe_weak pe_bl fun _ _ _ h => tv_c (d := .bl k) (fun _ _ => ⟨trivial, .bl _⟩) h
theorem e_non {j : Nat} : PE X (.Constant .none j pos) (TV W (rC .non)) := pe_weak pe_non fun _ _ _ h => tv_c (d := .non) (fun _ _ => ⟨trivial, .non⟩) h
theorem e_str {k : Str} {j : Nat} : PE X (.Constant (.str k) j pos) (TV W (rC (.str k))) := pe_weak pe_str fun _ _ _ h => tv_c (d := .str k) (fun _ _ => ⟨trivial, .str _⟩) h
/-- a module's constant: a number, a text -/
theorem e_gint {k : Int} {t : Tok} (hm : X.mg x = some (.int k t)) (hg : Gl X x := by rfl) (hd : (x == ("__debug__" : Str)) = false := by decide) : PE X (.Name x pos) (TV W (rC (.int k))) := pe_weak (pe_glob (v := .int k) hg hm ⟨t, rfl⟩ hd) fun _ _ _ h => tv_c (d := .int k) (fun _ _ => ⟨trivial, .int _⟩) h
theorem e_gstr {k : Str} {t : Tok} (hm : X.mg x = some (.str k t)) (hg : Gl X x := by rfl) (hd : (x == ("__debug__" : Str)) = false := by decide) : PE X (.Name x pos) (TV W (rC (.str k))) := pe_weak (pe_glob (v := .str k) hg hm ⟨t, rfl⟩ hd) fun _ _ _ h => tv_c (d := .str k) (fun _ _ => ⟨trivial, .str _⟩) h
/-- a built-in type -/
theorem e_ty {n : String} (hm : X.mg x = none) (hv : bootBuiltins x = some (.type n)) (hg : Gl X x := by rfl) (hn : x ≠ "__name__" := by decide) (hd : (x == ("__debug__" : Str)) = false := by decide) : PE X (.Name x pos) (TV W (rC (.ty n))) :=
  pe_weak (pe_bltn (v := .ty n) hg hm hv rfl hn hd) fun _ _ _ h => tv_c (d := .ty n) (fun _ _ => ⟨trivial, .ty _⟩) h
theorem a_nil : PA X [] (TVs W rNil) := x_nil
theorem a_cons (ha : PE X e (TV W re)) (hr : PA X es (TVs W rs)) (hs : starEach (e :: es) X.env = (false, eval e X.env) :: starEach es X.env := by rfl) : PA X (e :: es) (TVs W (rCons re rs)) := x_cons ha hr hs
def mkL (ds : List D) : Option (Bool × D) := small ds (true, .lst ds)
def mkT (ds : List D) : Option (Bool × D) := small ds (false, .tup ds)
theorem e_lst (h : PA X es (TVs W rs)) : PE X (.List es pos) (TV W (rDisp mkL rs)) := x_lst h
theorem e_tup {k : Nat} (h : PA X es (TVs W rs)) : PE X (.Tuple es k pos) (TV W (rDisp mkT rs)) := x_tup h
theorem e_add (hK : X.K = W.K) (ha : PE X a (TV W ra)) (hb : PE X b (TV W rb)) : PE X (.BinOp a .Add b pos) (TV W (run2 ra rb fAdd)) := x_bin (by rw [← hK]; exact op_addAll) p_add ha hb
instance (i j : Int) : Decidable (CMulW i j) := inferInstanceAs (Decidable (_ < _))
instance (i j : Int) : Decidable (CDivW i j) := inferInstanceAs (Decidable (_ ∧ _))
theorem e_neg (ha : PE X a (TV W ra)) : PE X (.UnaryOp .USub a pos) (TV W (run1 ra fNeg)) := x_un un_neg p_neg ha
/-! comparisons: as values (e_), as tests (t_) -/
theorem Room.u {k : Nat} {A : Around} (hr : Room k A) : A.units + 64 < cLine := hr.units
theorem t_cmp {op : CmpOp} {r : R2} {f : D → D → Option (Bool × D)} (ho : OpR X (compareOp op) r) (hr : Pure2 W r f) (ha : PE X a (TV W ra)) (hb : PE X b (TV W rb)) (hm : behindInMarks op b = false) : PT X (.Compare a [op] [b] pos) (TVT W (toT (run2 ra rb f))) :=
  pt_weak (pt_cmpR ho ha hb hm) fun _ _ _ h => tv2 hr (tvt_tB h)
abbrev fLt := fCmp fun p q => PySem.W.dataLt p q
abbrev fGt := fCmp fun p q => PySem.W.dataLt q p
abbrev fLe := fCmp fun p q => !PySem.W.dataLt q p
abbrev fGe := fCmp fun p q => !PySem.W.dataLt p q
abbrev fIn := fInG false
abbrev fNotIn := fInG true
abbrev fIsP := fIs false
variable {k : Nat}
theorem e_eq (hK : X.K = W.K) (hr : Room k X.A) (ha : PE X a (TV W ra)) (hb : PE X b (TV W rb)) (hm : behindInMarks .Eq b = false := by rfl) : PE X (.Compare a [.Eq] [b] pos) (TV W (run2 ra rb fEq)) := x_cmp (by rw [← hK]; exact op_eqP hr.units) p_eq ha hb hm
theorem e_in (hK : X.K = W.K) (hr : Room k X.A) (ha : PE X a (TV W ra)) (hb : PE X b (TV W rb)) (hm : behindInMarks .In b = false := by rfl) : PE X (.Compare a [.In] [b] pos) (TV W (run2 ra rb fIn)) := x_cmp (by rw [← hK]; exact op_inAll hr.units) p_in ha hb hm
theorem t_eq (hK : X.K = W.K) (hr : Room k X.A) (ha : PE X a (TV W ra)) (hb : PE X b (TV W rb)) (hm : behindInMarks .Eq b = false := by rfl) : PT X (.Compare a [.Eq] [b] pos) (TVT W (toT (run2 ra rb fEq))) := t_cmp (by rw [← hK]; exact op_eqP hr.units) p_eq ha hb hm
theorem t_ne (hK : X.K = W.K) (hr : Room k X.A) (ha : PE X a (TV W ra)) (hb : PE X b (TV W rb)) (hm : behindInMarks .NotEq b = false := by rfl) : PT X (.Compare a [.NotEq] [b] pos) (TVT W (toT (run2 ra rb fNe))) := t_cmp (by rw [← hK]; exact op_neP hr.units) p_ne ha hb hm
theorem t_gt (hK : X.K = W.K) (hr : Room k X.A) (ha : PE X a (TV W ra)) (hb : PE X b (TV W rb)) (hm : behindInMarks .Gt b = false := by rfl) : PT X (.Compare a [.Gt] [b] pos) (TVT W (toT (run2 ra rb fGt))) := t_cmp (by rw [← hK]; exact op_gtP hr.units) p_cmp ha hb hm
theorem t_le (hK : X.K = W.K) (hr : Room k X.A) (ha : PE X a (TV W ra)) (hb : PE X b (TV W rb)) (hm : behindInMarks .LtE b = false := by rfl) : PT X (.Compare a [.LtE] [b] pos) (TVT W (toT (run2 ra rb fLe))) := t_cmp (by rw [← hK]; exact op_leP hr.units) p_cmp ha hb hm
theorem t_ge (hK : X.K = W.K) (hr : Room k X.A) (ha : PE X a (TV W ra)) (hb : PE X b (TV W rb)) (hm : behindInMarks .GtE b = false := by rfl) : PT X (.Compare a [.GtE] [b] pos) (TVT W (toT (run2 ra rb fGe))) := t_cmp (by rw [← hK]; exact op_geP hr.units) p_cmp ha hb hm
theorem t_in (hK : X.K = W.K) (hr : Room k X.A) (ha : PE X a (TV W ra)) (hb : PE X b (TV W rb)) (hm : behindInMarks .In b = false := by rfl) : PT X (.Compare a [.In] [b] pos) (TVT W (toT (run2 ra rb fIn))) := t_cmp (by rw [← hK]; exact op_inAll hr.units) p_in ha hb hm
theorem t_notIn (hK : X.K = W.K) (hr : Room k X.A) (ha : PE X a (TV W ra)) (hb : PE X b (TV W rb)) (hm : behindInMarks .NotIn b = false := by rfl) : PT X (.Compare a [.NotIn] [b] pos) (TVT W (toT (run2 ra rb fNotIn))) := t_cmp (by rw [← hK]; exact op_notInAll hr.units) p_in ha hb hm
theorem t_is (ha : PE X a (TV W ra)) (hb : PE X b (TV W rb)) (hm : behindInMarks .Is b = false := by rfl) : PT X (.Compare a [.Is] [b] pos) (TVT W (toT (run2 ra rb fIsP))) := t_cmp op_isAll p_is ha hb hm
theorem t_lele (hK : X.K = W.K) (hr : Room k X.A) (ha : PE X a (TV W ra)) (hb : PE X b (TV W rb)) (hc : PE X c (TV W rc)) (hm : lastMarks [.LtE, .LtE] [b, c] = false := by rfl) : PT X (.Compare a [.LtE, .LtE] [b, c] pos) (TVT W (toT (rChn fLe fLe ra rb rc))) :=
  pt_weak (pt_chain (op_leP hr.units) (op_leP hr.units) ha hb hc hm) fun _ _ _ h => by rw [hK]; exact tv_chn p_cmp p_cmp (tvt_tB h)
/-! and, or, not -/
variable {rest : List Expr}
theorem e_not (ha : PE X a (TV W ra)) : PE X (.UnaryOp .Not a pos) (TV W (rNot ra)) := x_not ha
theorem e_one {op : BoolOp} (ha : PE X a (TV W ra)) : PE X (.BoolOp op [a] pos) (TV W ra) := pe_one ha
theorem e_and (ha : PE X a (TV W ra)) (hb : PE X (.BoolOp .And (b :: rest) pos) (TV W rb)) : PE X (.BoolOp .And (a :: b :: rest) pos) (TV W (rAnd ra rb)) := x_and ha hb
theorem t_not (ha : PT X a (TVT W (toT ra))) : PT X (.UnaryOp .Not a pos) (TVT W (toT (rNot ra))) := y_not ha
theorem w_and1 (ha : PT X a (TVT W (toT ra))) : PW X (.BoolOp .And [a] pos) (TVT W (toT ra)) := pw_and1 ha
theorem w_or1 (ha : PT X a (TVT W (toT ra))) : PW X (.BoolOp .Or [a] pos) (TVT W (toT ra)) := pw_or1 ha
theorem w_and (ha : PT X a (TVT W (toT ra))) (hb : PW X (.BoolOp .And (b :: rest) pos) (TVT W (toT rb))) : PW X (.BoolOp .And (a :: b :: rest) pos) (TVT W (toT (rAnd ra rb))) := y_and ha hb
theorem w_or (ha : PT X a (TVT W (toT ra))) (hb : PW X (.BoolOp .Or (b :: rest) pos) (TVT W (toT rb))) : PW X (.BoolOp .Or (a :: b :: rest) pos) (TVT W (toT (rOr ra rb))) := y_or ha hb
theorem t_bool {e : Expr} (h : PW X e (TVT W (toT ra))) : PT X e (TVT W (toT ra)) := h.pt
theorem t_val (h : PE X e (TV W re)) (he : ∀ whole, isTrue e X.env whole = (do let v ← whole; standAt e.pos; holding [v] (truthy v)) := by intro _; rfl) : PT X e (TVT W (toT re)) := y_val h he
theorem e_if (hc : PT X c (TVT W (toT rc))) (ha : PE X a (TV W ra)) (hb : PE X b (TV W rb)) : PE X (.IfExp c a b pos) (TV W (rIf rc ra rb)) := x_if hc ha hb
/-! subscripts -/
theorem e_ix (hK : X.K = W.K) (ha : PE X a (TV W ra)) (hb : PE X b (TV W rb)) (hs : PlainIx b := by exact fun _ _ => rfl) : PE X (.Subscript a b pos) (TV W (run2 ra rb fIx)) := x_ix ha hb hK hs
variable {lo hi : Option Expr} {rl rh : RunO}
theorem e_sl (hK : X.K = W.K) (he : PE X e (TV W re)) (hl : PO X lo (TVO W rl)) (hh : PO X hi (TVO W rh)) : PE X (.Subscript e (.Slice lo hi none p2) pos) (TV W (rSlice re rl rh)) := x_slice hK he hl hh
/-! calls -/
theorem e_call {f : Addr} {fd : FuncData} {ps : List Str} {n : Nat} {fn : Fn} {cls : CT} (F : FnG X.prog X.w X.K X.mg X.base CX0 k f fd ps (spR X.K cls n fn)) (hcl : W.cls = cls) (hK : X.K = W.K) (hr : Room k X.A) (hg : NoG X.A) (hm : X.mg x = some (.ref f)) (hk : PySem.W.keepIn X.K (.ref f) = true)
    (hb : Binds X.K fd ps []) (ha : PA X (e :: es) (TVs W rs)) (hn : ∀ en, (rs en).all fun r => ∀ ds, onlyV r.1 = some ds → ds.length = n) (gl : Gl X x := by rfl) (hdb : (x == ("__debug__" : Str)) = false := by decide)
    (he : starEach (e :: es) X.env = (false, eval e X.env) :: starEach es X.env := by rfl) (hpl : (backTo pos (starEach es X.env)).any (·.1) = false := by rfl) : PE X (.Call (.Name x p) (e :: es) [] pos) (TV W (rCall fn rs)) :=
  pe_weak (pe_callG F hr hg gl hm hk hb .nil pass0 ha hdb he hpl) fun _ _ _ h => by rw [hK]; exact tv_call hcl hn h
theorem onlyV_len : ∀ {os : List Op} {ds : List D}, onlyV os = some ds → ds.length = os.length
  | [], ds, h => by cases h; rfl
  | .v d :: os, ds, h => by
    obtain ⟨es, e, h⟩ := Option.bind_eq_some_iff.mp h
    cases h
    simp [onlyV_len e]
  | .fr _ :: _, _, h => by cases h
  | .b _ :: _, _, h => by cases h
/-- as many results as runs -/
def LenR (rs : Runs) (n : Nat) : Prop := ∀ en, (rs en).all fun r => r.1.length = n
theorem l_nil : LenR rNil 0 := fun _ => rfl
theorem l_cons {n : Nat} (h : LenR rs n) : LenR (rCons re rs) (n + 1) := fun en => T.all_bind (T.all_triv fun a => T.all_bind (T.all_mono (h a.2) fun b hb => by show (_ :: b.1).length = _; simp [hb]))
theorem LenR.ok {n : Nat} (h : LenR rs n) : ∀ en, (rs en).all fun r => ∀ ds, onlyV r.1 = some ds → ds.length = n := fun en => T.all_mono (h en) fun a ha ds e => (onlyV_len e).trans ha
/-- a built-in function, a built-in type as a function -/
theorem e_blt {id : String} {r : List V → Hp → VK → Prop} {f : List D → Option (Bool × D)} (hc : CallR X (.builtin id) r) (hr : PureN W r f) (hm : X.mg x = none) (hv : bootBuiltins x = some (.builtin id)) (ha : PA X (e :: es) (TVs W rs)) (hg : Gl X x := by rfl) (hn : x ≠ "__name__" := by decide)
    (hdb : (x == ("__debug__" : Str)) = false := by decide) (he : starEach (e :: es) X.env = (false, eval e X.env) :: starEach es X.env := by rfl) (hpl : (backTo pos (starEach es X.env)).any (·.1) = false := by rfl) : PE X (.Call (.Name x p) (e :: es) [] pos) (TV W (runN rs f)) :=
  pe_weak (pe_callB hc hg hm hv ha hn hdb he hpl) fun _ _ _ h => tvN hr h
theorem e_bty {id : String} {r : List V → Hp → VK → Prop} {f : List D → Option (Bool × D)} (hc : CallR X (.type id) r) (hr : PureN W r f) (hm : X.mg x = none) (hv : bootBuiltins x = some (.type id)) (ha : PA X (e :: es) (TVs W rs)) (hg : Gl X x := by rfl) (hn : x ≠ "__name__" := by decide)
    (hdb : (x == ("__debug__" : Str)) = false := by decide) (he : starEach (e :: es) X.env = (false, eval e X.env) :: starEach es X.env := by rfl) (hpl : (backTo pos (starEach es X.env)).any (·.1) = false := by rfl) : PE X (.Call (.Name x p) (e :: es) [] pos) (TV W (runN rs f)) :=
  pe_weak (pe_callTy hc hg hm hv ha hn hdb he hpl) fun _ _ _ h => tvN hr h
end
end Sx
set_option Elab.async false
set_option linter.all false
set_option maxRecDepth 100000
set_option maxHeartbeats 4000000
set_option autoImplicit false
namespace Sx
open PySem L2
/-! ### no run locks a name -/
class ShRun (r : Run) : Prop where sh : ∀ en, (r en).all fun a => LkSub a.2 en
class ShTst (r : RunT) : Prop where sh : ∀ en, (r en).all fun a => LkSub a.2 en
class ShRuns (r : Runs) : Prop where sh : ∀ en, (r en).all fun a => LkSub a.2 en
class ShRO (r : RunO) : Prop where sh : ∀ en, (r en).all fun a => LkSub a.2 en
class ShIt (r : RunI) (l : Option Nat) : Prop where sh : ∀ en, (r en).all fun a => ∀ en', LkSub en' a.2 → LkSub (unl l en') en
class ShTg (t : Tg) (is : outParam (List Nat)) : Prop where sh : ShG t is
section
variable {ra rb rc : Run} {rs : Runs} {rl rh : RunO}
theorem all_seq {α β : Type} {r : En → T (α × En)} {f : α × En → T (β × En)} {en : En} (h : (r en).all fun a => LkSub a.2 en) (g : ∀ a : α × En, (f a).all fun b => LkSub b.2 a.2) : ((r en).bind f).all fun b => LkSub b.2 en :=
  T.all_bind (T.all_mono h fun a ha => T.all_mono (g a) fun _ hb => hb.trans ha)
theorem all_of {α β : Type} {o : Option α} {f : α → T (β × En)} {en : En} (g : ∀ a, o = some a → (f a).all fun b => LkSub b.2 en) : ((T.ofOpt o).bind f).all fun b => LkSub b.2 en :=
  T.all_bind (T.all_ofOpt g)
theorem all_ret1 {o : Option (Bool × D)} {en : En} : (ret1 o en).all fun b => LkSub b.2 en := all_of fun _ _ => LkSub.refl _
instance (i : Nat) : ShRun (rVar i) := ⟨fun en => by
  unfold rVar
  split
  · exact LkSub.refl _
  · exact (LkSub.set (s := some (.fz, _)) (by intro d h; cases h)).trans (LkSub.set (s := none) (by intro d h; cases h))
  · trivial⟩
instance (i : Nat) : ShRun (rMov i) := ⟨fun en => by
  unfold rMov
  split
  · exact LkSub.refl _
  · exact LkSub.set (s := none) (by intro d h; cases h)
  · trivial⟩
instance (i : Nat) : ShRun (rBor i) := ⟨fun en => by
  unfold rBor
  split
  · exact LkSub.refl _
  · trivial⟩
instance (d : D) : ShRun (rC d) := ⟨fun en => LkSub.refl _⟩
instance {f : D → Option (Bool × D)} [h : ShRun ra] : ShRun (run1 ra f) := ⟨fun en => all_seq (h.sh en) fun _ => all_ret1⟩
instance {f : D → D → Option (Bool × D)} [h : ShRun ra] [g : ShRun rb] : ShRun (run2 ra rb f) := ⟨fun en => all_seq (h.sh en) fun _ => all_seq (g.sh _) fun _ => all_ret1⟩
instance : ShRuns rNil := ⟨fun en => LkSub.refl _⟩
instance [h : ShRun ra] [g : ShRuns rs] : ShRuns (rCons ra rs) := ⟨fun en => all_seq (h.sh en) fun _ => all_seq (g.sh _) fun _ => LkSub.refl _⟩
instance {f : List D → Option (Bool × D)} [g : ShRuns rs] : ShRun (runN rs f) := ⟨fun en => all_seq (g.sh en) fun _ => all_ret1⟩
instance {f : List D → Option (Bool × D)} [g : ShRuns rs] : ShRun (rDisp f rs) := ⟨fun en => all_seq (g.sh en) fun _ => all_ret1⟩
instance {f : Fn} [g : ShRuns rs] : ShRun (rCall f rs) := ⟨fun en => all_seq (g.sh en) fun _ => all_of fun _ _ => T.all_bind (T.all_triv fun _ => LkSub.refl _)⟩
instance [h : ShRun ra] : ShTst (toT ra) := ⟨fun en => all_seq (h.sh en) fun _ => by
  split
  · exact LkSub.refl _
  · trivial⟩
instance [h : ShRun ra] [g : ShRun rb] : ShRun (rAnd ra rb) := ⟨fun en => all_seq (ShTst.sh (r := toT ra) en) fun _ => by
  split
  · exact g.sh _
  · exact LkSub.refl _⟩
instance [h : ShRun ra] [g : ShRun rb] : ShRun (rOr ra rb) := ⟨fun en => all_seq (ShTst.sh (r := toT ra) en) fun _ => by
  split
  · exact LkSub.refl _
  · exact g.sh _⟩
instance [h : ShRun ra] : ShRun (rNot ra) := ⟨fun en => all_seq (ShTst.sh (r := toT ra) en) fun _ => LkSub.refl _⟩
instance [h : ShRun rc] [h1 : ShRun ra] [g : ShRun rb] : ShRun (rIf rc ra rb) := ⟨fun en => all_seq (ShTst.sh (r := toT rc) en) fun _ => by
  split
  · exact h1.sh _
  · exact g.sh _⟩
instance : ShRO oNone := ⟨fun en => LkSub.refl _⟩
instance [h : ShRun ra] : ShRO (oSome ra) := ⟨fun en => all_seq (h.sh en) fun _ => all_of fun _ _ => LkSub.refl _⟩
instance [h : ShRun ra] [h1 : ShRO rl] [h2 : ShRO rh] : ShRun (rSlice ra rl rh) := ⟨fun en => all_seq (h.sh en) fun _ => all_seq (h1.sh _) fun _ => all_seq (h2.sh _) fun _ => all_ret1⟩
instance {f g : D → D → Option (Bool × D)} [h : ShRun ra] [h1 : ShRun rb] [h2 : ShRun rc] : ShRun (rChn f g ra rb rc) := ⟨fun en => all_seq (h.sh en) fun _ => all_seq (h1.sh _) fun _ => all_of fun k _ => by
  split
  · exact all_seq (h2.sh _) fun _ => all_ret1
  · exact LkSub.refl _⟩
instance {i : Nat} [h : ShRun ra] : ShRun (rApp i ra) := ⟨fun en => all_of fun _ _ => all_seq (h.sh en) fun _ => all_of fun _ _ => all_of fun _ _ => by
  split
  · exact LkSub.set (by intro d h; cases h)
  · trivial⟩
instance {i : Nat} [h : ShRun ra] : ShRun (rPopI i ra) := ⟨fun en => all_of fun _ _ => all_seq (h.sh en) fun _ => all_of fun _ _ => all_of fun _ _ => by
  split
  · exact all_of fun _ _ => LkSub.set (by intro d h; cases h)
  · trivial⟩
instance {i : Nat} : ShRun (rPop0 i) := ⟨fun en => all_of fun _ _ => all_of fun _ _ => LkSub.set (by intro d h; cases h)⟩
instance {i : Nat} : ShRun (rClr i) := ⟨fun en => all_of fun _ _ => LkSub.set (by intro d h; cases h)⟩
instance {f : Str → List D → Option (Bool × D)} [h : ShRun ra] [h1 : ShRuns rs] : ShRun (rStrM ra rs f) := ⟨fun en => all_seq (h.sh en) fun _ => all_of fun _ _ => all_seq (h1.sh _) fun _ => all_ret1⟩
/-! walks -/
instance [h : ShRun ra] : ShIt (iSeq ra) none := ⟨fun en => T.all_mono (all_seq (h.sh en) fun _ => all_of (f := fun ds => T.ret (ds, _)) fun _ _ => LkSub.refl _) fun _ h _ g => g.trans h⟩
instance [h : ShRuns rs] : ShIt (iRange rs) none := ⟨fun en => T.all_mono (all_seq (h.sh en) fun _ => all_of fun _ _ => LkSub.refl _) fun _ h _ g => g.trans h⟩
instance [h : ShRuns rs] : ShIt (iEnumR rs) none := ⟨fun en => T.all_mono (all_seq (h.sh en) fun _ => all_of fun _ _ => LkSub.refl _) fun _ h _ g => g.trans h⟩
theorem lk_unl {i : Nat} {en : En} {j : Nat} {d : D} (h : (unl (some i) en)[j]? = some (some (.lk, d))) : j ≠ i ∧ en[j]? = some (some (.lk, d)) := by
  unfold unl at h
  simp only at h
  split at h
  · rename_i d' e
    rcases set_get h with ⟨_, q⟩ | ⟨ne, q⟩
    · cases q
    · exact ⟨fun z => ne z.symm, q⟩
  · rename_i e
    exact ⟨fun z => e d (z ▸ h), h⟩
instance (i : Nat) : ShIt (iLock i) (some i) := ⟨fun en => by
  unfold iLock
  split
  · intro en' h j d e
    obtain ⟨ne, e⟩ := lk_unl e
    obtain ⟨d', e'⟩ := h j d e
    rcases set_get e' with ⟨z, _⟩ | ⟨_, q⟩
    · exact absurd z.symm ne
    · exact ⟨d', q⟩
  · intro en' h j d e
    exact h j d (lk_unl e).2
  · trivial⟩
theorem wip_sub {en : En} (vs : List Nat) : LkSub (wip en vs) en := fun i d h => ⟨d, (wip_get h).2⟩
theorem back_sub {en en0 : En} (vs : List Nat) : LkSub (back en en0 vs) en := fun i d h => by
  rcases back_get h with ⟨_, q, _⟩ | ⟨_, q⟩
  · cases q
  · exact ⟨d, q⟩
theorem lcl_sub {t : Tg} {is : List Nat} {rt : RunT} {re : Run} {vs : List Nat} [h : ShTg t is] [h1 : ShTst rt] [h2 : ShRun re] : ∀ (ds : List D) (en : En) (acc : List D), (rLcL t rt re vs ds en acc).all fun b => LkSub b.2 en
  | [], en, acc => LkSub.refl _
  | d :: ds, en, acc => all_of fun e1 q => T.all_bind (T.all_mono (h1.sh e1) fun b hb => by
      have h0 := (h.sh d en e1 q).1
      split
      · exact T.all_bind (T.all_mono (h2.sh b.2) fun o ho => all_of fun y _ => T.all_mono (lcl_sub ds _ _) fun c hc => hc.trans ((wip_sub vs).trans (ho.trans (hb.trans h0))))
      · exact T.all_mono (lcl_sub ds _ _) fun c hc => hc.trans ((wip_sub vs).trans (hb.trans h0)))
instance {ri : RunI} {l : Option Nat} {t : Tg} {is : List Nat} {rt : RunT} {re : Run} {vs : List Nat} [h0 : ShIt ri l] [h : ShTg t is] [h1 : ShTst rt] [h2 : ShRun re] : ShRun (rLc ri l t rt re vs) := ⟨fun en => T.all_bind (T.all_mono (h0.sh en) fun a ha => by
  split
  · exact T.all_bind (T.all_mono (lcl_sub (is := is) a.1 (wip a.2 vs) []) fun r hr => ha _ ((back_sub vs).trans (hr.trans (wip_sub vs))))
  · trivial)⟩
/-! targets -/
instance (i : Nat) : ShTg (tgN i) [i] := ⟨fun d en en' h => by
  unfold tgN at h
  split at h
  · cases h
    refine ⟨LkSub.set (by intro d h; cases h), fun j hj d' e => ?_⟩
    simp only [List.mem_singleton] at hj
    subst hj
    rw [List.getElem?_set_self (by assumption)] at e
    cases e
  · cases h⟩
class ShTgs (t : Tgs) (is : outParam (List Nat)) : Prop where sh : ∀ ds en en', t ds en = some en' → LkSub en' en ∧ ∀ j ∈ is, ∀ d', en'[j]? ≠ some (some (.lk, d'))
instance : ShTgs tgNil [] := ⟨fun ds en en' h => by
  unfold tgNil at h
  split at h
  · cases h; exact ⟨LkSub.refl _, fun j hj => by simp at hj⟩
  · cases h⟩
instance {t : Tg} {u : Tgs} {is js : List Nat} [h1 : ShTg t is] [h2 : ShTgs u js] : ShTgs (tgCons t u) (is ++ js) := ⟨fun ds en en' h => by
  cases ds with
  | nil => cases h
  | cons d ds =>
    obtain ⟨e1, q1, q2⟩ := Option.bind_eq_some_iff.mp h
    obtain ⟨a1, b1⟩ := h1.sh d en e1 q1
    obtain ⟨a2, b2⟩ := h2.sh ds e1 en' q2
    refine ⟨a2.trans a1, fun j hj d' e => ?_⟩
    rcases List.mem_append.mp hj with hj | hj
    · obtain ⟨d2, e2⟩ := a2 j d' e
      exact b1 j hj d2 e2
    · exact b2 j hj d' e⟩
instance {n : Nat} {u : Tgs} {is : List Nat} [h : ShTgs u is] : ShTg (tgTup n u) is := ⟨fun d en en' q => by
  unfold tgTup at q
  split at q
  · split at q
    · exact h.sh _ _ _ q
    · cases q
  · cases q⟩
end
end Sx
set_option Elab.async false
set_option linter.all false
set_option maxRecDepth 100000
set_option maxHeartbeats 4000000
set_option autoImplicit false
namespace Sx
open PySem L2
def sFail : RunS := fun _ => .fail
/-- the value is stored at a target -/
def sTgt (t : Tg) (ra : Run) : RunS := fun en => (ra en).bind fun a => (T.ofOpt (valO a.1)).bind fun d => (T.ofOpt (t d a.2)).bind fun e => .ret (.nx, e)
/-- x, y = a, b with plain names -/
def sPar (i j : Nat) (ra rb : Run) : RunS := fun en => (ra en).bind fun a => (rb a.2).bind fun b => (T.ofOpt (putO i (a.1, b.2))).bind fun e => (T.ofOpt (putO j (b.1, e))).bind fun e' => .ret (.nx, e')
def rYes : RunT := fun en => .ret (true, en)
instance : ShTst rYes := ⟨fun en => LkSub.refl _⟩
section
variable {W : Wd} {S P : Addr → Prop} {en : En} {σ : St} {H : Hp} {X : Cx} {Dn : Ends} {e o : Expr} {es : List Expr} {ra rb re : Run} {rs rs2 : Runs} {pos apos p p' : Pos} {x : Str} {i : Nat} {st : Stmt}
theorem s_set (i : Nat) (hNd : X.N.Nodup) (he : PE X e (TV W ra)) (hN : X.N[i]? = some x := by rfl) (hx : Loc X.env.scope x := by first | exact Or.inl rfl | exact Or.inr rfl) (hs : swapsWith e (some (.Name x p')) pos.line X.env = pure false := by rfl)
    (hf : X.fn x = true ∨ X.env.scope.names.lookup x = some .local := by exact Or.inl rfl) : PS X (.Assign [.Name x p'] e pos) (TVS W (sSet i ra)) := ps_weak (ps_set hNd hN hx he hs hf) fun _ _ _ h => tvs_set h
theorem s_drop (he : PE X e (TV W ra)) (hs : swapsWith e none pos.line X.env = pure false := by rfl) : PS X (.Expr e pos) (TVS W (sDrop ra)) := ps_weak (ps_expr he hs) fun _ _ _ h => tvs_drop h
theorem s_never : PS X st (TVS W sFail) := ps_weak ps_never fun D σ H h => by
  obtain ⟨S, P, en, R, w⟩ := h
  exact w
theorem s_tgt {tg : Expr} {g : TG} {t : Tg} {is : List Nat} (he : PE X e (TV W ra)) (hg : PG X tg g) (gk : GOk W g t is) (hs : swapsWithSole [tg] e pos.line X.env = pure false := by rfl) (hw : swappedStores [tg] e X.env = pure none := by rfl)
    (h1 : (assignEach [tg] X.env).map (·.2) = [assign tg X.env] := by rfl) : PS X (.Assign [tg] e pos) (TVS W (sTgt t ra)) := ps_weak (ps_asg he hg hs hw h1) fun D σ H h => by
  obtain ⟨S, P, en, R, w⟩ := h
  have w := (T.wp_bind _ _ _).mp w
  refine ⟨S, P, en, R, T.wp_mono w fun r q v H' S' P' e R' ok => ?_⟩
  obtain ⟨d, hd, q⟩ := T.wp_ofOpt ((T.wp_bind _ _ _).mp q)
  obtain ⟨en2, ht, q⟩ := T.wp_ofOpt ((T.wp_bind _ _ _).mp q)
  obtain ⟨S2, P2, e2, R2, dz⟩ := ok.valz R' hd
  exact gk S2 P2 r.2 en2 v d σ H' D.nx R2 dz ht fun σ' _ _ R3 => q σ' H' S2 P2 (e.trans e2) R3
theorem Free.put {q : Addr} {d : D} {v : V} (hf : Free W P en σ q) (hl : en.length = σ.length) (hi : i < en.length) {f : Fg} (hv : v ≠ .ref q ∨ f = .fz) : Free W P (en.set i (some (f, d))) (σ.set i (some v)) q := by
  refine ⟨hf.1, hf.2.1, hf.2.2.1, fun j g d' e nf => ?_⟩
  rcases set_get e with ⟨rfl, q1⟩ | ⟨ne, q1⟩
  · cases q1
    rw [List.getElem?_set_self (by rw [← hl]; exact hi)]
    intro z
    cases z
    exact hv.elim (fun h => h rfl) nf
  · rw [List.getElem?_set_ne ne]
    exact hf.2.2.2 j g d' q1 nf
theorem tvs_par' [sh : ShRun rb] {i j : Nat} (h : TVS W (sPar i j ra rb) Dn σ H) : tCons (TV W ra) (tCons (TV W rb) tNil) σ H fun vs H1 => ∃ v w, vs = [v, w] ∧ ∀ H3, (∀ a o, H1 a = some o → H3 a = some o) → Dn.nx ((σ.set i (some v)).set j (some w)) H3 := by
  have late : ∀ {S P S2 P2 : Addr → Prop} {H H2 H3 : Hp} {en : En} {τ : St}, (∀ σ' H' S' P', Ext S P H S' P' H' → Rel W S' P' en σ' H' → Dn.nx σ' H') → Ext S P H S2 P2 H2 → Rel W S2 P2 en τ H2 → (∀ a o, H2 a = some o → H3 a = some o) → Dn.nx τ H3 := fun k e R hk => by
    obtain ⟨S3, P3, e3, R3⟩ := R.grow hk
    exact k _ _ _ _ (e.trans e3) R3
  obtain ⟨S, P, en, R, w⟩ := h
  have w := (T.wp_bind _ _ _).mp w
  refine ⟨S, P, en, R, T.wp_mono w fun a q v H1 S1 P1 e1 R1 ok => ?_⟩
  obtain ⟨oa, ena⟩ := a
  have q := T.wp_all ((T.wp_bind _ _ _).mp q) (sh.sh ena)
  cases oa with
  | b k =>
    refine ⟨S1, P1, ena, R1, T.wp_mono q fun b ⟨q, _⟩ u H2 S2 P2 e2 R2 okb => ?_⟩
    obtain ⟨en3, h3, q⟩ := T.wp_ofOpt ((T.wp_bind _ _ _).mp q)
    unfold putO at h3
    split at h3 <;> cases h3
  | v d =>
    refine ⟨S1, P1, ena, R1, T.wp_mono q fun b ⟨q, _⟩ u H2 S2 P2 e2 R2 okb => ?_⟩
    obtain ⟨en3, h3, q⟩ := T.wp_ofOpt ((T.wp_bind _ _ _).mp q)
    obtain ⟨en4, h4, q4⟩ := T.wp_ofOpt ((T.wp_bind _ _ _).mp q)
    have dz : Dz W S2 H2 v d := R1.top e2 ok
    unfold putO at h3
    split at h3
    · rename_i hl
      cases h3
      have R3 := R2.put hl dz
      refine ⟨v, u, rfl, fun H3 hk => late q4 (e1.trans e2) (OpOk.put (a := (b.1, _)) R3 ?_ h4) hk⟩
      obtain ⟨ob, enb⟩ := b
      cases ob with
      | v d2 => exact okb
      | fr d2 =>
        obtain ⟨dv, pp, uu, rfl, hf, hu⟩ := okb
        exact ⟨dv, pp, uu, rfl, hf.put R2.len hl (.inr rfl), hu⟩
      | b k =>
        unfold putO at h4
        split at h4 <;> cases h4
    · cases h3
  | fr d =>
    obtain ⟨dv, pp, uu, rfl, hf, hu⟩ := ok
    have Rg := R1.guard hf hu
    have nS1 : ¬ S1 pp := fun h => hf.1 (R1.sp pp h)
    refine ⟨S1, _, ena, Rg, T.wp_mono q fun b ⟨q, sb⟩ u H2 S2 P2 e2 R2 okb => ?_⟩
    obtain ⟨en3, h3, q⟩ := T.wp_ofOpt ((T.wp_bind _ _ _).mp q)
    obtain ⟨en4, h4, q4⟩ := T.wp_ofOpt ((T.wp_bind _ _ _).mp q)
    have pP2 : P2 pp := e2.p pp (.inr rfl)
    have nS2 : ¬ S2 pp := fun h => (e2.n pp h).elim nS1 fun z => z (.inr rfl)
    have hu2 : H2 pp = some uu := (e2.h pp (.inr rfl)).trans hu
    have same : upd H2 pp uu = H2 := by
      funext a
      by_cases h : a = pp
      · subst h; rw [upd_same, hu2]
      · exact upd_ne h
    obtain ⟨R3, f3⟩ := R2.turn (u := uu) pP2 nS2 (fun k d' e hv => by
      obtain ⟨d2, e'⟩ := sb k d' e
      exact hf.2.2.2 k .lk d2 e' (by decide) hv) (by rw [same]; exact R2.tb)
    rw [same] at R3
    have ext : Ext S1 P1 H1 S2 (fun a => P2 a ∧ a ≠ pp) H2 := ⟨e2.s, fun a h => ⟨e2.p a (.inl h), fun z => hf.1 (z ▸ h)⟩, fun a h => e2.h a (.inl h), fun a h => (e2.n a h).imp id fun z w => z (.inl w)⟩
    have dv2 : Dv W S2 H2 (.ref pp) d := dv.mono e2.s (fun a h => e2.h a (.inl (R1.sp a h))) (by
      have : H2 pp = H1 pp := e2.h pp (.inr rfl)
      cases d <;> first | exact trivial | exact this)
    unfold putO at h3
    split at h3
    · rename_i hl
      cases h3
      have R4 := R3.take hl dv2 f3 hu2
      refine ⟨.ref pp, u, rfl, fun H3 hk => late q4 (e1.trans ext) (OpOk.put (a := (b.1, _)) R4 ?_ h4) hk⟩
      obtain ⟨ob, enb⟩ := b
      cases ob with
      | v d2 => exact okb
      | fr d2 =>
        obtain ⟨dv', p2, u2, rfl, hf2, hu'⟩ := okb
        refine ⟨dv', p2, u2, rfl, Free.put ⟨fun h => hf2.1 h.1, hf2.2.1, hf2.2.2.1, hf2.2.2.2⟩ R3.len hl (.inl fun z => ?_), hu'⟩
        cases z
        exact hf2.1 pP2
      | b k =>
        unfold putO at h4
        split at h4 <;> cases h4
    · cases h3
theorem tvs_par [sh : ShRun rb] {i j : Nat} (h : TVS W (sPar i j ra rb) Dn σ H) : tPar i j (tCons (TV W ra) (tCons (TV W rb) tNil)) Dn σ H := by
  obtain ⟨S, P, en, R, w⟩ := tvs_par' h
  exact ⟨S, P, en, R, T.wp_mono w fun r q v H1 S1 P1 e1 R1 ok => by
    obtain ⟨S2, P2, en2, R2, w2⟩ := q v H1 S1 P1 e1 R1 ok
    exact ⟨S2, P2, en2, R2, T.wp_mono w2 fun r2 q2 u H2 S3 P3 e3 R3 ok2 => by
      obtain ⟨v', w', e, k⟩ := q2 u H2 S3 P3 e3 R3 ok2
      exact ⟨v', w', e, k _ fun _ _ h => h⟩⟩⟩
theorem tvs_parU [sh : ShRun rb] {i j : Nat} (h : TVS W (sPar i j ra rb) Dn σ H) : tAsg (tTup (tCons (TV W ra) (tCons (TV W rb) tNil))) (gTup W.K 2 (gCons (gName i) (gCons (gName j) gNil))) Dn σ H := by
  obtain ⟨S, P, en, R, w⟩ := tvs_par' h
  exact ⟨S, P, en, R, T.wp_mono w fun r q v H1 S1 P1 e1 R1 ok => by
    obtain ⟨S2, P2, en2, R2, w2⟩ := q v H1 S1 P1 e1 R1 ok
    exact ⟨S2, P2, en2, R2, T.wp_mono w2 fun r2 q2 u H2 S3 P3 e3 R3 ok2 => by
      obtain ⟨v', w', e, k⟩ := q2 u H2 S3 P3 e3 R3 ok2
      cases e
      exact ⟨by show 2 ≤ sizeLine; rw [sizeLine_eq]; decide, fun p hp => ⟨p, [v, u], rfl, SqT.of upd_same, rfl, v, [u], rfl, u, [], rfl, rfl, k _ (upd_keeps hp)⟩⟩⟩⟩
theorem s_parU {x y : Str} {a b : Expr} {px py pt pt2 : Pos} {kt k2 : Nat} [ShRun rb] (i j : Nat) (hNd : X.N.Nodup) (hK : X.K = W.K) (ha : PE X a (TV W ra)) (hb : PE X b (TV W rb)) (hc : X.calm = true := by rfl) (hi : X.N[i]? = some x := by rfl) (hj : X.N[j]? = some y := by rfl)
    (hx : Loc X.env.scope x := by first | exact Or.inl rfl | exact Or.inr rfl) (hy : Loc X.env.scope y := by first | exact Or.inl rfl | exact Or.inr rfl) (hfx : X.fn x = true ∨ X.env.scope.names.lookup x = some .local := by exact Or.inl rfl) (hfy : X.fn y = true ∨ X.env.scope.names.lookup y = some .local := by exact Or.inl rfl)
    (hs : swapsWithSole [.Tuple [.Name x px, .Name y py] kt pt] (.Tuple [a, b] k2 pt2) pos.line X.env = pure false := by rfl) (hw : swappedStores [.Tuple [.Name x px, .Name y py] kt pt] (.Tuple [a, b] k2 pt2) X.env = pure none := by rfl)
    (h1 : starEach [a, b] X.env = (false, eval a X.env) :: starEach [b] X.env := by rfl) (h2 : starEach [b] X.env = (false, eval b X.env) :: starEach [] X.env := by rfl)
    (t1 : (assignEach [.Tuple [.Name x px, .Name y py] kt pt] X.env).map (·.2) = [assign (.Tuple [.Name x px, .Name y py] kt pt) X.env] := by rfl)
    (t2 : (assignEach [.Name x px, .Name y py] X.env).map (·.2) = assign (.Name x px) X.env :: (assignEach [.Name y py] X.env).map (·.2) := by rfl) (t3 : (assignEach [.Name y py] X.env).map (·.2) = assign (.Name y py) X.env :: (assignEach [] X.env).map (·.2) := by rfl)
    (t4 : (assignEach [.Name x px, .Name y py] X.env).length = 2 := by rfl) (t5 : (assignEach [.Name x px, .Name y py] X.env).findIdx? (·.1) = none := by rfl) :
    PS X (.Assign [.Tuple [.Name x px, .Name y py] kt pt] (.Tuple [a, b] k2 pt2) pos) (TVS W (sPar i j ra rb)) :=
  ps_weak (ps_asg (pe_tup (pa_cons ha (pa_cons hb pa_nil h2) h1)) (pg_tup hc (pgs_cons (pg_name hNd hi hx hfx) (pgs_cons (pg_name hNd hj hy hfy) pgs_nil t3) t2) t4 t5) hs hw t1) fun _ _ _ h => by rw [hK]; exact tvs_parU h
theorem s_par {x y : Str} {a b : Expr} {px py pt pt2 : Pos} {kt k2 : Nat} [ShRun rb] (i j : Nat) (hNd : X.N.Nodup) (ha : PE X a (TV W ra)) (hb : PE X b (TV W rb)) (hc : X.calm = true := by rfl) (hi : X.N[i]? = some x := by rfl) (hj : X.N[j]? = some y := by rfl) (hij : i ≠ j := by decide)
    (hx : X.env.scope.names.lookup x = some .local := by rfl) (hy : X.env.scope.names.lookup y = some .local := by rfl) (hw : swappedStores [.Tuple [.Name x px, .Name y py] kt pt] (.Tuple [a, b] k2 pt2) X.env = pure (some [x, y]) := by rfl)
    (hs : swapsWithSole [.Tuple [.Name x px, .Name y py] kt pt] (.Tuple [a, b] k2 pt2) pos.line X.env = pure false := by rfl) (h1 : starEach [a, b] X.env = (false, eval a X.env) :: starEach [b] X.env := by rfl) (h2 : starEach [b] X.env = (false, eval b X.env) :: starEach [] X.env := by rfl) :
    PS X (.Assign [.Tuple [.Name x px, .Name y py] kt pt] (.Tuple [a, b] k2 pt2) pos) (TVS W (sPar i j ra rb)) :=
  ps_weak (ps_par hc hNd hi hj hij hx hy (pa_cons ha (pa_cons hb pa_nil h2) h1) hw hs) fun _ _ _ h => tvs_par h
/-! loops -/
theorem s_for {tg iter : Expr} {a : List Stmt} {ri : RunI} {g : TG} {t : Tg} {is : List Nat} {rb : RunS} (hi : PI X tg iter (TVI W ri none)) (hg : PG X tg g) (gk : GOk W g t is) (hb : PSs X a (TVS W rb)) (hp : PassesOwn (model X.prog X.w) X.A X.env X.xe := by exact PassesOwn.never) (hc : X.calm = true := by rfl) (hs : ∀ x, foldedSetIterable iter X.env x = pure x := by intro _; rfl) :
    PS X (.For tg iter a [] pos) (TVS W (sFor ri none t rb)) := z_for hp hc hi hg gk hb hs
theorem s_while {c : Expr} {a : List Stmt} {rc : RunT} {rb : RunS} (n : Nat) (hc : PT X c (TVT W rc)) (ha : PSs X a (TVS W rb)) (hp : PassesOwn (model X.prog X.w) X.A X.env X.xe := by exact PassesOwn.never) : PS X (.While c a [] pos) (TVS W (sWhile rc rb n)) := z_while hp hc ha
/-! comprehensions -/
theorem ts_nil : PTs X [] (TVT W rYes) := ⟨fun pins s σ H Q I h => pts_nil.run pins s σ H Q I (by
  obtain ⟨S, P, en, R, w⟩ := h
  exact w H S P .refl R)⟩
theorem sz4096 : (4096 : Nat) < sizeLine := by rw [sizeLine_eq]; decide
theorem e_lc {tg iter elt : Expr} {ifs : List Expr} {scope : Scope} {ri : RunI} {l : Option Nat} {g : TG} {t : Tg} {is : List Nat} {rt : RunT} [h1 : ShTg t is] [h2 : ShTst rt] [h3 : ShRun re] (own : List (Str × Nat)) (hNd : X.N.Nodup) (ok : BlkOk X.N X.env.scope scope own) (hi : PI X tg iter (TVI W ri l))
    (hg : ∀ (s : Shared) (H : Hp) (C : Addr) (cl : List (Str × Addr)) (fp : List Addr), PG (X.blk s H scope (compEnvC scope cl C X.env) fp) tg g) (gk : GOk W g t is)
    (ht : ∀ (s : Shared) (H : Hp) (C : Addr) (cl : List (Str × Addr)) (fp : List Addr), PTs (X.blk s H scope (compEnvC scope cl C X.env) fp) ifs (TVT W rt))
    (he : ∀ (s : Shared) (H : Hp) (C : Addr) (cl : List (Str × Addr)) (fp : List Addr), PE (X.blk s H scope (compEnvC scope cl C X.env) fp) elt (TV W re)) (his : ∀ i ∈ is, i ∈ own.map (·.2) := by decide) (hc : X.calm = true := by rfl) (hs : ∀ x, foldedSetIterable iter X.env x = pure x := by intro _; rfl) :
    PE X (.ListComp elt [⟨tg, iter, ifs, 0⟩] scope pos) (TV W (rLc ri l t rt re (own.map (·.2)))) :=
  pe_weak (pe_lc hc hNd hi ok hg ht he hs) fun σ H Q h => tv_lc gk h1.sh his h2.sh h3.sh sz4096 h
theorem s_setLc {tg iter elt : Expr} {ifs : List Expr} {scope : Scope} {ri : RunI} {l : Option Nat} {g : TG} {t : Tg} {is : List Nat} {rt : RunT} {y : Str} {py spos : Pos} [h1 : ShTg t is] [h2 : ShTst rt] [h3 : ShRun re] (i : Nat) (own : List (Str × Nat)) (hNd : X.N.Nodup) (ok : BlkOk X.N X.env.scope scope own) (hi : PI X tg iter (TVI W ri l))
    (hg : ∀ (s : Shared) (H : Hp) (C : Addr) (cl : List (Str × Addr)) (fp : List Addr), PG (X.blk s H scope (compEnvC scope cl C X.env) fp) tg g) (gk : GOk W g t is)
    (ht : ∀ (s : Shared) (H : Hp) (C : Addr) (cl : List (Str × Addr)) (fp : List Addr), PTs (X.blk s H scope (compEnvC scope cl C X.env) fp) ifs (TVT W rt))
    (he : ∀ (s : Shared) (H : Hp) (C : Addr) (cl : List (Str × Addr)) (fp : List Addr), PE (X.blk s H scope (compEnvC scope cl C X.env) fp) elt (TV W re)) (his : ∀ i ∈ is, i ∈ own.map (·.2) := by decide) (hc : X.calm = true := by rfl) (hs : ∀ x, foldedSetIterable iter X.env x = pure x := by intro _; rfl)
    (hy : X.N[i]? = some y := by rfl) (hyl : X.env.scope.names.lookup y = some .local := by rfl) (hsw : swapsWith (.ListComp elt [⟨tg, iter, ifs, 0⟩] scope pos) (some (.Name y py)) spos.line X.env = pure true := by rfl) :
    PS X (.Assign [.Name y py] (.ListComp elt [⟨tg, iter, ifs, 0⟩] scope pos) spos) (TVS W (sSet i (rLc ri l t rt re (own.map (·.2))))) :=
  ps_weak (ps_setLc hc hNd hy hyl hsw hi ok hg ht he hs) fun D σ H h => by
    have h := tvs_set h
    exact tv_lc gk h1.sh his h2.sh h3.sh sz4096 h
/-! calls -/
variable {cls : CT} {f : Addr} {fd : FuncData} {ps ks : List Str} {k : Nat} {kws : List Keyword}
/-- a call with keywords: q puts the data in the parameters' order -/
def rCallK (f : Fn) (q : List D → List D → List D) (rs rs2 : Runs) : Run := fun en => (rs en).bind fun a => (rs2 a.2).bind fun b => (T.ofOpt (onlyV a.1)).bind fun ds => (T.ofOpt (onlyV b.1)).bind fun es => (f (q ds es)).bind fun c => .ret (mkO c, b.2)
instance {fn : Fn} {q : List D → List D → List D} [h : ShRuns rs] [g : ShRuns rs2] : ShRun (rCallK fn q rs rs2) := ⟨fun en => all_seq (h.sh en) fun _ => all_seq (g.sh _) fun _ => all_of fun _ _ => all_of fun _ _ => T.all_bind (T.all_triv fun _ => LkSub.refl _)⟩
def PermOk (W : Wd) (n : Nat) (gV : List V → List V → List V) (q : List D → List D → List D) : Prop := ∀ (S : Addr → Prop) (H : Hp) vs ds ws es, DvL W S H vs ds → DvL W S H ws es → DvL W S H (gV vs ws) (q ds es)
theorem tv_callK {n : Nat} {fn : Fn} {q : List D → List D → List D} {gV : List V → List V → List V} {Q : VK} (hcl : W.cls = cls) (hq : PermOk W n gV q) (hn : ∀ en, (rs en).all fun a => (rs2 a.2).all fun b => ∀ ds es, onlyV a.1 = some ds → onlyV b.1 = some es → (q ds es).length = n) (h : TV W (rCallK fn q rs rs2) σ H Q) :
    tCallK (spR W.K cls n fn) gV E0 (TVs W rs) (TVs W rs2) σ H Q := by
  obtain ⟨S, P, en, R, w⟩ := h
  have w := T.wp_all ((T.wp_bind _ _ _).mp w) (hn en)
  refine ⟨S, P, en, R, T.wp_mono w fun r ⟨qq, len⟩ vs H1 S1 P1 e1 R1 pe => ?_⟩
  have qq := T.wp_all ((T.wp_bind _ _ _).mp qq) len
  refine ⟨S1, P1, r.2, R1, T.wp_mono qq fun r2 ⟨qq, len⟩ ws H2 S2 P2 e2 R2 pe2 => ?_⟩
  obtain ⟨ds, hds, qq⟩ := T.wp_ofOpt ((T.wp_bind _ _ _).mp qq)
  obtain ⟨es, hes, qq⟩ := T.wp_ofOpt ((T.wp_bind _ _ _).mp qq)
  have d1 := (pe.ext R1 e2).only hds
  have d2 := pe2.only hes
  have dl := hq S2 H2 vs ds ws es d1 d2
  have qq := (T.wp_bind _ _ _).mp qq
  refine ⟨dl.len.trans (len ds es hds hes), W, S2, _, rfl, hcl, R2.dr, R2.tb, R2.dom, fun w => R2.drP.1 (R2.sp _ w), R2.drP.2.sub R2.sp, dl, T.wp_mono qq fun c qq v H' S' P' e ro ok => ?_⟩
  obtain ⟨e3, R3, ok3⟩ := R2.call e ro ok
  exact qq v H' S' _ ((e1.trans e2).trans e3) R3 ok3
theorem k_nil : PK X [] (TVs W rNil) := ⟨fun pos pins s σ H Q I h => pk_nil.run pos pins s σ H Q I (tvs_nil h)⟩
theorem k_cons {nm : Option Str} {kpos : Pos} (ha : PE X e (TV W ra)) (hr : PK X kws (TVs W rs)) : PK X (⟨nm, e, kpos⟩ :: kws) (TVs W (rCons ra rs)) := ⟨fun pos pins s σ H Q I h => (pk_cons ha hr).run pos pins s σ H Q I (tvs_cons h)⟩
variable {g : List Value → List Value → List Value} {gV : List V → List V → List V}
/-- keywords alone -/
theorem e_callK0 {n : Nat} {fn : Fn} {q : List D → List D → List D} (F : FnG X.prog X.w X.K X.mg X.base CX0 k f fd ps (spR X.K cls n fn)) (hcl : W.cls = cls) (hK : X.K = W.K) (hr : Room k X.A) (hg : NoG X.A) (hm : X.mg x = some (.ref f)) (hk : PySem.W.keepIn X.K (.ref f) = true) (hb : KBinds X.K fd ps ks g gV) (hq : PermOk W n gV q) (ha : PK X kws (TVs W rs2))
    (hn : ∀ en : En, (rs2 en).all fun b => ∀ ds, onlyV b.1 = some ds → (q [] ds).length = n) (hall : (backToKw pos (keywordEach kws X.env)).all (·.1.isSome) = true := by rfl) (hks : (backToKw pos (keywordEach kws X.env)).filterMap (·.1) = ks := by rfl) (gl : Gl X x := by rfl) (hdb : (x == ("__debug__" : Str)) = false := by decide)
    (hpl : ((backTo pos (starEach [] X.env)).any (·.1) || (backToKw pos (keywordEach kws X.env)).any (·.1.isNone)) = false := by rfl) : PE X (.Call (.Name x p) [] kws pos) (TV W (rCallK fn q rNil rs2)) :=
  pe_weak (pe_callGK0 F hr hg gl hm hk hb pass0 ha hall hks hdb hpl) fun σ H Q h => by
    rw [hK]
    have h := tv_callK (gV := gV) (rs := rNil) (n := n) hcl hq (fun en => show (rs2 en).all _ from T.all_mono (hn en) fun b hb ds es hd he => by cases hd; exact hb es he) h
    obtain ⟨S, P, en, R, w⟩ := h
    exact w [] H S P .refl R trivial
/-! methods of lists, texts -/
theorem m_join (hK : X.K = W.K) (ho : PE X o (TV W ra)) (he : PE X e (TV W re)) (hb : attributeBase o "join" X.env (eval o X.env) = eval o X.env := by rfl) (hf : few e X pos := by rfl) (hl : (apos.endLine == pos.line) = true := by rfl) (hs : starEach [e] X.env = (false, eval e X.env) :: starEach [] X.env := by rfl) (hp : (backTo pos (starEach [] X.env)).any (·.1) = false := by rfl) :
    PE X (.Call (.Attribute o "join" apos) [e] [] pos) (TV W (rStrM ra (rCons re rNil) fJoin)) := x_join hK ho he hb hf hl hs hp
theorem m_app (i : Nat) (hK : X.K = W.K) (ho : PE X o (tVar i)) (he : PE X e (TV W re)) (hb : attributeBase o "append" X.env (eval o X.env) = eval o X.env := by rfl) (hf : few e X pos := by rfl) (hl : (apos.endLine == pos.line) = true := by rfl) (hs : starEach [e] X.env = (false, eval e X.env) :: starEach [] X.env := by rfl) (hp : (backTo pos (starEach [] X.env)).any (·.1) = false := by rfl) :
    PE X (.Call (.Attribute o "append" apos) [e] [] pos) (TV W (rApp i re)) := x_app hK ho he hb hf hl hs hp
theorem m_popI (i : Nat) (hK : X.K = W.K) (ho : PE X o (tVar i)) (he : PE X e (TV W re)) (hb : attributeBase o "pop" X.env (eval o X.env) = eval o X.env := by rfl) (hf : few e X pos := by rfl) (hl : (apos.endLine == pos.line) = true := by rfl) (hs : starEach [e] X.env = (false, eval e X.env) :: starEach [] X.env := by rfl) (hp : (backTo pos (starEach [] X.env)).any (·.1) = false := by rfl) :
    PE X (.Call (.Attribute o "pop" apos) [e] [] pos) (TV W (rPopI i re)) := x_popI hK ho he hb hf hl hs hp
end
end Sx
set_option Elab.async false
set_option linter.all false
set_option maxRecDepth 100000
set_option maxHeartbeats 4000000
set_option autoImplicit false
namespace Sx
open PySem L2 PyProof.Rows
/-! ### how many different texts -/
def mStep (σ : List Str) (v : Str) : List Str := if σ.any (· == v) then σ else σ ++ [v]
def mets (xs : List Str) : List Str := xs.foldl mStep []
theorem mets_snoc (xs : List Str) (v : Str) : mets (xs ++ [v]) = mStep (mets xs) v := by
  unfold mets
  rw [List.foldl_append]
  rfl
theorem mStep_any (σ : List Str) (v k : Str) : (mStep σ v).any (· == k) = (σ.any (· == k) || decide (k = v)) := by
  unfold mStep
  split
  · rename_i h
    by_cases e : k = v
    · subst e; simp [h]
    · simp [e]
  · rw [List.any_append]
    by_cases e : k = v
    · subst e; simp
    · have : (v == k) = false := beq_eq_false_iff_ne.mpr fun z => e z.symm
      simp [this, e]
theorem mStep_len (σ : List Str) (v : Str) : (mStep σ v).length = if σ.any (· == v) then σ.length else σ.length + 1 := by
  unfold mStep; split <;> simp
theorem foldl_mStep_le : ∀ (xs σ : List Str), (xs.foldl mStep σ).length ≤ σ.length + xs.length
  | [], σ => Nat.le_refl _
  | x :: xs, σ => by
    have h := foldl_mStep_le xs (mStep σ x)
    have : (mStep σ x).length ≤ σ.length + 1 := by rw [mStep_len]; split <;> omega
    show (xs.foldl mStep (mStep σ x)).length ≤ _
    rw [List.length_cons]
    omega
theorem mets_le (xs : List Str) : (mets xs).length ≤ xs.length := by simpa [mets] using foldl_mStep_le xs []
section
variable {Pr : Program} {w : World} {A : Around} {R : Result → Shared → Prop} {I : Addr} {fp wr : List Addr} {G : Array GenState → Array GenState → Prop} {n : Nat} {Pv : Nat → Value → Prop} {St : Nat → Shared → Prop}
theorem take_snoc {xs : List Str} {i : Nat} (h : i < xs.length) : xs.take (i + 1) = xs.take i ++ [xs.getD i Str.empty] := by
  rw [List.take_succ, List.getElem?_eq_getElem h, List.getD_eq_getElem?_getD, List.getElem?_eq_getElem h]
  rfl
/-- the filling of a set by texts -/
theorem fillS (T : WalksS Pr w A.in1 I fp wr G n Pv St) (D0 : Addr) (out : D0 ∉ fp) (xs : List Str) (len : xs.length = n) (few : n < 4096) (at' : ∀ i v, Pv i v → ∃ t, v = .str (xs.getD i Str.empty) t) :
    ∀ (m i : Nat) (s : Shared), n - i = m → i ≤ n → St i s → s.heap.SetOf (strKind Pr w) D0 (fun y => (mets (xs.take i)).any (· == y)) (mets (xs.take i)).length →
      (∀ s2, Moved (D0 :: wr) G s s2 → s2.heap.SetOf (strKind Pr w) D0 (fun y => (mets xs).any (· == y)) (mets xs).length → R (.ok (.ret .none)) s2) → codeAny (model Pr w) A (.builtin "set.update.loop" ⟨[.ref D0, .ref I], []⟩) R s := by
  have notw : D0 ∉ wr := fun h => out (T.sub _ h)
  have keep : ∀ {s s2 : Shared} {S : Str → Bool} {c : Nat}, Moved wr G s s2 → s.heap.SetOf (strKind Pr w) D0 S c → s2.heap.SetOf (strKind Pr w) D0 S c := fun mv ⟨o, es, ep, tb, ho, z⟩ => ⟨o, es, ep, tb, mv.heap D0 _ notw ho, z⟩
  intro m
  induction m with
  | zero =>
    intro i s hm hi st hS fin
    obtain rfl : i = n := by omega
    refine codeAny_builtin (PyProof.Rows.F.entry_set_update_loop) ?_
    rw [Around.under_plainId PyProof.Rows.F.plain_set_update_loop]
    refine wpAny_bind (m := pyNext (.ref I)) (T.done s _ _ st fun s2 mv => wpAny_pure (fin s2 (mv.mono fun b hb => List.mem_cons_of_mem _ hb) ?_))
    rw [← len, List.take_length] at hS
    exact keep mv hS
  | succ m ih =>
    intro i s hm hi st hS fin
    have hlt : i < n := by omega
    refine codeAny_builtin (PyProof.Rows.F.entry_set_update_loop) ?_
    rw [Around.under_plainId PyProof.Rows.F.plain_set_update_loop]
    refine wpAny_bind (m := pyNext (.ref I)) (T.item i s _ _ hlt st fun v s2 hv st2 mv => ?_)
    obtain ⟨t, rfl⟩ := at' i v hv
    have room : (mets (xs.take i)).length + 1 < scanBound := by
      have h1 := mets_le (xs.take i)
      rw [List.length_take] at h1
      unfold scanBound
      omega
    have hS2 := keep mv hS
    refine wpAny_bind (m := holding _ (setAdd D0 _)) (wpAny_holding ?_)
    unfold setAdd
    refine wpAny_holding (wpAny_bind ((strKind Pr w).pyHash (k := xs.getD i Str.empty) (strKind_is _ _ _ _) (wpAny_setAddHashed_of (knd := strKind Pr w) (s := { s2 with toks := s2.toks + 1 }) (strKind_is _ _ _ _) rfl hS2 room fun h2 sb new => ?_)))
    have new2 : h2.SetOf (strKind Pr w) D0 (fun y => (mets (xs.take (i + 1))).any (· == y)) (mets (xs.take (i + 1))).length :=
      SetOf_congr new (fun y => by rw [take_snoc (by omega), mets_snoc, mStep_any]) (by rw [take_snoc (by omega), mets_snoc, mStep_len])
    refine wpAny_pure ⟨plainId_quiet PyProof.Rows.F.plain_set_update_loop _, ih (i + 1) _ (by omega) hlt (T.frame _ s2 _ _ st2 (Nat.le_succ _) fun b hb o e => (sb.2 b fun z => out (z ▸ hb)).trans e) new2 fun s3 mv3 S3 => fin s3 (Moved.trans T.gtrans ((mv.mono fun b hb => List.mem_cons_of_mem _ hb).then_heap (Nat.le_succ _) fun b o hb e => (sb.2 b fun z => hb (z ▸ List.mem_cons_self)).trans e) mv3) S3⟩
end
section
variable {Pr : Program} {w : World} {A : Around} {E : Value → Shared → Prop} {s : Shared}
/-- a list or a tuple, as set() reads it -/
structure Seqy (ty it : String) : Prop where
  s1 : isSubtype (.type ty) (.type "set") = pure false
  s2 : isSubtype (.type ty) (.type "frozenset") = pure false
  s3 : (Value.type ty == Value.type "dict") = false
theorem seqy_l : Seqy "list" "list_iterator" := ⟨PySem.F.sub_list_set, PySem.F.sub_list_frozenset, by decide⟩
theorem seqy_t : Seqy "tuple" "tuple_iterator" := ⟨PySem.F.sub_tuple_set, PySem.F.sub_tuple_frozenset, by decide⟩
abbrev fresh (led : Bool) : Obj := { cls := .type "set", dict := none, data := .set #[] 0 (.fresh 0 0 led) }
set_option maxHeartbeats 3200000 in
theorem call_setS {ty it : String} (Y : Seqy ty it) {l : Addr} {o : Obj} {items : Array Value} {nn : Nat} {xs : List Str} {Q : Value → Shared → Prop} (hh : A.handled = none) (ho : s.heap.get? l = some o) (hc : o.cls = .type ty) (hd : o.data = .seq items nn) (hi : StrsAre items.toList xs) (few : xs.length < 4096)
    (hit : ∀ {B : Around} {E' : Value → Shared → Prop} {z : Shared} {Q' : Value → Shared → Prop}, z.heap.get? l = some o → Q' (.ref z.heap.objs.size) { z with heap := z.heap.push { cls := .type it, data := .fields #[.ref l, .int 0 0] } } → wpAny (model Pr w) B (pyIter (.ref l)) Q' E' z)
    (walk : ∀ {B : Around}, B.handled = none → ∀ I : Addr, l ≠ I → ∃ St : Nat → Heap → Prop, PySem.Walks Pr w B I [I, l] [I] items.size (fun i v => items[i]? = some v) St ∧ ∀ h : Heap, h.get? I = some { cls := .type it, data := .fields #[.ref l, .int 0 0] } → h.get? l = some o → St 0 h)
    (q : ∀ (h2 : Heap) (tk : Nat), h2.SetOf (strKind Pr w) s.heap.objs.size (fun y => (mets xs).any (· == y)) (mets xs).length → (∀ b u, b < s.heap.objs.size → s.heap.get? b = some u → h2.get? b = some u) → Q (.ref s.heap.objs.size) { s with heap := h2, toks := tk }) :
    wpAny (model Pr w) A (call (.type "set") [.ref l]) Q E s := by
  have ⟨c0, tl0, mro0⟩ := PySem.F.called_set.mro
  have made0 := PySem.F.called_set.made
  have sub0 := PySem.F.called_set.sub
  have nt0 := PySem.F.called_set.notType
  have cc0 := PySem.F.called_set.canCreate
  have tc0 := PySem.F.typeCall_set_1 (.ref l)
  refine wpAny_call (codeAny_of_tree (show wpAny _ _ (callAny (.type "set") _) _ _ _ from wpAny_pure ⟨Code.quiet_builtin _ (by decide +kernel), codeAny_builtin PySem.F.entry_type_call ?_⟩))
  rw [Around.under_plain (weight_type_call_type "set" [Value.ref l] []) rfl]
  repeat (any_goals (first | wp_step | assumption))
  refine codeAny_mono (code_set_new_1 (.ref l) (E := E) (Q₁ := fun u z => ∃ led : Bool, u = .ref s.heap.objs.size ∧ z = { s with heap := s.heap.push (fresh led) }) fun led => ⟨led, rfl, rfl⟩) fun r z hr => ?_
  match r, hr with
  | .error e, hr => exact hr
  | .ok (.ret u), ⟨led, e1, e2⟩ =>
    subst e1; subst e2
    have g0 : (s.heap.push (fresh led)).get? s.heap.objs.size = some (fresh led) := Heap.get?_push_size _ rfl
    have ty0 : Shared.TypeIs { s with heap := s.heap.push (fresh led) } (.ref s.heap.objs.size) "set" := ⟨_, g0, rfl⟩
    have lk0 := PySem.F.called_set.init.lookup
    have bd0 := PySem.F.called_set.init.bind (.ref s.heap.objs.size)
    repeat (any_goals (first | wp_step | assumption))
    refine codeAny_mono (codeAny_call_builtin (R := wants (fun r z => r = .none ∧ ∃ h2 tk, z = { s with heap := h2, toks := tk } ∧ h2.SetOf (strKind Pr w) s.heap.objs.size (fun y => (mets xs).any (· == y)) (mets xs).length ∧ (∀ b u, b < s.heap.objs.size → s.heap.get? b = some u → h2.get? b = some u)) E)
      PySem.F.called_set.init.plain PySem.F.entry_set_init (check_set_init_1 ty0 ?_)) fun r2 z2 hr2 => ?_
    · obtain ⟨ocls, odict, odata, oslots⟩ := o
      simp only at hc hd
      subst hc; subst hd
      have gl := Heap.get?_push_of_some (fresh led) ho
      obtain ⟨y1, y2, y3⟩ := Y
      unfold Builtin.«set.__init__» noKeywords Builtin.Frozenset.updateFrom
      generalize hP : pyIter = P0
      wp_walk
      subst hP
      refine hit gl (wpAny_bind (wpAny_runValue ?_))
      have lo : l < s.heap.objs.size := Heap.lt_size ho
      obtain ⟨St, W, w0⟩ := walk (B := A.in1.in1.in1) (by simp [hh]) (s.heap.push (fresh led)).objs.size (by rw [Heap.size_push]; exact Nat.ne_of_lt (Nat.lt_succ_of_lt lo))
      refine fillS W.toS s.heap.objs.size (fun z => by
        rcases List.mem_cons.mp z with z | z
        · rw [Heap.size_push] at z; exact Nat.ne_of_lt (Nat.lt_succ_self _) z
        · exact Nat.ne_of_gt lo (List.mem_singleton.mp z)) xs (by rw [← StrsAre.len_eq hi, Array.length_toList]) (by rw [← Array.length_toList, StrsAre.len_eq hi]; exact few) (fun i v hv => SS.strs_at hi i v (by rw [Array.getElem?_toList]; exact hv)) (items.size - 0) 0 _ (by omega) (Nat.zero_le _) (w0 _ (Heap.get?_push_size _ rfl) (Heap.get?_push_of_some _ gl)) ?_ ?_
      · exact SetOf_congr ((setObjOf_fresh (knd := strKind Pr w) led).setOf (Heap.get?_push_of_some _ g0) (by unfold scanBound; omega)) (fun _ => rfl) rfl
      · rintro ⟨h2, g2, d2, tk2, os2⟩ mv S2
        obtain rfl : g2 = s.gens := mv.gens
        obtain rfl : d2 = s.drawn := mv.drawn
        obtain rfl : os2 = s.os := mv.os
        show wpAny _ _ _ _ _ _
        refine wpAny_pure (show wpAny _ _ (ret Value.none) _ _ _ from wpAny_pure ⟨rfl, h2, tk2, rfl, S2, fun b u hb e => mv.heap b u ?_ (Heap.get?_push_of_some _ (Heap.get?_push_of_some _ e))⟩)
        intro z
        rcases List.mem_cons.mp z with z | z
        · exact Nat.ne_of_lt hb z
        · rw [List.mem_singleton.mp z, Heap.size_push] at hb
          exact Nat.lt_irrefl _ (Nat.lt_trans hb (Nat.lt_succ_self _))
    · match r2, hr2 with
      | .error e, hr2 => exact hr2
      | .ok (.ret u), ⟨e1, h2, tk, e2, S2, k2⟩ =>
        subst e1; subst e2
        repeat (any_goals (first | wp_step | assumption))
        exact q _ _ S2 k2
end
end Sx
set_option Elab.async false
set_option linter.all false
set_option maxRecDepth 100000
set_option maxHeartbeats 4000000
set_option autoImplicit false
namespace Sx
open PySem L2 PyProof.Rows
section
variable {X : Cx} {W : Wd} {ra : Run}
def rLenS (K : PySem.W.Frag) : V → Hp → VK → Prop := fun x H Q => ∃ l, ∃ xs : List Str, x = .ref l ∧ (SqL K H l (xs.map V.str) ∨ SqT K H l (xs.map V.str)) ∧ xs.length < 4000 ∧ Q (.int (mets xs).length) H
def fLenS (d : D) : Option (Bool × D) := match d with
  | .lst ds => (strsOf ds).bind fun xs => if xs.length < 4000 then some (false, .int (mets xs).length) else none
  | .tup ds => (strsOf ds).bind fun xs => if xs.length < 4000 then some (false, .int (mets xs).length) else none
  | _ => none
theorem p_lenS : Pure1 W (rLenS W.K) fLenS := by
  intro S H x d c Q hd hx h r
  unfold fLenS at h
  split at h
  · obtain ⟨xs, hs, h⟩ := Option.bind_eq_some_iff.mp h
    split at h
    · cases h
      cases hx with
      | lst ha dl => 
        obtain rfl := dl.strs hs
        exact ⟨_, _, rfl, .inl (SqL.of ha), by assumption, r.int hd⟩
    · cases h
  · obtain ⟨xs, hs, h⟩ := Option.bind_eq_some_iff.mp h
    split at h
    · cases h
      cases hx with
      | tup ha dl => 
        obtain rfl := dl.strs hs
        exact ⟨_, _, rfl, .inr (tup_sq ha), by assumption, r.int hd⟩
    · cases h
  · cases h
theorem pe_lenS {a : Expr} {ta : TE} {p p2 q pos : Pos} (hc : X.calm = true) (hg : Gl X "len") (hm : X.mg "len" = none) (hg2 : Gl X "set") (hm2 : X.mg "set" = none) (ha : PE X a ta) (na : starEach [a] X.env = (false, eval a X.env) :: starEach [] X.env) :
    PE X (.Call (.Name "len" p) [.Call (.Name "set" p2) [a] [] q] [] pos) (fun σ H Q => ta σ H fun x H1 => rLenS X.K x H1 Q) := by
  refine ⟨fun pins s σ H Q I h => Call_ (ld_blt I hg hm boot_len (callWith_builtin1 (args_cons (Call_ (ld_blt I hg2 hm2 boot_set (callWith_type1 (args_cons (thn (ha.run pins s σ H _ I h) fun v s1 ⟨x, H1, I1, r1, l, xs, ex, hq, few, q1⟩ => args_nil ?_) na) na rfl))) rfl) rfl rfl))⟩
  subst ex
  cases r1
  have fin : ∀ (h2 : Heap) (tk : Nat), h2.SetOf (strKind X.prog X.w) s1.heap.objs.size (fun y => (mets xs).any (· == y)) (mets xs).length → (∀ b u, b < s1.heap.objs.size → s1.heap.get? b = some u → h2.get? b = some u) →
      wpAny (model X.prog X.w) X.A (spliced (backTo pos (starEach [] X.env))) (fun vs s₂ => wpAny (model X.prog X.w) X.A (call (.builtin "len") (Value.ref s1.heap.objs.size :: vs)) (EP X pins σ Q) X.xe s₂) X.xe { s1 with heap := h2, toks := tk } := fun h2 tk ⟨o, es, ep, t, ho, hex, hd, _, _, _, hf, hn⟩ k2 => by
    have I2 : Inv X pins σ H1 { s1 with heap := h2, toks := tk } := I1.kept fun b o e => k2 b o (Heap.lt_size e) e
    have := mets_le xs
    exact args_nil (call_len_set ho hex hd hf (by rw [hn]; omega) ⟨.int (mets xs).length, H1, I2.tok _, ⟨_, by rw [hn]⟩, q1⟩)
  rcases hq with hq | hq
  · obtain ⟨its, r, pl, hz⟩ := I1.list hq
    obtain ⟨o, ho, hc', nn, hd⟩ := pl.isList
    refine call_setS seqy_l (I1.ok.hd hc) ho hc' hd (by simpa using strsAre_of r) (by omega) (fun {B E' z Q'} g q' => wpAny_pyIter_list ⟨o, g, hc', nn, hd⟩ q') (fun {B} hB I hne => ⟨_, PySem.Walks.list hB I l hne its.toArray, fun h g1 g2 => ⟨⟨_, g1, rfl, rfl⟩, ⟨o, g2, hc', nn, hd⟩⟩⟩) fin
  · obtain ⟨its, r, ⟨o, ho, hc', nn, hd⟩, hz⟩ := I1.tuple hq
    refine call_setS seqy_t (I1.ok.hd hc) ho hc' hd (by simpa using strsAre_of r) (by omega) (fun {B E' z Q'} g q' => wpAny_pyIter_tuple ⟨o, g, hc', nn, hd⟩ q') (fun {B} hB I hne => ⟨_, PySem.Walks.tuple hB I l hne its.toArray, fun h g1 g2 => ⟨⟨_, g1, rfl, rfl⟩, ⟨o, g2, hc', nn, hd⟩⟩⟩) fin
theorem e_lenS {a : Expr} {p p2 q pos : Pos} (hK : X.K = W.K) (hm : X.mg "len" = none) (hm2 : X.mg "set" = none) (ha : PE X a (TV W ra)) (hc : X.calm = true := by rfl) (hg : Gl X "len" := by rfl) (hg2 : Gl X "set" := by rfl) (na : starEach [a] X.env = (false, eval a X.env) :: starEach [] X.env := by rfl) :
    PE X (.Call (.Name "len" p) [.Call (.Name "set" p2) [a] [] q] [] pos) (TV W (run1 ra fLenS)) := pe_weak (pe_lenS hc hg hm hg2 hm2 ha na) fun σ H Q h => by rw [hK]; exact tv1 p_lenS h
end
end Sx
set_option Elab.async false
set_option linter.all false
set_option maxRecDepth 100000
set_option maxHeartbeats 4000000
set_option autoImplicit false
namespace Sx
open PySem L2 PyProof.Rows
/-! ### repr -/
section
variable {X : Cx} {W : Wd}
end
end Sx
set_option Elab.async false
set_option linter.all false
set_option maxRecDepth 100000
set_option maxHeartbeats 4000000
set_option autoImplicit false
namespace Sx
open PySem L2
theorem bt_len : bootBuiltins "len" = some (.builtin "len") := by decide +kernel
theorem bt_all : bootBuiltins "all" = some (.builtin "all") := by decide +kernel
theorem bt_isinstance : bootBuiltins "isinstance" = some (.builtin "isinstance") := by decide +kernel
theorem bt_sorted : bootBuiltins "sorted" = some (.builtin "sorted") := by decide +kernel
theorem bt_min : bootBuiltins "min" = some (.builtin "min") := by decide +kernel
theorem bt_abs : bootBuiltins "abs" = some (.builtin "abs") := by decide +kernel
theorem bt_list : bootBuiltins "list" = some (.type "list") := by decide +kernel
theorem bt_tuple : bootBuiltins "tuple" = some (.type "tuple") := by decide +kernel
theorem bt_dict : bootBuiltins "dict" = some (.type "dict") := by decide +kernel
theorem bt_int : bootBuiltins "int" = some (.type "int") := by decide +kernel
theorem bt_str : bootBuiltins "str" = some (.type "str") := by decide +kernel
theorem bt_bool : bootBuiltins "bool" = some (.type "bool") := by decide +kernel
/-- two keywords, exchanged -/
def sw10 {α : Type} (us ws : List α) : List α := match us, ws with
  | [], [a, b] => [b, a]
  | _, _ => []
theorem pm10 {W : Wd} : PermOk W 2 sw10 sw10 := by
  intro S H vs ds ws es h g
  cases h with
  | cons => exact .nil
  | nil =>
    cases g with
    | nil => exact .nil
    | cons t1 d1 r =>
      cases r with
      | nil => exact .nil
      | cons t2 d2 r2 =>
        cases r2 with
        | nil => exact .cons t2 d2 (.cons t1 d1 .nil)
        | cons => exact .nil
section
variable {K : PySem.W.Frag}
end
end Sx
set_option Elab.async false
set_option linter.all false
set_option maxRecDepth 100000
set_option maxHeartbeats 4000000
set_option autoImplicit false
namespace Sx
open PySem L2
/-! ### the draws -/
def f_w_take : Fn := fun ds => match ds with
  | [.drw, .int n] => if 0 < n ∧ n ≤ 1073741824 then .ch n.toNat fun i => .ret (false, .int i) else .fail
  | _ => .fail
section
variable (K : PySem.W.Frag)
def tIxc (i : Nat) (k : Int) : TE := tOp (rIxL K) (tVar i) (tC (.int k))
def tInt (t : TE) : TE := tCB (fun xs H Q => (∃ i, xs = [V.int i] ∧ Q (V.int i) H) ∨ ∃ k, xs = [V.bl k] ∧ Q (V.int (if k = true then 1 else 0)) H) (tCons t tNil)
def tLenQ (t : TE) : TE := tCB (fun xs H Q => ∃ p ys, xs = [V.ref p] ∧ (SqL K H p ys ∨ SqT K H p ys) ∧ Q (V.int ys.length) H) (tCons t tNil)
def tAdd2 (a b : TE) : TE := tOp (rI0 fun i j => V.int (i + j)) a b
def tMod2 (a b : TE) : TE := tOp (rI (fun _ j => 0 < j) fun i j => V.int (i % j)) a b
def tMul2 (a b : TE) : TE := tOp (rI CMul fun i j => V.int (i * j)) a b
def tTake1 : TS := tIfS (tTest (tOp (rI0 fun i j => V.bl (decide (j ≤ i))) (tVar 4) (tOp (rI CPow fun i j => V.int (i ^ j.toNat)) (tC (V.int 10)) (tC (V.int 18)))))
    (tSeq (tAsg (tOp (rI CDivW fun i j => V.int (i / j)) (tVar 4) (tVar 1)) (gSub (tVar 2) (tVar 3) rSetL)) (tRet (tMod2 (tInt (tVar 4)) (tVar 1)))) tNext
def tTake2 : TS := tSeq (tAsg (tAdd2 (tIxc K 0 1) (tC (.int 1))) (gSub (tVar 0) (tC (.int 1)) rSetL)) (tSeq (tAsg (tAdd2 (tIxc K 0 3) (tC (.int 1))) (gSub (tVar 0) (tC (.int 3)) rSetL))
    (tSeq (tAsg (tMod2 (tInt (tAdd2 (tAdd2 (tAdd2 (tMul2 (tIxc K 0 2) (tC (.int 48271))) (tVar 4)) (tMul2 (tC (.int 7919)) (tIxc K 0 3))) (tC (.int 12345)))) (tC (.int 2147483647))) (gSub (tVar 0) (tC (.int 2)) rSetL))
      (tRet (tMod2 (tOp (rI CDiv fun i j => V.int (i / j)) (tMod2 (tInt (tMul2 (tIxc K 0 2) (tIxc K 0 2))) (tC (.int 2147483629))) (tC (.int 16))) (tVar 1)))))
def tTake : TS := tSeq (tAsg (tIxc K 0 0) (gName 2)) (tSeq (tAsg (tMod2 (tInt (tIxc K 0 1)) (tLenQ K (tVar 2))) (gName 3)) (tSeq (tAsg (tOp (rIxL K) (tVar 2) (tVar 3)) (gName 4)) (tSeq tTake1 (tTake2 K))))
end
theorem ixc {K : PySem.W.Frag} {σ : St} {H : Hp} {Q : VK} {i : Nat} {a : Addr} {xs : List V} {k : Int} {v : V} (h : σ[i]? = some (some (.ref a))) (ha : H a = some (.lst xs)) (hv : atI xs k = some v) (q : Q v H) : tIxc K i k σ H Q :=
  ⟨_, h, a, xs, k, v, rfl, rfl, SqL.of ha, hv, q⟩
theorem ix_nat {α : Type} {xs : List α} {k : Int} {v : α} (h0 : 0 ≤ k) (h : xs[k.toNat]? = some v) : atI xs k = some v ∧ ixN xs.length k = some k.toNat := by
  have hl := (List.getElem?_eq_some_iff.mp h).1
  have e : ixN xs.length k = some k.toNat := by
    unfold ixN
    rw [if_pos h0, if_pos (by omega)]
  exact ⟨by unfold atI; rw [e]; exact h, e⟩
theorem take_sem {K : PySem.W.Frag} {cls : CT} {vs : List V} {H : Hp} {Q : VK} {E : XK} {N : List Str} (hN : N.length = 5) (h : spR K cls 2 f_w_take vs H Q E) : tTake K { nx := fun _ H' => Q .non H', rt := Q } (L2.start N vs) H := by
  obtain ⟨hl, W, S, ds, hK, hc, dr, tb, dom, n1, n2, dl, wpq⟩ := h
  -- the arguments
  have key : ∃ n : Int, ds = [.drw, .int n] ∧ 0 < n ∧ n ≤ 1073741824 ∧ ∀ i : Nat, (i : Int) < n → ∀ v H' S' P', Ext S (Pall W H) H S' P' H' → RetOk W S' P' H' → ROk W S' P' H' v (false, .int i) → Q v H' := by
    unfold f_w_take at wpq
    split at wpq
    · rename_i n
      split at wpq
      · rename_i hn
        exact ⟨n, rfl, hn.1, hn.2, fun i hi => wpq i (by omega)⟩
      · exact wpq.elim
    · exact wpq.elim
  obtain ⟨n, rfl, hn0, hn1, q⟩ := key
  obtain ⟨v0, v1, rfl, d0, d1⟩ : ∃ v0 v1, vs = [v0, v1] ∧ Dv W S H v0 .drw ∧ Dv W S H v1 (.int n) := by
    cases dl with
    | cons t a r =>
      cases r with
      | cons t2 b r2 => cases r2; exact ⟨_, _, rfl, a, b⟩
  cases d0
  cases d1
  obtain ⟨ne, ns, i, j, k, hda, hdb, hns, hlen, hpos⟩ := dr
  have st : L2.start N [V.ref W.da, V.int n] = [some (.ref W.da), some (.int n), none, none, none] := by
    unfold L2.start
    rw [hN]
    rfl
  rw [st]
  -- the end
  have fin : ∀ (H' : Hp) (ns' : List Int) (a b c r : Int), H' W.da = some (.lst [.ref W.db, .int a, .int b, .int c]) → H' W.db = some (.lst (ns'.map V.int)) → ns'.length = ns.length → (∀ m ∈ ns', 0 ≤ m) → (∀ x, x ≠ W.da → x ≠ W.db → H' x = H x) → 0 ≤ r → r < n → Q (.int r) H' := by
    intro H' ns' a b c r g1 g2 g3 g4 g5 g6 g7
    have er : r = ((r.toNat : Nat) : Int) := by omega
    rw [er]
    have inP : ∀ x, S x → Pall W H x := fun x s => ⟨dom x s, fun z => n1 (z ▸ s), n2.nb s⟩
    have tb' : TbS W S H' := ⟨fun x hx => by
      obtain ⟨ps, t1, t2, t3⟩ := tb.1 x hx
      refine ⟨ps, by rw [g5 x.1 (fun z => by rw [z, hda] at t1; cases t1) (fun z => by rw [z, hdb] at t1; cases t1)]; exact t1, t2, fun pos cv hcv => ?_⟩
      obtain ⟨cc, e1, e2⟩ := t3 pos cv hcv
      refine ⟨cc, e1, by rw [g5 cc (fun z => by rw [z, hda] at e2; cases e2) (fun z => by rw [z, hdb] at e2; cases e2)]; exact e2⟩, fun x xs e => tb.2 x xs (by rw [← g5 x (fun z => by rw [z, g1] at e; cases e) (fun z => by rw [z, g2] at e; cases e)]; exact e)⟩
    refine q r.toNat (by omega) _ H' S (Pall W H) ⟨fun _ h => h, fun _ h => h, fun x hx => g5 x hx.2.1 hx.2.2.1, fun _ h => .inl h⟩ ⟨inP, fun x s => ?_, ⟨ne, ns', a, b, c, g1, g2, fun z => ?_, by omega, g4⟩, ⟨fun z => z.2.1 rfl, ⟨fun z => z.2.2.1 rfl, fun x hx z => z.2.2.2 x hx rfl⟩⟩, tb'⟩ ⟨.int _, fun _ => trivial, fun z => by cases z⟩
    · have p := inP x s
      rw [g5 x p.2.1 p.2.2.1]
      exact dom x s
    · subst z
      exact hns (List.eq_nil_of_length_eq_zero g3.symm)
  have hlen0 : 0 < ns.length := List.length_pos_iff.mpr hns
  have ml : (ns.map V.int).length = ns.length := List.length_map ..
  generalize hm : i % (((ns.map V.int).length : Nat) : Int) = m
  have hm0 : 0 ≤ m := by rw [← hm]; exact Int.emod_nonneg _ (by omega)
  have hm1 : m < ns.length := by rw [← hm]; have := Int.emod_lt_of_pos i (b := (((ns.map V.int).length : Nat) : Int)) (by omega); omega
  obtain ⟨x, hx⟩ : ∃ x, ns[m.toNat]? = some x := ⟨_, List.getElem?_eq_getElem (by omega)⟩
  have hx0 : 0 ≤ x := hpos x (List.mem_of_getElem? hx)
  have hxv : (ns.map V.int)[m.toNat]? = some (.int x) := by rw [List.getElem?_map, hx]; rfl
  obtain ⟨at1, ix1⟩ := ix_nat hm0 hxv
  refine ixc (i := 0) rfl hda (v := .ref W.db) rfl ?_
  refine ixc (i := 0) rfl hda (v := .int i) rfl (.inl ⟨i, rfl, ?_⟩)
  refine ⟨.ref W.db, rfl, W.db, ns.map V.int, rfl, .inl (SqL.of hdb), i, _, rfl, rfl, by omega, ?_⟩
  show gName 3 (.int (i % (((ns.map V.int).length : Nat) : Int))) _ H _
  rw [hm]
  refine ⟨.ref W.db, rfl, .int m, rfl, W.db, _, m, .int x, rfl, rfl, SqL.of hdb, at1, ?_⟩
  refine ⟨.int x, rfl, 10, 18, rfl, rfl, ⟨by decide, by decide, by decide⟩, x, _, rfl, rfl, _, rfl, ?_⟩
  generalize decide ((10 : Int) ^ (18 : Int).toNat ≤ x) = big
  cases big
  case true =>
    refine ⟨.int x, rfl, .int n, rfl, x, n, rfl, rfl, ⟨hn0, ?_⟩, .ref W.db, rfl, .int m, rfl, W.db, _, m, m.toNat, rfl, rfl, hdb, ix1, ?_⟩
    · have : n.natAbs < 2 ^ 31 := by omega
      have := PySem.Flt.log2_lt_of (n := n.natAbs) (k := 31) (by decide) this
      omega
    · refine ⟨.int x, rfl, .inl ⟨x, rfl, .int n, rfl, x, n, rfl, rfl, hn0, ?_⟩⟩
      refine fin _ (ns.set m.toNat (x / n)) i j k (x % n) (by rw [upd_ne ne]; exact hda) (by rw [upd_same, List.map_set]) (List.length_set ..) (fun y hy => ?_) (fun y h1 h2 => upd_ne h2) (Int.emod_nonneg _ (by omega)) (Int.emod_lt_of_pos _ hn0)
      rcases List.mem_or_eq_of_mem_set hy with hy | rfl
      · exact hpos y hy
      · exact Int.ediv_nonneg hx0 (by omega)
  case false =>
    refine ixc (i := 0) rfl hda (v := .int i) rfl ⟨i, 1, rfl, rfl, .ref W.da, rfl, W.da, _, 1, 1, rfl, rfl, hda, rfl, ?_⟩
    refine ixc (i := 0) rfl upd_same (v := .int k) rfl ⟨k, 1, rfl, rfl, .ref W.da, rfl, W.da, _, 3, 3, rfl, rfl, upd_same, rfl, ?_⟩
    refine ixc (i := 0) rfl upd_same (v := .int j) rfl ⟨j, 48271, rfl, rfl, .inr ⟨by decide, by decide⟩, .int x, rfl, _, x, rfl, rfl, ?_⟩
    refine ixc (i := 0) rfl upd_same (v := .int (k + 1)) rfl ⟨7919, k + 1, rfl, rfl, .inl ⟨by decide, by decide⟩, _, _, rfl, rfl, _, _, rfl, rfl, .inl ⟨_, rfl, _, 2147483647, rfl, rfl, (by decide : (0 : Int) < 2147483647), .ref W.da, rfl, W.da, _, 2, 2, rfl, rfl, upd_same, rfl, ?_⟩⟩
    generalize hz : (j * 48271 + x + 7919 * (k + 1) + 12345) % (2147483647 : Int) = z
    have z0 : 0 ≤ z := by rw [← hz]; exact Int.emod_nonneg _ (by decide)
    have z1 : z < 2147483647 := by rw [← hz]; exact Int.emod_lt_of_pos _ (by decide)
    have hz' : atI ((([V.ref W.db, V.int i, V.int j, V.int k].set 1 (.int (i + 1))).set 3 (.int (k + 1))).set 2 (.int ((j * 48271 + x + 7919 * (k + 1) + 12345) % (2147483647 : Int)))) 2 = some (V.int z) := by rw [← hz]; rfl
    refine ixc (i := 0) rfl upd_same (v := .int z) hz' (ixc (i := 0) rfl upd_same (v := .int z) hz' ⟨z, z, rfl, rfl, .inl ⟨by omega, by omega⟩, .inl ⟨_, rfl, _, 2147483629, rfl, rfl, (by decide : (0 : Int) < 2147483629), _, 16, rfl, rfl, ⟨by decide, by decide⟩, .int n, rfl, _, n, rfl, rfl, hn0, ?_⟩⟩)
    refine fin _ ns (i + 1) z (k + 1) _ (by rw [← hz]; exact upd_same) ?_ rfl hpos (fun y h1 h2 => by rw [upd_ne h1, upd_ne h1, upd_ne h1]) (Int.emod_nonneg _ (by omega)) (Int.emod_lt_of_pos _ hn0)
    rw [upd_ne ne.symm, upd_ne ne.symm, upd_ne ne.symm]
    exact hdb
end Sx
set_option Elab.async false
set_option linter.all false
set_option maxRecDepth 100000
set_option maxHeartbeats 4000000
set_option autoImplicit false
namespace Sx
open PySem L2
/-- the promise of the draws' begin -/
def spBegin (K : PySem.W.Frag) : Sp := fun vs H Q _ => ∃ (a : Addr) (ns : List Int), vs = [V.ref a] ∧ SqL K H a (ns.map V.int) ∧ ns.length ≤ 63 ∧
  ∀ (da db : Addr) (ms : List Int) (H' : Hp), H da = none → H db = none → da ≠ db → ms ≠ [] → ms.length ≤ 100 → (∀ m ∈ ms, 0 ≤ m) → (∀ b o, H b = some o → H' b = some o) → H' da = some (.lst [.ref db, .int 0, .int 1, .int 0]) → H' db = some (.lst (ms.map V.int)) → Q (.ref da) H'
def tBegin (K : PySem.W.Frag) : TS := tRet (tLst (tCons (tOrT K (tLc (iList K (tSl (rSlL K) (tVar 0) tNoPart (tPart (tC (V.int 63))))) (gName 1) tYes (tCB (fun xs H Q => ∃ i, xs = [V.int i] ∧ Q (V.int (if i < 0 then -i else i)) H) (tCons (tVar 1) tNil)) [1])
  (tLst (tCons (tC (V.int 7)) tNil))) (tCons (tC (V.int 0)) (tCons (tC (V.int 1)) (tCons (tC (V.int 0)) tNil)))))
def iabs (i : Int) : Int := if i < 0 then -i else i
theorem iabs_nn (i : Int) : 0 ≤ iabs i := by unfold iabs; split <;> omega
theorem small_line {n : Nat} (h : n ≤ 4096) : n < sizeLine := by rw [sizeLine_eq]; omega
theorem begin_sem {K : PySem.W.Frag} {vs : List V} {H : Hp} {Q : VK} {E : XK} {N : List Str} (hN : N.length = 2) (h : spBegin K vs H Q E) : tBegin K { nx := fun _ H' => Q .non H', rt := Q } (L2.start N vs) H := by
  obtain ⟨a, ns, rfl, ha, hlen, k⟩ := h
  have st : L2.start N [V.ref a] = [some (.ref a), none] := by unfold L2.start; rw [hN]; rfl
  rw [st]
  obtain ⟨zs, hzs, hz⟩ : ∃ zs : List Int, cutV (ns.map V.int) none (some 63) = zs.map V.int ∧ zs.length ≤ 63 := by
    refine ⟨(ns.drop (HT.sIx (ns.map V.int).length 0 none)).take (HT.sIx (ns.map V.int).length (ns.map V.int).length (some 63) - HT.sIx (ns.map V.int).length 0 none), ?_, ?_⟩
    · unfold cutV
      rw [List.map_take, List.map_drop]
    · rw [List.length_take, List.length_drop]; omega
  -- the last step, for a list of numbers at b
  have fin : ∀ (b : Addr) (ms : List Int) (H2 : Hp), H b = none → ms ≠ [] → ms.length ≤ 100 → (∀ m ∈ ms, 0 ≤ m) → (∀ c o, H c = some o → H2 c = some o) → H2 b = some (.lst (ms.map V.int)) →
      [V.ref b, .int 0, .int 1, .int 0].length ≤ sizeLine ∧ ∀ p, H2 p = none → Q (.ref p) (upd H2 p (.lst [V.ref b, .int 0, .int 1, .int 0])) := by
    intro b ms H2 hb h1 h2 h3 h4 h5
    refine ⟨Nat.le_of_lt (small_line (by simp)), fun p hp => ?_⟩
    have np : p ≠ b := fun z => by rw [z, h5] at hp; cases hp
    refine k p b ms _ ?_ hb np h1 h2 h3 (fun c o e => ?_) upd_same (by rw [upd_ne np.symm]; exact h5)
    · cases e : H p with
      | none => rfl
      | some o => rw [h4 p o e] at hp; cases hp
    · rw [upd_ne (ne_of_none (h4 c o e) hp)]; exact h4 c o e
  refine ⟨.ref a, rfl, 63, rfl, a, _, rfl, ha, fun p hp => ⟨p, rfl, ⟨_, SqL.of upd_same⟩, fun Da hD => ?_⟩⟩
  rw [hzs]
  rw [hzs] at hD
  have npD : p ≠ Da := fun z => by rw [z, upd_same] at hD; cases hD
  have hD0 : H Da = none := by rw [upd_ne npD.symm] at hD; exact hD
  refine lc_list (K := K) (a := p) (xs := zs.map V.int) (fun i G => G p = some (.lst (zs.map V.int)) ∧ (∀ c o, H c = some o → G c = some o) ∧ G Da = some (.lst (((zs.take i).map iabs).map V.int)))
    ⟨by rw [upd_ne npD]; exact upd_same, fun c o e => by rw [upd_ne (ne_of_none e hD0), upd_ne (ne_of_none e hp)]; exact e, upd_same⟩ (fun i G _ g => SqL.of g.1) ?_ ?_
  · rintro i x G hx ⟨g1, g2, g3⟩
    obtain ⟨y, hy, rfl⟩ : ∃ y, zs[i]? = some y ∧ x = V.int y := by
      rw [List.getElem?_map] at hx
      cases e : zs[i]? with
      | none => rw [e] at hx; cases hx
      | some y => rw [e] at hx; exact ⟨y, rfl, (Option.some.inj hx).symm⟩
    refine ⟨rfl, V.int y, rfl, y, rfl, ((zs.take i).map iabs).map V.int, g3, small_line (by simp; omega), by rw [upd_ne npD]; exact g1, fun c o e => by rw [upd_ne (ne_of_none e hD0)]; exact g2 c o e, ?_⟩
    rw [upd_same, List.take_succ, hy]
    simp [iabs]
  · rintro G ⟨g1, g2, g3⟩
    rw [List.length_map, List.take_length] at g3
    refine ⟨!(zs.map iabs).isEmpty, .inl ⟨_, SqL.of g3, by simp⟩, ?_⟩
    cases zs with
    | nil => 
      refine ⟨Nat.le_of_lt (small_line (by simp)), fun q hq => ?_⟩
      have nq : H q = none := by
        cases e : H q with
        | none => rfl
        | some o => rw [g2 q o e] at hq; cases hq
      exact fin q [7] _ nq (by simp) (by simp) (fun m hm => by simp at hm; omega) (fun c o e => by rw [upd_ne (ne_of_none e nq)]; exact g2 c o e) upd_same
    | cons z zs =>
      exact fin Da ((z :: zs).map iabs) G hD0 (by simp) (by simp at hz ⊢; omega) (fun m hm => by obtain ⟨y, _, rfl⟩ := List.mem_map.mp hm; exact iabs_nn y) g2 g3
/-! ### the law -/
def lawEn (n m : Nat) : En := [some (.fz, .scr m), some (.fz, .drw)] ++ List.replicate (n - 2) none
def Yes (r : Fl × En) : Prop := ∃ f, flOf r.1 = some (f, .bl true)
def spLaw (K : PySem.W.Frag) (tb : List (Addr × Str)) (n : Nat) (run : RunS) : Sp := fun vs H Q _ => ∃ (a : Addr) (ns : List Int), vs = [V.ref a] ∧ SqL K H a (ns.map V.int) ∧ LamX.Tabs tb H ∧ (∀ x ∈ tb, x.1 ≠ a) ∧ ns.length ≤ 63 ∧ (run (lawEn n ns.length)).wp Yes ∧ ∀ H', Q (.bl true) H'
def TVX (K : PySem.W.Frag) (cls : CT) (run : RunS) : TS := fun D σ H => ∃ W : Wd, W.K = K ∧ W.cls = cls ∧ TVS W run D σ H
theorem law_rest {X : Cx} {sts : List Stmt} {K : PySem.W.Frag} {cls : CT} {run : RunS} (h : ∀ W : Wd, W.K = K → W.cls = cls → PSs X sts (TVS W run)) : PSs X sts (TVX K cls run) :=
  ⟨fun pins s σ H D I ⟨W, hK, hc, q⟩ => (h W hK hc).run pins s σ H D I q⟩
theorem law_sem {K : PySem.W.Frag} {cls : CT} {run : RunS} {vs : List V} {H : Hp} {Q : VK} {E : XK} {N : List Str} (hN : 2 ≤ N.length) (h : spLaw K cls.tb N.length run vs H Q E) :
    tSeq (tAsg (tCall (spBegin K) [] E0 (tCons (tVar 0) tNil)) (gName 1)) (TVX K cls run) { nx := fun _ H' => Q .non H', rt := Q } (L2.start N vs) H := by
  obtain ⟨a, ns, rfl, ha, tb, tna, hlen, hr, hq⟩ := h
  have st : L2.start N [V.ref a] = [some (.ref a), none] ++ List.replicate (N.length - 2) none := by
    unfold L2.start
    obtain ⟨m, e⟩ : ∃ m, N.length = m + 2 := ⟨N.length - 2, by omega⟩
    rw [e]
    show [some (V.ref a)] ++ List.replicate (m + 1) none = _
    rw [List.replicate_succ]
    rfl
  rw [st]
  refine ⟨.ref a, rfl, a, ns, rfl, ha, hlen, fun da db ms H' h1 h2 h3 h4 h5 h6 h7 h8 h9 => ?_⟩
  refine ⟨⟨K, da, db, cls⟩, rfl, rfl, fun b => (b = a ∧ ∃ o, H b = some o) ∨ ∃ xs, H' b = some (.tup xs), fun b => (b = a ∧ ∃ o, H b = some o) ∨ ∃ xs, H' b = some (.tup xs), lawEn N.length ns.length, ?_, ?_⟩
  · have scr : Dv ⟨K, da, db, cls⟩ (fun b => (b = a ∧ ∃ o, H b = some o) ∨ ∃ xs, H' b = some (.tup xs)) H' (.ref a) (.scr ns.length) := by
      have e : ns.length = (ns.map V.int).length := (List.length_map ..).symm
      rw [e]
      rcases ha with ha | ha
      · obtain ⟨o, ho⟩ : ∃ o, H a = some o := by
          rcases ha with ha | ⟨o, ha⟩
          · exact ⟨_, ha⟩
          · exact ⟨_, ha⟩
        exact .scr (.inl ⟨.inl ⟨rfl, o, ho⟩, SqL.at (by rw [ho]; exact h7 a o ho) (.inl ha)⟩)
      · exact .scr (.inr fun G => .inr ha)
    refine ⟨fun _ h => h, fun b z => z.elim (fun ⟨_, o, e⟩ => ⟨o, h7 b o e⟩) fun ⟨xs, e⟩ => ⟨_, e⟩, fun i f d e => ?_, fun i j f g d d' v e1 e2 e3 => ?_, ?_, ⟨h3, ms, 0, 1, 0, h8, h9, h4, h5, h6⟩, ⟨(fun z => z.elim (fun ⟨_, o, e⟩ => by rw [h1] at e; cases e) fun ⟨xs, e⟩ => by rw [h8] at e; cases e), ⟨(fun z => z.elim (fun ⟨_, o, e⟩ => by rw [h2] at e; cases e) fun ⟨xs, e⟩ => by rw [h9] at e; cases e), fun x hx z => z.elim (fun ⟨e, _⟩ => ?_) fun ⟨xs, e⟩ => by obtain ⟨ps, t1, _⟩ := (tb.ext h7) x hx; rw [t1] at e; cases e⟩⟩, ⟨tb.ext h7, fun b xs e => .inr ⟨xs, e⟩⟩⟩
    · match i with
      | 0 => cases e; exact ⟨.ref a, rfl, scr, fun _ => trivial, fun z => absurd rfl z⟩
      | 1 => cases e; exact ⟨.ref da, rfl, .drw, fun _ => trivial, fun z => absurd rfl z⟩
      | i + 2 => 
        have : (List.replicate (N.length - 2) (none : Slot))[i]? = some (some (f, d)) := e
        have := List.eq_of_mem_replicate (List.mem_of_getElem? this)
        cases this
    · match i with
      | 0 => cases e1; exact absurd rfl e3
      | 1 => cases e1; exact absurd rfl e3
      | i + 2 => 
        have : (List.replicate (N.length - 2) (none : Slot))[i]? = some (some (f, d)) := e1
        have := List.eq_of_mem_replicate (List.mem_of_getElem? this)
        cases this
    · simp [lawEn]
    · exact tna x hx e
  · refine T.wp_mono hr fun r ⟨f, e⟩ => ?_
    obtain ⟨fl, en⟩ := r
    cases fl with
    | nx => cases e
    | bk => cases e
    | ct => cases e
    | rt c =>
      cases e
      intro v H2 S2 P2 _ _ ok
      rw [dv_bl ok.1]
      exact hq _
theorem law_ok {Pr : Program} {w : World} {K : PySem.W.Frag} {mg : Str → Option Value} {base : Heap} {cls : CT} {x qual : Str} {st s0 : Stmt} {rest : List Stmt} {f : Addr} {fd : FuncData} {N : List Str} {k : Nat} {run : RunS} {p : Str} (F : Fun K x qual st f fd) (Sc : FnScope N [p] (defScope st)) (hN : 2 ≤ N.length) (hs : defBody st = s0 :: rest)
    (h0 : ∀ (cdv : Value) (A : Around) (outer : List PySem.Env) (s : Shared) (H : Hp) (E : XK), Room k (A.deeper (PyProof.Rows.envOfC qual (defScope st) s.heap.objs.size f cdv)) → NoG (A.deeper (PyProof.Rows.envOfC qual (defScope st) s.heap.objs.size f cdv)) → PS (cxOf CX0 Pr w K mg base N qual (defScope st) f cdv A outer s H E).nox s0 (tAsg (tCall (spBegin K) [] E0 (tCons (tVar 0) tNil)) (gName 1)))
    (hb : ∀ (cdv : Value) (A : Around) (outer : List PySem.Env) (s : Shared) (H : Hp) (E : XK), Room k (A.deeper (PyProof.Rows.envOfC qual (defScope st) s.heap.objs.size f cdv)) → NoG (A.deeper (PyProof.Rows.envOfC qual (defScope st) s.heap.objs.size f cdv)) → ∀ W : Wd, W.K = K → W.cls = cls → PSs (cxOf CX0 Pr w K mg base N qual (defScope st) f cdv A outer s H E).nox rest (TVS W run)) :
    FnG Pr w K mg base CX0 (k + 1) f fd [p] (spLaw K cls.tb N.length run) := by
  refine fnG_of F Sc (fun vs H Q E h => by obtain ⟨a, ns, rfl, _⟩ := h; rfl) fun cdv A outer s H vs Q E hr hg h => ?_
  refine ⟨_, ?_, law_sem (cls := cls) hN h⟩
  rw [hs]
  exact (pss_cons (h0 cdv A outer s H E hr hg) (law_rest (hb cdv A outer s H E hr hg))).nox
def headS (st : Stmt) : Stmt := (defBody st).headD (.Pass ⟨0, 0, 0, 0⟩)
def restS (st : Stmt) : List Stmt := (defBody st).tail
end Sx
set_option Elab.async false
set_option linter.all false
set_option maxRecDepth 100000
set_option maxHeartbeats 4000000
set_option autoImplicit false
namespace Sx
open PySem L2
/-! three keywords, the last first -/
section
variable {K : PySem.W.Frag}
end
theorem kit_self {K : PySem.W.Frag} (a : Addr) : PySem.W.kitOne K (.ref a) (.ref a) = some true := by
  unfold PySem.W.kitOne
  rw [if_pos (show (Value.ref a == Value.ref a) = true from by simp)]
end Sx
set_option Elab.async false
set_option linter.all false
set_option maxRecDepth 100000
set_option maxHeartbeats 4000000
set_option autoImplicit false
namespace Sx
open PySem L2
/-! ### plain data: whole numbers, texts, lists and tuples of them -/
mutual
def sp : PyData → Bool
  | .int _ => true
  | .str _ => true
  | .list xs => spL xs
  | .tuple xs => spL xs
  | _ => false
def spL : List PyData → Bool
  | [] => true
  | x :: xs => sp x && spL xs
end
mutual
theorem eqv_sp : ∀ (p q : PyData), sp p = true → sp q = true → (PyData.eqv p q = true ↔ p = q)
  | .int i, .int j, _, _ => by simp [PyData.eqv]
  | .str i, .str j, _, _ => by simp [PyData.eqv]
  | .list xs, .list ys, h, g => by
    rw [sp] at h g
    rw [PyData.eqv, PyData.list.injEq]
    exact eqvL_sp xs ys h g
  | .tuple xs, .tuple ys, h, g => by
    rw [sp] at h g
    rw [PyData.eqv, PyData.tuple.injEq]
    exact eqvL_sp xs ys h g
  | .int _, .str _, _, _ => by simp [PyData.eqv]
  | .int _, .list _, _, _ => by simp [PyData.eqv]
  | .int _, .tuple _, _, _ => by simp [PyData.eqv]
  | .str _, .int _, _, _ => by simp [PyData.eqv]
  | .str _, .list _, _, _ => by simp [PyData.eqv]
  | .str _, .tuple _, _, _ => by simp [PyData.eqv]
  | .list _, .int _, _, _ => by simp [PyData.eqv]
  | .list _, .str _, _, _ => by simp [PyData.eqv]
  | .list _, .tuple _, _, _ => by simp [PyData.eqv]
  | .tuple _, .int _, _, _ => by simp [PyData.eqv]
  | .tuple _, .str _, _, _ => by simp [PyData.eqv]
  | .tuple _, .list _, _, _ => by simp [PyData.eqv]
  | .none, _, h, _ => by simp [sp] at h
  | .bool _, _, h, _ => by simp [sp] at h
  | .dict _, _, h, _ => by simp [sp] at h
  | .int _, .none, _, h => by simp [sp] at h
  | .int _, .bool _, _, h => by simp [sp] at h
  | .int _, .dict _, _, h => by simp [sp] at h
  | .str _, .none, _, h => by simp [sp] at h
  | .str _, .bool _, _, h => by simp [sp] at h
  | .str _, .dict _, _, h => by simp [sp] at h
  | .list _, .none, _, h => by simp [sp] at h
  | .list _, .bool _, _, h => by simp [sp] at h
  | .list _, .dict _, _, h => by simp [sp] at h
  | .tuple _, .none, _, h => by simp [sp] at h
  | .tuple _, .bool _, _, h => by simp [sp] at h
  | .tuple _, .dict _, _, h => by simp [sp] at h
theorem eqvL_sp : ∀ (xs ys : List PyData), spL xs = true → spL ys = true → (PyData.eqvAll xs ys = true ↔ xs = ys)
  | [], [], _, _ => by simp [PyData.eqvAll]
  | x :: xs, y :: ys, h, g => by
    rw [spL, Bool.and_eq_true] at h g
    rw [PyData.eqvAll, Bool.and_eq_true, List.cons.injEq, eqv_sp x y h.1 g.1, eqvL_sp xs ys h.2 g.2]
  | [], _ :: _, _, _ => by simp [PyData.eqvAll]
  | _ :: _, [], _, _ => by simp [PyData.eqvAll]
end
mutual
theorem py_inj : ∀ (x y : D) (p : PyData), py x = some p → py y = some p → x = y
  | .non, y, p, h, g => by
    cases h
    cases y <;> simp [py, Option.bind_eq_some_iff] at g <;> rfl
  | .bl b, y, p, h, g => by
    cases h
    cases y <;> simp [py, Option.bind_eq_some_iff] at g <;> simp [g]
  | .int b, y, p, h, g => by
    cases h
    cases y <;> simp [py, Option.bind_eq_some_iff] at g <;> simp [g]
  | .str b, y, p, h, g => by
    cases h
    cases y <;> simp [py, Option.bind_eq_some_iff] at g <;> simp [g]
  | .lst xs, y, p, h, g => by
    rw [py] at h
    obtain ⟨ps, h1, h2⟩ := Option.bind_eq_some_iff.mp h
    cases h2
    cases y <;> simp [py, Option.bind_eq_some_iff] at g
    rw [pyL_inj xs _ ps h1 g]
  | .tup xs, y, p, h, g => by
    rw [py] at h
    obtain ⟨ps, h1, h2⟩ := Option.bind_eq_some_iff.mp h
    cases h2
    cases y <;> simp [py, Option.bind_eq_some_iff] at g
    rw [pyL_inj xs _ ps h1 g]
  | .dK _, _, _, h, _ => by simp [py] at h
  | .dT _, _, _, h, _ => by simp [py] at h
  | .obj _ _, _, _, h, _ => by simp [py] at h
  | .scr _, _, _, h, _ => by simp [py] at h
  | .drw, _, _, h, _ => by simp [py] at h
  | .ty _, _, _, h, _ => by simp [py] at h
  | .cl _, _, _, h, _ => by simp [py] at h
theorem pyL_inj : ∀ (xs ys : List D) (ps : List PyData), pyL xs = some ps → pyL ys = some ps → xs = ys
  | [], ys, ps, h, g => by
    cases h
    cases ys with
    | nil => rfl
    | cons y ys => rw [pyL] at g; simp [Option.bind_eq_some_iff] at g
  | x :: xs, ys, ps, h, g => by
    rw [pyL] at h
    obtain ⟨p, h1, h⟩ := Option.bind_eq_some_iff.mp h
    obtain ⟨qs, h2, h⟩ := Option.bind_eq_some_iff.mp h
    cases h
    cases ys with
    | nil => cases g
    | cons y ys =>
      rw [pyL] at g
      obtain ⟨p', g1, g⟩ := Option.bind_eq_some_iff.mp g
      obtain ⟨qs', g2, g⟩ := Option.bind_eq_some_iff.mp g
      cases g
      rw [py_inj x y p h1 g1, pyL_inj xs ys qs h2 g2]
end
/-- plain data of depth at most n -/
def Pd (n : Nat) (d : D) : Prop := ∃ p, py d = some p ∧ sp p = true ∧ p.depth ≤ n
def PdL (n : Nat) (ds : List D) : Prop := ∃ ps, pyL ds = some ps ∧ spL ps = true ∧ PyData.depthAll ps ≤ n
theorem Pd.int (i : Int) (n : Nat) : Pd n (.int i) := ⟨_, rfl, rfl, by simp [PyData.depth]⟩
theorem Pd.str (x : Str) (n : Nat) : Pd n (.str x) := ⟨_, rfl, rfl, by simp [PyData.depth]⟩
theorem PdL.of {n : Nat} : ∀ {ds : List D}, (∀ d ∈ ds, Pd n d) → PdL n ds
  | [], _ => ⟨[], rfl, rfl, by simp [PyData.depthAll]⟩
  | d :: ds, h => by
    obtain ⟨p, h1, h2, h3⟩ := h d List.mem_cons_self
    obtain ⟨ps, g1, g2, g3⟩ := PdL.of fun d hd => h d (List.mem_cons_of_mem _ hd)
    refine ⟨p :: ps, by rw [pyL, h1, g1]; rfl, by rw [spL, h2, g2]; rfl, ?_⟩
    simp only [PyData.depthAll]
    omega
theorem PdL.each {n : Nat} : ∀ {ds : List D}, PdL n ds → ∀ d ∈ ds, Pd n d
  | [], _, d, hd => by simp at hd
  | e :: ds, ⟨ps, g1, g2, g3⟩, d, hd => by
    rw [pyL] at g1
    obtain ⟨p, h1, g1⟩ := Option.bind_eq_some_iff.mp g1
    obtain ⟨qs, h2, g1⟩ := Option.bind_eq_some_iff.mp g1
    cases g1
    rw [spL, Bool.and_eq_true] at g2
    simp only [PyData.depthAll] at g3
    rcases List.mem_cons.mp hd with rfl | hd
    · exact ⟨p, h1, g2.1, by omega⟩
    · exact PdL.each ⟨qs, h2, g2.2, by omega⟩ d hd
theorem Pd.lst {n : Nat} {ds : List D} (h : ∀ d ∈ ds, Pd n d) : Pd (n + 1) (.lst ds) := by
  obtain ⟨ps, h1, h2, h3⟩ := PdL.of h
  exact ⟨.list ps, by rw [py, h1]; rfl, h2, by simp only [PyData.depth]; omega⟩
theorem Pd.tup {n : Nat} {ds : List D} (h : ∀ d ∈ ds, Pd n d) : Pd (n + 1) (.tup ds) := by
  obtain ⟨ps, h1, h2, h3⟩ := PdL.of h
  exact ⟨.tuple ps, by rw [py, h1]; rfl, h2, by simp only [PyData.depth]; omega⟩
theorem Pd.mono {n m : Nat} {d : D} (h : Pd n d) (hm : n ≤ m) : Pd m d := by
  obtain ⟨p, h1, h2, h3⟩ := h
  exact ⟨p, h1, h2, Nat.le_trans h3 hm⟩
/-! ### the rules by plain data -/
theorem eqv_pd {n m : Nat} {x y : D} {p q : PyData} (hx : py x = some p) (sx : sp p = true) (hy : py y = some q) (sy : sp q = true) : PyData.eqv p q = true ↔ x = y :=
  (eqv_sp p q sx sy).trans ⟨fun e => py_inj x y p hx (by rw [hy, e]), fun e => by subst e; exact Option.some.inj (hx.symm.trans hy)⟩
open Classical in
theorem fEq_pd {n m : Nat} {x y : D} (hx : Pd n x) (hy : Pd m y) (hn : n ≤ 60) : fEq x y = some0 (.bl (decide (x = y))) := by
  obtain ⟨p, h1, h2, h3⟩ := hx
  obtain ⟨q, g1, g2, g3⟩ := hy
  unfold fEq
  rw [h1, g1]
  show (if p.depth ≤ 60 then _ else _) = _
  rw [if_pos (by omega)]
  congr 2
  rw [Bool.eq_iff_iff, eqv_pd (n := n) (m := m) h1 h2 g1 g2, decide_eq_true_eq]
open Classical in
theorem fNe_pd {n m : Nat} {x y : D} (hx : Pd n x) (hy : Pd m y) (hn : n ≤ 60) : fNe x y = some0 (.bl (decide (x ≠ y))) := by
  obtain ⟨p, h1, h2, h3⟩ := hx
  obtain ⟨q, g1, g2, g3⟩ := hy
  unfold fNe
  rw [h1, g1]
  show (if p.depth ≤ 60 then _ else _) = _
  rw [if_pos (by omega)]
  congr 2
  rw [Bool.eq_iff_iff, decide_eq_true_eq, Bool.not_eq_true', ← Bool.not_eq_true, eqv_pd (n := n) (m := m) h1 h2 g1 g2]
open Classical in
theorem any_pd {n : Nat} {x : D} {p : PyData} (h1 : py x = some p) (h2 : sp p = true) : ∀ {ds : List D} {ps : List PyData}, pyL ds = some ps → spL ps = true → (ps.any fun z => PyData.eqv z p) = decide (x ∈ ds)
  | [], ps, g, _ => by cases g; simp
  | d :: ds, ps, g, s => by
    rw [pyL] at g
    obtain ⟨q, e1, g⟩ := Option.bind_eq_some_iff.mp g
    obtain ⟨qs, e2, g⟩ := Option.bind_eq_some_iff.mp g
    cases g
    rw [spL, Bool.and_eq_true] at s
    rw [List.any_cons, any_pd (n := n) h1 h2 e2 s.2, Bool.eq_iff_iff, Bool.or_eq_true, eqv_pd (n := n) (m := n) e1 s.1 h1 h2, decide_eq_true_eq, decide_eq_true_eq, List.mem_cons]
    exact or_congr eq_comm Iff.rfl
open Classical in
theorem fIn_lst {n m : Nat} {x : D} {ds : List D} (neg : Bool) (hx : Pd n x) (hy : ∀ d ∈ ds, Pd m d) (hn : n ≤ 60) : fInG neg x (.lst ds) = some0 (.bl (if neg then decide (x ∉ ds) else decide (x ∈ ds))) := by
  obtain ⟨p, h1, h2, h3⟩ := hx
  obtain ⟨ps, g1, g2, g3⟩ := PdL.of hy
  have : fInG neg x (.lst ds) = (py x).bind fun p => (pyL ds).bind fun ps => if p.depth ≤ 60 then some0 (.bl (if neg then !ps.any fun z => PyData.eqv z p else ps.any fun z => PyData.eqv z p)) else none := by
    unfold fInG
    cases x <;> rfl
  rw [this, h1, g1]
  show (if p.depth ≤ 60 then _ else _) = _
  rw [if_pos (by omega), any_pd (n := n) h1 h2 g1 g2]
  cases neg <;> simp
open Classical in
theorem fIn_tup {n m : Nat} {x : D} {ds : List D} (neg : Bool) (hx : Pd n x) (hy : ∀ d ∈ ds, Pd m d) (hn : n ≤ 60) : fInG neg x (.tup ds) = some0 (.bl (if neg then decide (x ∉ ds) else decide (x ∈ ds))) := by
  obtain ⟨p, h1, h2, h3⟩ := hx
  obtain ⟨ps, g1, g2, g3⟩ := PdL.of hy
  have : fInG neg x (.tup ds) = (py x).bind fun p => (pyL ds).bind fun ps => if p.depth ≤ 60 then some0 (.bl (if neg then !ps.any fun z => PyData.eqv z p else ps.any fun z => PyData.eqv z p)) else none := by
    unfold fInG
    cases x <;> rfl
  rw [this, h1, g1]
  show (if p.depth ≤ 60 then _ else _) = _
  rw [if_pos (by omega), any_pd (n := n) h1 h2 g1 g2]
  cases neg <;> simp
theorem fIn_sign {c : Nat} {z : Str} (neg : Bool) : fInG neg (.str ⟨#[c]⟩) (.str z) = some0 (.bl (if neg then !decide (c ∈ z.cps.toList) else decide (c ∈ z.cps.toList))) := rfl
theorem fLe_int (i j : Int) : fLe (.int i) (.int j) = some0 (.bl (decide (i ≤ j))) := by
  show some0 (.bl (!PySem.W.dataLt (.int j) (.int i))) = _
  rw [PySem.W.dataLt_int, ← decide_not]
  congr 2
  exact decide_eq_decide.mpr Int.not_lt
theorem fLt_int (i j : Int) : fLt (.int i) (.int j) = some0 (.bl (decide (i < j))) := by
  show some0 (.bl (PySem.W.dataLt (.int i) (.int j))) = _
  rw [PySem.W.dataLt_int]
theorem fLt_str (i j : Str) : fLt (.str i) (.str j) = some0 (.bl (decide (i.cps.toList < j.cps.toList))) := by
  show some0 (.bl (PySem.W.dataLt (.str i) (.str j))) = _
  rw [PySem.W.dataLt_str]
end Sx
set_option Elab.async false
set_option linter.all false
set_option maxRecDepth 100000
set_option maxHeartbeats 4000000
set_option autoImplicit false
namespace Sx
open PySem L2
/-! ### runs that draw nothing -/
theorem rLcL_pure {t : Tg} {rt : RunT} {re : Run} {vs : List Nat} {e0 : En} (p : D → Bool) (y : D → D) : ∀ (ds : List D) (acc : List D),
    (∀ d ∈ ds, ∃ e2 e3, t d e0 = some e2 ∧ rt e2 = .ret (p d, e3) ∧ (p d = false → wip e3 vs = e0) ∧ (p d = true → ∃ o e4, re e3 = .ret (o, e4) ∧ valO o = some (y d) ∧ wip e4 vs = e0)) →
    rLcL t rt re vs ds e0 acc = .ret (acc ++ (ds.filter p).map y, e0)
  | [], acc, _ => by simp [rLcL]
  | d :: ds, acc, h => by
    obtain ⟨e2, e3, h1, h2, h3, h4⟩ := h d List.mem_cons_self
    have ih := fun acc => rLcL_pure (t := t) (rt := rt) (re := re) (vs := vs) (e0 := e0) p y ds acc fun d hd => h d (List.mem_cons_of_mem _ hd)
    rw [rLcL, h1]
    show (rt e2).bind _ = _
    rw [h2]
    cases hp : p d with
    | false =>
      show rLcL t rt re vs ds (wip e3 vs) acc = _
      rw [h3 hp, ih, List.filter_cons, hp]
      rfl
    | true =>
      obtain ⟨o, e4, g1, g2, g3⟩ := h4 hp
      show (re e3).bind _ = _
      rw [g1]
      show (T.ofOpt (valO o)).bind _ = _
      rw [g2]
      show rLcL t rt re vs ds (wip e4 vs) (acc ++ [y d]) = _
      rw [g3, ih, List.filter_cons, hp]
      simp
theorem rLc_pure {ri : RunI} {l : Option Nat} {t : Tg} {rt : RunT} {re : Run} {vs : List Nat} {en en1 : En} {ds : List D} (p : D → Bool) (y : D → D) (hi : ri en = .ret (ds, en1)) (hl : ds.length ≤ 4096)
    (h : ∀ d ∈ ds, ∃ e2 e3, t d (wip en1 vs) = some e2 ∧ rt e2 = .ret (p d, e3) ∧ (p d = false → wip e3 vs = wip en1 vs) ∧ (p d = true → ∃ o e4, re e3 = .ret (o, e4) ∧ valO o = some (y d) ∧ wip e4 vs = wip en1 vs)) :
    rLc ri l t rt re vs en = .ret (.fr (.lst ((ds.filter p).map y)), unl l (back (wip en1 vs) en1 vs)) := by
  unfold rLc
  rw [hi]
  show (if ds.length ≤ 4096 then _ else _) = _
  rw [if_pos hl, rLcL_pure p y ds [] h]
  rfl
theorem rLcL_map {α : Type} {g : α → D} {t : Tg} {rt : RunT} {re : Run} {vs : List Nat} {e0 : En} (p : α → Bool) (y : α → D) : ∀ (xs : List α) (acc : List D),
    (∀ d ∈ xs, ∃ e2 e3, t (g d) e0 = some e2 ∧ rt e2 = .ret (p d, e3) ∧ (p d = false → wip e3 vs = e0) ∧ (p d = true → ∃ o e4, re e3 = .ret (o, e4) ∧ valO o = some (y d) ∧ wip e4 vs = e0)) →
    rLcL t rt re vs (xs.map g) e0 acc = .ret (acc ++ (xs.filter p).map y, e0)
  | [], acc, _ => by simp [rLcL]
  | d :: ds, acc, h => by
    obtain ⟨e2, e3, h1, h2, h3, h4⟩ := h d List.mem_cons_self
    have ih := fun acc => rLcL_map (g := g) (t := t) (rt := rt) (re := re) (vs := vs) (e0 := e0) p y ds acc fun d hd => h d (List.mem_cons_of_mem _ hd)
    rw [List.map_cons, rLcL, h1]
    show (rt e2).bind _ = _
    rw [h2]
    cases hp : p d with
    | false =>
      show rLcL t rt re vs (ds.map g) (wip e3 vs) acc = _
      rw [h3 hp, ih, List.filter_cons, hp]
      rfl
    | true =>
      obtain ⟨o, e4, g1, g2, g3⟩ := h4 hp
      show (re e3).bind _ = _
      rw [g1]
      show (T.ofOpt (valO o)).bind _ = _
      rw [g2]
      show rLcL t rt re vs (ds.map g) (wip e4 vs) (acc ++ [y d]) = _
      rw [g3, ih, List.filter_cons, hp]
      simp
theorem rLc_map {α : Type} {g : α → D} {ri : RunI} {l : Option Nat} {t : Tg} {rt : RunT} {re : Run} {vs : List Nat} {en en1 : En} {xs : List α} (p : α → Bool) (y : α → D) (hi : ri en = .ret (xs.map g, en1)) (hl : xs.length ≤ 4096)
    (h : ∀ d ∈ xs, ∃ e2 e3, t (g d) (wip en1 vs) = some e2 ∧ rt e2 = .ret (p d, e3) ∧ (p d = false → wip e3 vs = wip en1 vs) ∧ (p d = true → ∃ o e4, re e3 = .ret (o, e4) ∧ valO o = some (y d) ∧ wip e4 vs = wip en1 vs)) :
    rLc ri l t rt re vs en = .ret (.fr (.lst ((xs.filter p).map y)), unl l (back (wip en1 vs) en1 vs)) := by
  unfold rLc
  rw [hi]
  show (if (xs.map g).length ≤ 4096 then _ else _) = _
  rw [if_pos (by rw [List.length_map]; exact hl), rLcL_map p y xs [] h]
  rfl
end Sx
set_option Elab.async false
set_option linter.all false
set_option maxRecDepth 100000
set_option maxHeartbeats 4000000
set_option autoImplicit false
namespace Sx
open PySem L2
/-! ### runs that draw: one step each -/
section
variable {en e1 : En} {ra rb : Run} {rs : Runs} {a b : RunS} {f : Fn} {i n : Nat}
theorem wp_fn {run : RunS} {ds : List D} {Q : Bool × D → Prop} (h : (run (en0 n ds)).wp fun r => ∃ c, flOf r.1 = some c ∧ Q c) : (runFn n run ds).wp Q :=
  (T.wp_bind _ _ _).mpr (T.wp_mono h fun r ⟨c, e, q⟩ => by rw [e]; exact q)
theorem wp_seq {Q : Fl × En → Prop} (h : (a en).wp fun r => (∃ e, r = (.nx, e) ∧ (b e).wp Q) ∨ (r.1 ≠ .nx ∧ Q r)) : (sSeq a b en).wp Q :=
  (T.wp_bind _ _ _).mpr (T.wp_mono h fun r hr => by
    rcases hr with ⟨e, rfl, q⟩ | ⟨ne, q⟩
    · exact q
    · obtain ⟨fl, e⟩ := r
      cases fl with
      | nx => exact absurd rfl ne
      | bk => exact q
      | ct => exact q
      | rt c => exact q)
theorem wp_set {Q : Fl × En → Prop} (h : (ra en).wp fun x => ∃ e, putO i x = some e ∧ Q (.nx, e)) : (sSet i ra en).wp Q :=
  (T.wp_bind _ _ _).mpr (T.wp_mono h fun r ⟨e, h1, q⟩ => by rw [h1]; exact q)
theorem wp_ret {Q : Fl × En → Prop} (h : (ra en).wp fun x => ∃ c, retO x.1 = some c ∧ Q (.rt c, x.2)) : (sRet ra en).wp Q :=
  (T.wp_bind _ _ _).mpr (T.wp_mono h fun r ⟨e, h1, q⟩ => by rw [h1]; exact q)
theorem wp_cons {Q : List Op × En → Prop} (h : (ra en).wp fun x => (rs x.2).wp fun y => Q (x.1.fz :: y.1, y.2)) : (rCons ra rs en).wp Q :=
  (T.wp_bind _ _ _).mpr (T.wp_mono h fun r q => (T.wp_bind _ _ _).mpr q)
theorem wp_call {Q : Op × En → Prop} (h : (rs en).wp fun x => ∃ ds, onlyV x.1 = some ds ∧ (f ds).wp fun c => Q (mkO c, x.2)) : (rCall f rs en).wp Q :=
  (T.wp_bind _ _ _).mpr (T.wp_mono h fun r ⟨ds, h1, q⟩ => by
    show ((T.ofOpt (onlyV r.1)).bind _).wp Q
    rw [h1]
    show ((f ds).bind fun c => T.ret (mkO c, r.2)).wp Q
    exact (T.wp_bind (f ds) (fun c => T.ret (mkO c, r.2)) Q).mpr q)
theorem wp_eq {α : Type} {t : T α} {x : α} {Q : α → Prop} (h : t = .ret x) (q : Q x) : t.wp Q := by rw [h]; exact q
end
end Sx
set_option Elab.async false
set_option linter.all false
set_option maxRecDepth 100000
set_option maxHeartbeats 4000000
set_option autoImplicit false
namespace Sx
open PySem L2
/-! ### a call that is lent what names own: its result is plain, and nothing of it stays -/
def flat : D → Bool
  | .non => true
  | .bl _ => true
  | .int _ => true
  | .str _ => true
  | _ => false
def rLend (f : Fn) (rs : Runs) : Run := fun en => (rs en).bind fun a => (T.ofOpt (frcs a.2 a.1)).bind fun ds => (f ds).bind fun c => if flat c.2 then .ret (.v c.2, a.2) else .fail
section
variable {W : Wd} {S P S' P' : Addr → Prop} {en : En} {σ : St} {H H' : Hp} {X : Cx} {v : V} {c : Bool × D} {d : D}
theorem flat_tin (h : flat d = true) (dv : Dv W S H v d) : Dz W S' H' v d := by
  cases dv <;> first | cases h | skip
  · exact ⟨trivial, .non⟩
  · exact ⟨trivial, .bl _⟩
  · exact ⟨trivial, .int _⟩
  · exact ⟨trivial, .str _⟩
/-- behind what keeps all but the draws and the tables; new tuples are shared -/
theorem Rel.widen (R : Rel W S P en σ H) (kO : ∀ a o, a ≠ W.da → NB W a → H a = some o → H' a = some o) (dr : DrawOk W H') (tb : LamX.Tabs W.tb H') :
    ∃ S3 P3, Ext S P H S3 P3 H' ∧ Rel W S3 P3 en σ H' := by
  have kP : ∀ a, P a → H' a = H a := fun a h => by
    obtain ⟨o, q⟩ := R.pd a h
    rw [q]
    exact kO a o (fun z => R.drP.1 (z ▸ h)) (R.drP.2.nb h) q
  have db := R.dr.at
  have no : ∀ {p : Addr} {o : HO}, H p = some o → ¬ (H p = none ∧ ∃ xs, H' p = some (.tup xs)) := fun e h => by rw [h.1] at e; cases e
  refine ⟨fun a => S a ∨ (H a = none ∧ ∃ xs, H' a = some (.tup xs)), fun a => P a ∨ (H a = none ∧ ∃ xs, H' a = some (.tup xs)), ⟨fun _ h => .inl h, fun _ h => .inl h, kP, fun a h => h.imp id fun h p => by obtain ⟨o, z⟩ := R.pd a p; exact no z h⟩, ⟨fun a h => h.imp (R.sp a) id, fun a h => h.elim (fun h => by obtain ⟨o, q⟩ := R.pd a h; exact ⟨o, (kP a h).trans q⟩) fun h => by obtain ⟨_, xs, z⟩ := h; exact ⟨_, z⟩, fun i f d q => ?_, R.inj, R.len, dr, ⟨fun w => w.elim R.drP.1 fun w => ?_, ⟨fun w => w.elim R.drP.2.1 fun w => ?_, fun x hx w => w.elim (R.drP.2.2 x hx) fun w => ?_⟩⟩, ⟨tb, fun a xs z => ?_⟩⟩⟩
  · obtain ⟨v, hv, dv, t, ow⟩ := R.slot i f d q
    refine ⟨v, hv, dv.mono (fun _ h => .inl h) (fun a h => kP a (R.sp a h)) ?_, fun z => (t z).mono fun _ h => .inl h, fun z => ?_⟩
    · by_cases hf : f = .fz
      · exact (t hf).mono fun a h => kP a (R.sp a h)
      · obtain ⟨p, o, ev, _, _, _, h1, h2, h3⟩ := ow hf
        subst ev
        have : H' p = H p := by rw [kO p o h1 h2 h3, h3]
        cases d <;> first | exact trivial | exact this
    · obtain ⟨p, o, ev, hs, hq, hl, h1, h2, h3⟩ := ow z
      exact ⟨p, o, ev, fun w => w.elim hs (no h3), fun y w => w.elim (hq y) (no h3), fun y => .inl (hl y), h1, h2, kO p o h1 h2 h3⟩
  · obtain ⟨⟨o, z⟩, _⟩ := db
    exact no z w
  · obtain ⟨_, o, z⟩ := db
    exact no z w
  · obtain ⟨ps, z, _⟩ := R.tb.1 x hx
    exact no z w
  · rcases q : H a with _ | o
    · exact .inr ⟨q, xs, z⟩
    · have h : H' a = some o := by
        obtain ⟨ne, ns, i, j, k, h1, h2, _⟩ := dr
        refine kO a o (fun y => ?_) ⟨fun y => ?_, fun x hx y => ?_⟩ q
        · rw [y, h1] at z; cases z
        · rw [y, h2] at z; cases z
        · obtain ⟨ps, t1, _⟩ := tb x hx
          rw [y, t1] at z; cases z
      exact .inl (R.tb.2 a xs (by rw [q, ← h, z]))
/-- behind such a call all is as it was -/
theorem Rel.lent {S2 : Addr → Prop} (R : Rel W S P en σ H) (e : Ext S2 (Pall W H) H S' P' H') (ro : RetOk W S' P' H') :
    ∃ S3 P3, Ext S P H S3 P3 H' ∧ Rel W S3 P3 en σ H' :=
  R.widen (fun a o n1 n2 h => by rw [e.h a ⟨⟨o, h⟩, n1, n2⟩]; exact h) ro.dr ro.tb.1
/-- what is lent, and what is frozen -/
def lentS (W : Wd) (S : Addr → Prop) (H : Hp) : Addr → Prop := fun a => S a ∨ (a ≠ W.da ∧ NB W a ∧ ∃ o, H a = some o)
theorem Pend.lent {o : Op} (R : Rel W S P en σ H) (h : Pend W S σ H v o) (q : frc en o = some d) : Dz W (lentS W S H) H v d := by
  have dv := h.now R q
  have up : Tin (lentS W S H) v d := by
    cases o with
    | v d' => cases q; exact h.1.mono fun a s => .inl s
    | fr d => exact h.elim
    | b i =>
      cases e : en[i]? with
      | none => simp only [frc, e] at q; cases q
      | some s =>
        cases s with
        | none => simp only [frc, e] at q; cases q
        | some fd =>
          obtain ⟨f, d'⟩ := fd
          simp only [frc, e] at q
          cases q
          obtain ⟨v', e', dv', t, ow⟩ := R.slot i f d e
          have h' : σ[i]? = some (some v) := h
          rw [h'] at e'
          cases e'
          by_cases hf : f = .fz
          · exact (t hf).mono fun a s => .inl s
          · obtain ⟨p, o, ev, _, _, _, h1, h2, h3⟩ := ow hf
            subst ev
            have : lentS W S H p := .inr ⟨h1, h2, o, h3⟩
            cases d <;> first | exact trivial | exact this
  exact ⟨up, dv.mono (fun a s => .inl s) (fun _ _ => rfl) (by cases v <;> cases d <;> first | exact trivial | exact rfl)⟩
theorem PendL.lent (R : Rel W S P en σ H) : ∀ {vs : List V} {os : List Op} {ds : List D}, PendL W S σ H vs os → frcs en os = some ds → DvL W (lentS W S H) H vs ds
  | [], [], ds, _, q => by cases q; exact .nil
  | v :: vs, o :: os, ds, h, q => by
    obtain ⟨d, h1, q⟩ := Option.bind_eq_some_iff.mp q
    obtain ⟨ds', h2, q⟩ := Option.bind_eq_some_iff.mp q
    cases q
    have z := Pend.lent R h.1 h1
    exact .cons z.1 z.2 (PendL.lent R h.2 h2)
  | [], _ :: _, _, h, _ => h.elim
  | _ :: _, [], _, h, _ => h.elim
end
instance {f : Fn} {rs : Runs} [g : ShRuns rs] : ShRun (rLend f rs) := ⟨fun en => all_seq (g.sh en) fun _ => all_of fun _ _ => T.all_bind (T.all_triv fun _ => by
  split
  · exact LkSub.refl _
  · trivial)⟩
section
variable {W : Wd} {X : Cx} {e : Expr} {es : List Expr} {rs : Runs} {k : Nat} {x : Str} {p pos : Pos}
end
end Sx
set_option Elab.async false
set_option linter.all false
set_option maxRecDepth 100000
set_option maxHeartbeats 4000000
set_option autoImplicit false
namespace Sx
open PySem L2 PyProof.Rows
/-! ### objects of own classes, by defs that know that no repr runs -/
section
variable {X : Cx} {CX : CXT} {k : Nat} {f C p g : Addr} {fd : FuncData} {ps : List Str} {sp : Sp} {dvs : List V} {ds : List Value} {E : XK} {x m : Str} {q pos apos : Pos} {e o : Expr} {es : List Expr} {ta : TE} {t : TA}
/-- C(..) -/
theorem runMake {pins : List (Addr × Obj)} {σ : L2.St} {H : Hp} {s : Shared} {Q : VK} {us : List Value} {vs : List V} (M : Mk X.K C f) (F : FnG X.prog X.w X.K X.mg X.base CX k f fd ps sp) (hr : Room (k + 1) X.A) (hg : NoG X.A) (hb : Binds X.K fd ps ds) (hd : Vals dvs ds)
    (hx : Passes CX X E) (I : Inv X pins σ H s) (r : Vals vs us) (h : ∀ y dx, H y = none → H dx = none → dx ≠ y → sp (.ref y :: (vs ++ dvs)) (upd (upd H dx (.own y)) y (.ins C dx [])) (fun v H2 => v = .non ∧ Q (.ref y) H2) E) :
    wpAny (model X.prog X.w) X.A (PySem.call (.ref C) us) (EP X pins σ Q) X.xe s := by
  have w := h (s.heap.objs.size + 1) s.heap.objs.size (I.hok.fresh (Nat.le_succ _)) (I.hok.fresh (Nat.le_refl _)) (Nat.ne_of_lt (Nat.lt_succ_self _))
  have I2 := Inv.made (C := C) I
  have r2 : Vals (V.ref (s.heap.objs.size + 1) :: (vs ++ dvs)) (Value.ref (s.heap.objs.size + 1) :: (us ++ ds)) := .cons rfl (r.append hd)
  have hl : (Value.ref (s.heap.objs.size + 1) :: us ++ ds).length = ps.length := by
    have z := F.len _ _ _ _ w
    rw [r2.length] at z
    exact z
  refine wpAny_call (make_map (f := f) I.kIn M.makes M.init (beq_iff_eq.mp M.fn) (codeAny_mono (F.go (hr.make C us []) hg (I2.env0.make C us []) (hb _ (Value.ref (s.heap.objs.size + 1) :: us) I2.kIn hl) r2 w) fun fl s' z => ?_))
  cases fl with
  | error er => exact hx pins σ _ _ er s' I2 z
  | ok fl => cases fl with
    | ret u =>
      obtain ⟨v, H', I3, rv, ev, w3⟩ := I2.after z
      subst ev
      exact ⟨rv, ⟨V.ref (s.heap.objs.size + 1), H', I3, rfl, w3⟩⟩
    | _ => exact False.elim z
theorem pe_makeG (M : Mk X.K C f) (F : FnG X.prog X.w X.K X.mg X.base CX k f fd ps sp) (hr : Room (k + 1) X.A) (hg : NoG X.A) (gl : Gl X x) (hm : X.mg x = some (.ref C)) (hb : Binds X.K fd ps ds) (hd : Vals dvs ds) (hx : Passes CX X E)
    (ha : PA X (e :: es) t) (hdb : (x == ("__debug__" : Str)) = false := by decide) (h1 : starEach (e :: es) X.env = (false, eval e X.env) :: starEach es X.env := by rfl) (h2 : (backTo pos (starEach es X.env)).any (·.1) = false := by rfl) :
    PE X (.Call (.Name x q) (e :: es) [] pos) (tMake C sp dvs E t) := ⟨fun pins s σ H Q I h =>
  wpAny_Call_Name_kw (ld_glob I gl hm (PySem.W.callWith_K (h₀ := X.base) I.ok.mod.kin M.kp (thn (ha.run pos pins s σ H _ I h) fun us s1 ⟨vs, H1, I1, r, w⟩ => ⟨I1.kIn, runMake M F hr hg hb hd hx I1 r w⟩) h1 h2) hdb)⟩
/-- a property -/
theorem getpropG {a dx : Addr} {fs : List (Str × V)} {y : Str} {pins : List (Addr × Obj)} {σ : L2.St} {H : Hp} {s : Shared} {Q : VK} {b : Bool} {E' : Value → Shared → Prop} (I : Inv X pins σ H s) (ea : H a = some (.ins C dx fs)) (c : Cls X.K C) (hp : PropOf X.K C y p g)
    (F : FnG X.prog X.w X.K X.mg X.base CX k g fd ps sp) (hr : Room (k + 1) X.A) (hg : NoG X.A) (hb : Binds X.K fd ps ds) (hd : Vals dvs ds) (hx : Passes CX X.nox E) (h : sp (.ref a :: dvs) H Q E) :
    wpAny (model X.prog X.w) X.A (getAttr (.ref a) y b) (EP X pins σ Q) E' s := by
  obtain ⟨mA, O, _, _, _, _⟩ := ins_get I.hok ea
  obtain ⟨od, J, _⟩ := O.look
  obtain ⟨rest, hrec⟩ := hp.rec_
  have hl : ([Value.ref a] ++ ds).length = ps.length := by
    have z := F.len _ _ _ _ h
    rw [← z]
    exact congrArg Nat.succ hd.length.symm
  have hc : (PySem.W.clsIn X.K C).isSome = true := by
    obtain ⟨cd, hc, _⟩ := PySem.W.any_some c.hd
    rw [hc]
    rfl
  have pg := PySem.W.plainGet_of (c.get y)
  refine PySem.W.get_bind I.kIn J pg.1 (PySem.W.findObj_data hc hp.at_ hp.get hp.tak) pg.2 (wpAny_call (PySem.W.prop_get (s := { s with toks := s.toks + 1 }) I.kIn hrec ?_))
  refine codeAny_mono (F.go (A := X.A.in1) (vs := V.ref a :: dvs) (us := Value.ref a :: ds) hr.in1 hg (I.tok (s.toks + 1)).env0.in1 (hb _ [.ref a] (I.tok (s.toks + 1)).kIn hl) (.cons rfl hd) h) fun fl s' z => ?_
  cases fl with
  | error er => exact False.elim (hx pins σ H { s with toks := s.toks + 1 } er s' ((I.tok (s.toks + 1)).wish _) z)
  | ok fl => cases fl with
    | ret u =>
      obtain ⟨v, H', I3, rv, w3⟩ := (I.tok (s.toks + 1)).after z
      show wpAny _ _ (handedOut u) _ _ _
      rw [PySem.W.handedOut_of (handed_of rv)]
      exact wpAny_pure ⟨v, H', I3, rv, w3⟩
    | _ => exact False.elim z
theorem pe_propG {y : Str} (he : PE X e ta) (c : Cls X.K C) (hp : PropOf X.K C y p g) (F : FnG X.prog X.w X.K X.mg X.base CX k g fd ps sp) (hr : Room (k + 1) X.A) (hg : NoG X.A) (hb : Binds X.K fd ps ds) (hd : Vals dvs ds) (hx : Passes CX X.nox E)
    (hab : attributeBase e y X.env (eval e X.env) = eval e X.env := by rfl) : PE X (.Attribute e y pos) (tProp C sp dvs E ta) := ⟨fun pins s σ H Q I h => attr_of hab (thn (he.run pins s σ H _ I h) fun u s1 ⟨z, H1, I1, rz, a, dx, fs, ez, ea, w⟩ => by
  subst ez
  cases (show u = Value.ref a from rz)
  exact getpropG I1 ea c hp F hr hg hb hd hx w)⟩
end
end Sx
set_option Elab.async false
set_option linter.all false
set_option maxRecDepth 100000
set_option maxHeartbeats 4000000
set_option autoImplicit false
namespace Sx
open PySem L2 PyProof.Rows
section
variable {W : Wd} {S P S' P' : Addr → Prop} {H H' : Hp} {en : En} {σ : L2.St} {v : V} {d : D}
/-! ### fields -/
theorem DvP.get {f : Str} : ∀ {fs : List (Str × V)} {ds : List (Str × D)}, DvP W S H fs ds → (∀ d, ds.lookup f = some d → ∃ v, fs.lookup f = some v ∧ Dz W S H v d) ∧ (ds.lookup f = none → fs.lookup f = none)
  | [], _, h => by
    cases h
    exact ⟨fun d e => (by cases e), fun _ => rfl⟩
  | (k, v) :: fs, _, h => by
    cases h with
    | cons t dv r =>
      obtain ⟨h1, h2⟩ := DvP.get (f := f) r
      rw [List.lookup_cons, List.lookup_cons]
      cases hk : f == k with
      | true => exact ⟨fun d e => (by cases e; exact ⟨v, rfl, t, dv⟩), fun e => (by cases e)⟩
      | false => exact ⟨h1, h2⟩
theorem DvP.put {f : Str} {y : D} (hz : Dz W S H v y) : ∀ {fs : List (Str × V)} {ds : List (Str × D)}, DvP W S H fs ds → ds.lookup f = none → DvP W S H (putF f v fs) (ds ++ [(f, y)])
  | [], _, h, _ => by
    cases h
    exact .cons hz.1 hz.2 .nil
  | (k, x) :: fs, _, h, hn => by
    cases h with
    | cons t dv r =>
      rw [List.lookup_cons] at hn
      cases hk : f == k with
      | true => rw [hk] at hn; cases hn
      | false =>
        rw [hk] at hn
        have ne : ¬ k = f := fun e => by rw [e] at hk; simp at hk
        show DvP W S H (if k = f then _ else _) _
        rw [if_neg ne]
        exact .cons t dv (DvP.put hz r hn)
theorem DvP.len : ∀ {fs : List (Str × V)} {ds : List (Str × D)}, DvP W S H fs ds → fs.length = ds.length
  | [], _, h => by cases h; rfl
  | (k, x) :: fs, _, h => by
    cases h with
    | cons _ _ r => simp [DvP.len r]
def clsN (c0 : Nat) : D → Option (List (Str × D))
  | .obj c fs => if c = c0 then some fs else none
  | _ => none
theorem clsN_some {c0 : Nat} {fs : List (Str × D)} (h : clsN c0 d = some fs) : d = .obj c0 fs := by
  unfold clsN at h
  split at h
  · split at h
    · rename_i e; cases h; rw [e]
    · cases h
  · cases h
theorem Dv.obj_at {c0 : Nat} {fs : List (Str × D)} (h : Dv W S H v (.obj c0 fs)) : ∃ a dx fv, v = .ref a ∧ H a = some (.ins (W.cls c0) dx fv) ∧ DvP W S H fv fs := by
  cases h with
  | obj ha dp => exact ⟨_, _, _, rfl, ha, dp⟩
def fFld (c0 : Nat) (f : Str) (d : D) : Option (Bool × D) := (clsN c0 d).bind fun fs => (fs.lookup f).map fun x => (false, x)
theorem p_fld {c0 : Nat} {f : Str} (c : Cls W.K (W.cls c0)) (n : NoAttr W.K (W.cls c0) f) : Pure1 W (fun x H Q => ∃ a C dx fs v, x = .ref a ∧ H a = some (.ins C dx fs) ∧ Cls W.K C ∧ NoAttr W.K C f ∧ fs.lookup f = some v ∧ Q v H) (fFld c0 f) := by
  intro S H x d r Q hd hx h q
  obtain ⟨fs, e1, h⟩ := Option.bind_eq_some_iff.mp h
  obtain ⟨y, e2, rfl⟩ := Option.map_eq_some_iff.mp h
  cases clsN_some e1
  obtain ⟨a, dx, fv, rfl, ha, dp⟩ := hx.obj_at
  obtain ⟨v, e3, dz⟩ := (dp.get (f := f)).1 y e2
  exact ⟨a, _, dx, fv, v, rfl, ha, c, n, e3, q.old hd dz⟩
theorem e_fld {X : Cx} {c0 : Nat} {f : Str} {e : Expr} {pos : Pos} {ra : Run} (hK : X.K = W.K) (c : Cls W.K (W.cls c0)) (n : NoAttr W.K (W.cls c0) f) (ha : PE X e (TV W ra)) (hb : attributeBase e f X.env (eval e X.env) = eval e X.env := by rfl) : PE X (.Attribute e f pos) (TV W (run1 ra (fFld c0 f))) :=
  pe_weak (pe_fld ha hb) fun _ _ _ h => by rw [hK]; exact tv1 (p_fld c n) h
/-! ### methods, properties -/
def rMeth (c0 : Nat) (m : Str) (f : Fn) (ro : Run) (rs : Runs) : Run := fun en => (ro en).bind fun o => match o.1.fz with
  | .v d => if ((clsN c0 d).map fun fs => (fs.lookup m).isNone) = some true then (rs o.2).bind fun a => (T.ofOpt (onlyV a.1)).bind fun ds => (f (d :: ds)).bind fun c => .ret (mkO c, a.2) else .fail
  | _ => .fail
def rProp (c0 : Nat) (f : Fn) (ro : Run) : Run := fun en => (ro en).bind fun o => match o.1.fz with
  | .v d => if (clsN c0 d).isSome then (f [d]).bind fun c => .ret (mkO c, o.2) else .fail
  | _ => .fail
theorem tv_prop {c0 : Nat} {f : Fn} {ro : Run} {cls : CT} {Q : VK} (hcl : W.cls = cls) (h : TV W (rProp c0 f ro) σ H Q) : tProp (W.cls c0) (spR W.K cls 1 f) [] E0 (TV W ro) σ H Q := by
  obtain ⟨S, P, en, R, w⟩ := h
  refine TV.use R w fun o v H1 S1 P1 e1 R1 pe q => ?_
  generalize ho : o.1.fz = o' at pe q
  cases o' with
  | fr d => exact pe.elim
  | b i => exact q.elim
  | v d =>
    have q : (if (clsN c0 d).isSome then _ else _ : T (Op × En)).wp _ := q
    by_cases hc : (clsN c0 d).isSome = true
    · rw [if_pos hc] at q
      obtain ⟨fs, e2⟩ := Option.isSome_iff_exists.mp hc
      cases clsN_some e2
      obtain ⟨a, dx, fv, rfl, ha, dp⟩ := pe.2.obj_at
      have q := (T.wp_bind _ _ _).mp q
      refine ⟨a, dx, fv, rfl, ha, rfl, W, S1, [.obj c0 fs], rfl, hcl, R1.dr, R1.tb, R1.dom, fun w => R1.drP.1 (R1.sp _ w), R1.drP.2.sub R1.sp, .cons pe.1 pe.2 .nil, T.wp_mono q fun c q v H' S' P' e ro ok => ?_⟩
      obtain ⟨e5, R5, ok5⟩ := R1.call e ro ok
      exact q v H' S' _ (e1.trans e5) R5 ok5
    · rw [if_neg hc] at q
      exact q.elim
/-! ### __init__: its statements leave all names as they are -/
abbrev RunK := En → T En
def TSt (W : Wd) (run : RunK) : TS := fun D σ H => ∃ S P en, Rel W S P en σ H ∧ (run en).wp fun e => ∀ H' S' P', Ext S P H S' P' H' → Rel W S' P' e σ H' → D.nx σ H'
def kNx : RunK := fun en => .ret en
def kSeq (a b : RunK) : RunK := fun en => (a en).bind b
/-- if t: raise .. -/
def kGd (rt : RunT) : RunK := fun en => (rt en).bind fun b => if b.1 then .fail else .ret b.2
/-- self.f = e -/
def kFld (i c0 : Nat) (f : Str) (re : Run) : RunK := fun en => (re en).bind fun o => (T.ofOpt (valO o.1)).bind fun y => match o.2[i]? with
  | some (some (.ow, d)) => (T.ofOpt (clsN c0 d)).bind fun fs => if fs.length < 900 ∧ fs.lookup f = none then .ret (o.2.set i (some (.ow, .obj c0 (fs ++ [(f, y)])))) else .fail
  | _ => .fail
variable {X : Cx}
theorem kk_nil : PSs X [] (TSt W kNx) := pss_weak pss_nil fun D σ H h => by
  obtain ⟨S, P, en, R, w⟩ := h
  exact w H S P .refl R
theorem kk_cons {st : Stmt} {sts : List Stmt} {a b : RunK} (h1 : PS X st (TSt W a)) (h2 : PSs X sts (TSt W b)) : PSs X (st :: sts) (TSt W (kSeq a b)) := pss_weak (pss_cons h1 h2) fun D σ H h => by
  obtain ⟨S, P, en, R, w⟩ := h
  refine ⟨S, P, en, R, T.wp_mono ((T.wp_bind _ _ _).mp w) fun e q H' S' P' e1 R1 => ?_⟩
  exact ⟨S', P', e, R1, T.wp_mono q fun e2 q H2 S2 P2 e3 R2 => q H2 S2 P2 (e1.trans e3) R2⟩
theorem kk_gd {c : Expr} {a : List Stmt} {pos : Pos} {rt : RunT} (hc : PT X c (TVT W rt)) : PS X (.If c a [] pos) (TSt W (kGd rt)) := ps_weak (ps_if hc pss_never pss_nil) fun D σ H h => by
  obtain ⟨S, P, en, R, w⟩ := h
  refine ⟨S, P, en, R, T.wp_mono ((T.wp_bind _ _ _).mp w) fun r q H' S' P' e R' => ?_⟩
  obtain ⟨b, e2⟩ := r
  cases b with
  | true => exact q.elim
  | false => exact q H' S' P' e R'
theorem kk_fld {i c0 : Nat} {f : Str} {x : Str} {e : Expr} {pos p1 p2 : Pos} {re : Run} (hK : X.K = W.K) (c : Cls W.K (W.cls c0)) (n : NoAttr W.K (W.cls c0) f) (hN : X.N[i]? = some x) (hx : Vis X.env.scope x) (he : PE X e (TV W re)) (hd : (x == ("__debug__" : Str)) = false := by decide) (hcd : (x == ("__classdict__" : Str)) = false := by decide)
    (hs : swapsWith e (some (.Attribute (.Name x p1) f p2)) pos.line X.env = pure false := by rfl) : PS X (.Assign [.Attribute (.Name x p1) f p2] e pos) (TSt W (kFld i c0 f re)) := ps_weak (ps_fld (pe_var (i := i) hN hx hd hcd) he hs) fun D σ H h => by
  obtain ⟨S, P, en, R, w⟩ := h
  refine ⟨S, P, en, R, T.wp_mono ((T.wp_bind _ _ _).mp w) fun o q v H1 S1 P1 e1 R1 ok => ?_⟩
  obtain ⟨y, hy, q⟩ := T.wp_ofOpt ((T.wp_bind _ _ _).mp q)
  obtain ⟨S2, P2, e2, R2, dz⟩ := ok.valz R1 hy
  cases hs : o.2[i]? with
  | none => rw [hs] at q; exact q.elim
  | some sl =>
    cases sl with
    | none => rw [hs] at q; exact q.elim
    | some fd =>
      obtain ⟨fg, d⟩ := fd
      cases fg with
      | fz => rw [hs] at q; exact q.elim
      | lk => rw [hs] at q; exact q.elim
      | ow =>
        rw [hs] at q
        obtain ⟨fs, hf, q3⟩ := T.wp_ofOpt ((T.wp_bind _ _ _).mp q)
        by_cases hc : fs.length < 900 ∧ fs.lookup f = none
        · rw [if_pos hc] at q3
          cases clsN_some hf
          obtain ⟨u, hu, du, _, ow⟩ := R2.slot i .ow _ hs
          obtain ⟨a, dx, fv, rfl, ha, dp⟩ := du.obj_at
          obtain ⟨p', _, ep, nS, _⟩ := ow (by decide)
          cases ep
          refine ⟨.ref a, hu, a, _, dx, fv, rfl, ha, by rw [hK]; exact c, by rw [hK]; exact n, by rw [dp.len]; omega, ?_⟩
          have keep : ∀ b, S2 b → upd H1 a (.ins (W.cls c0) dx (putF f v fv)) b = H1 b := fun b h => upd_ne fun e => nS (e ▸ h)
          have dp2 := DvP.put dz dp hc.2
          obtain ⟨e3, R3⟩ := R2.mut (u := .ins (W.cls c0) dx (putF f v fv)) (d' := .obj c0 (fs ++ [(f, y)])) hs hu (.obj upd_same (dp2.mono (fun _ h => h) keep)) ⟨_, ha, nx_ins _ _ _⟩
          exact q3 _ S2 P2 (e1.trans (e2.trans e3)) R3
        · rw [if_neg hc] at q3
          exact q3.elim
def enI (N c0 : Nat) (ds : List D) : En := some (.ow, .obj c0 []) :: (ds.map (fun d => some (.fz, d)) ++ List.replicate (N - 1 - ds.length) none)
/-- the promise of an __init__ -/
def spI (K : PySem.W.Frag) (cls : CT) (n N c0 : Nat) (run : RunK) : Sp := fun vs H Q _ => ∃ y dx ws W S ds, vs = .ref y :: ws ∧ ws.length = n ∧ W.K = K ∧ W.cls = cls ∧ DrawOk W H ∧ TbS W S H ∧ DomS S H ∧ ¬ S W.da ∧ NPb W S ∧ DvL W S H ws ds ∧ H y = some (.ins (cls c0) dx []) ∧ ¬ S y ∧ y ≠ W.da ∧ NB W y ∧
  (run (enI N c0 ds)).wp fun e => ∀ H' S' P', Ext S (fun a => Pall W H a ∧ a ≠ y) H S' P' H' → Rel W S' P' e (some (.ref y) :: (ws.map some ++ List.replicate (N - 1 - n) none)) H' → Q .non H'
theorem enI_get {N c0 : Nat} {ds : List D} {i : Nat} {f : Fg} {d : D} (h : (enI N c0 ds)[i]? = some (some (f, d))) : (i = 0 ∧ f = .ow ∧ d = .obj c0 []) ∨ ∃ j, i = j + 1 ∧ f = .fz ∧ ds[j]? = some d := by
  cases i with
  | zero => cases h; exact .inl ⟨rfl, rfl, rfl⟩
  | succ j =>
    refine .inr ⟨j, rfl, ?_⟩
    have h : (ds.map (fun d => (some (Fg.fz, d) : Slot)) ++ List.replicate (N - 1 - ds.length) none)[j]? = some (some (f, d)) := h
    by_cases hl : j < ds.length
    · rw [List.getElem?_append_left (by simpa using hl), List.getElem?_map] at h
      cases e : ds[j]? with
      | none => rw [e] at h; cases h
      | some x => rw [e] at h; cases h; exact ⟨rfl, rfl⟩
    · rw [List.getElem?_append_right (by simpa using hl)] at h
      have := List.eq_of_mem_replicate (List.mem_of_getElem? h)
      cases this
theorem fnI_ok {Pr : Program} {w : World} {K : PySem.W.Frag} {mg : Str → Option Value} {base : Heap} {cls : CT} {x qual : Str} {st : Stmt} {f : Addr} {fd : FuncData} {N ps : List Str} {k c0 n : Nat} {run : RunK} (F : Fun K x qual st f fd) (Sc : FnScope N ps (defScope st)) (hn : ps.length = n + 1)
    (hb : ∀ (cdv : Value) (A : Around) (outer : List PySem.Env) (s : Shared) (H : Hp) (E : XK), Room k (A.deeper (envOfC qual (defScope st) s.heap.objs.size f cdv)) → NoG (A.deeper (envOfC qual (defScope st) s.heap.objs.size f cdv)) → ∀ W : Wd, W.K = K → W.cls = cls →
      PSs (cxOf CX0 Pr w K mg base N qual (defScope st) f cdv A outer s H E).nox (defBody st) (TSt W run)) : FnG Pr w K mg base CX0 (k + 1) f fd ps (spI K cls n N.length c0 run) := by
  refine fnG_of F Sc (fun vs H Q E h => by obtain ⟨y, dx, ws, W, S, ds, rfl, hl, _⟩ := h; rw [hn, List.length_cons, hl]) fun cdv A outer s H vs Q E hr hg h => ?_
  obtain ⟨y, dx, ws, W, S, ds, rfl, hl, hK, hc, dr, tb, dom, n1, n2, dl, hy, nS, m1, m2, wpq⟩ := h
  have len : ds.length = n := dl.len.symm.trans hl
  have st0 : L2.start N (.ref y :: ws) = some (.ref y) :: (ws.map some ++ List.replicate (N.length - 1 - n) none) := by
    unfold L2.start
    rw [List.map_cons, List.length_cons, hl]
    show some (V.ref y) :: (ws.map some ++ List.replicate (N.length - (n + 1)) none) = _
    congr 3
    omega
  refine ⟨_, (hb cdv A outer s H E hr hg W hK hc).nox, S, (fun a => Pall W H a ∧ a ≠ y), enI N.length c0 ds, ?_, ?_⟩
  · rw [st0]
    refine ⟨fun a h => ⟨⟨dom a h, fun z => n1 (z ▸ h), n2.nb h⟩, fun z => nS (z ▸ h)⟩, fun a h => h.1.1, fun i f d e => ?_, fun i j f g d e v h1 h2 h3 h4 _ _ => ?_, ?_, dr, ⟨fun h => h.1.2.1 rfl, ⟨fun h => h.1.2.2.1 rfl, fun x hx h => h.1.2.2.2 x hx rfl⟩⟩, tb⟩
    · rcases enI_get e with ⟨rfl, rfl, rfl⟩ | ⟨j, rfl, rfl, hd⟩
      · exact ⟨.ref y, rfl, .obj (by rw [hc]; exact hy) .nil, (fun z => by cases z), fun _ => ⟨y, _, rfl, nS, fun _ h => h.2 rfl, (fun z => by cases z), m1, m2, hy⟩⟩
      · obtain ⟨v, hv, dz⟩ := (dl.at (i := j)).2 d hd
        refine ⟨v, ?_, dz.2, fun _ => dz.1, fun z => absurd rfl z⟩
        show (ws.map some ++ List.replicate (N.length - 1 - n) none)[j]? = _
        rw [List.getElem?_append_left (by simpa using lt_of_get hv), List.getElem?_map, hv]
        rfl
    · rcases enI_get h1 with ⟨rfl, _⟩ | ⟨_, _, z, _⟩
      · rcases enI_get h2 with ⟨rfl, _⟩ | ⟨_, _, z, _⟩
        · rfl
        · exact absurd z h4
      · exact absurd z h3
    · unfold enI
      simp only [List.length_cons, List.length_append, List.length_map, List.length_replicate, len, hl]
  · rw [st0]
    exact wpq
/-- a new object, handed out -/
def rMake (N c0 : Nat) (run : RunK) (rs : Runs) : Run := fun en => (rs en).bind fun a => (T.ofOpt (onlyV a.1)).bind fun ds => (run (enI N c0 ds)).bind fun (e : En) => match (e[(0 : Nat)]? : Option Slot) with
  | some (some (.ow, d)) => .ret (.fr d, a.2)
  | _ => .fail
theorem tv_make {n N c0 : Nat} {run : RunK} {rs : Runs} {cls : CT} {Q : VK} (hcl : W.cls = cls) (hn : LenR rs n) (h : TV W (rMake N c0 run rs) σ H Q) : tMake (cls c0) (spI W.K cls n N c0 run) [] E0 (TVs W rs) σ H Q := by
  obtain ⟨S, P, en, R, w⟩ := h
  have w := T.wp_all ((T.wp_bind _ _ _).mp w) (hn en)
  refine ⟨S, P, en, R, T.wp_mono w fun r ⟨q, len⟩ vs H1 S1 P1 e1 R1 pe y dx hy hdx ne => ?_⟩
  obtain ⟨ds, hds, q⟩ := T.wp_ofOpt ((T.wp_bind _ _ _).mp q)
  have dl := pe.only hds
  have q := (T.wp_bind _ _ _).mp q
  have old : ∀ a o, H1 a = some o → upd (upd H1 dx (.own y)) y (.ins (cls c0) dx []) a = some o := fun a o e => by
    rw [upd_ne (ne_of_none e hy), upd_ne (ne_of_none e hdx)]; exact e
  have oldS : ∀ a, S1 a → upd (upd H1 dx (.own y)) y (.ins (cls c0) dx []) a = H1 a := fun a s => by
    obtain ⟨o, e⟩ := R1.dom a s
    rw [e]; exact old a o e
  have nS : ¬ S1 y := fun s => by obtain ⟨o, e⟩ := R1.dom y s; rw [hy] at e; cases e
  obtain ⟨⟨oa, ea⟩, ⟨ob, eb⟩⟩ := R1.dr.at
  have na : y ≠ W.da := fun z => by rw [z, ea] at hy; cases hy
  have nb : NB W y := NB.of_none ⟨_, eb⟩ R1.tb hy
  rw [List.append_nil]
  refine ⟨y, dx, vs, W, S1, ds, rfl, by rw [dl.len, onlyV_len hds, len], rfl, hcl, ?_, R1.tb.ext old (fun _ h => h) (fun a xs e => (tup_upd (S := S1) (by intro _ z; cases z) a xs e).elim (fun e => tup_upd (by intro _ z; cases z) a xs e) .inr), fun a s => by obtain ⟨o, e⟩ := R1.dom a s; exact ⟨o, old a o e⟩, fun w => R1.drP.1 (R1.sp _ w), R1.drP.2.sub R1.sp, dl.mono (fun _ h => h) oldS, upd_same, nS, na, nb, T.wp_mono q fun e q H' S' P' ex R' => ⟨rfl, ?_⟩⟩
  · obtain ⟨nd, ns, i, j, k, h1, h2, h3⟩ := R1.dr
    exact ⟨nd, ns, i, j, k, old _ _ h1, old _ _ h2, h3⟩
  · cases hs : e[0]? with
    | none => rw [hs] at q; exact q.elim
    | some sl =>
      cases sl with
      | none => rw [hs] at q; exact q.elim
      | some fd =>
        obtain ⟨fg, d⟩ := fd
        cases fg with
        | fz => rw [hs] at q; exact q.elim
        | lk => rw [hs] at q; exact q.elim
        | ow =>
          rw [hs] at q
          obtain ⟨u, hu, du, _, ow⟩ := R'.slot 0 .ow d hs
          cases hu
          obtain ⟨p', o', ep, n1, n2, _, n3, n4, n5⟩ := ow (by decide)
          cases ep
          have toP : ∀ a, Pall W H1 a → Pall W (upd (upd H1 dx (.own y)) y (.ins (cls c0) dx [])) a ∧ a ≠ y := fun a ⟨⟨o, e⟩, h1, h2⟩ => ⟨⟨⟨o, old a o e⟩, h1, h2⟩, ne_of_none e hy⟩
          have ex2 : Ext S1 (Pall W H1) H1 S' P' H' := ⟨ex.s, fun a h => ex.p a (toP a h), fun a h => (ex.h a (toP a h)).trans (by obtain ⟨⟨o, e⟩, _⟩ := h; rw [e]; exact old a o e), fun a h => (ex.n a h).imp id fun z w => z (toP a w)⟩
          obtain ⟨e5, R5, ok5⟩ := R1.call ex2 ⟨R'.sp, R'.dom, R'.dr, R'.drP, R'.tb⟩ (v := .ref y) (c := (true, d)) ⟨du, (fun z => by cases z), fun _ => ⟨y, o', rfl, n2 rfl, n3, n4, n5⟩⟩
          exact q _ H' S' _ (e1.trans e5) R5 ok5
end
end Sx
set_option Elab.async false
set_option linter.all false
set_option maxRecDepth 100000
set_option maxHeartbeats 4000000
set_option autoImplicit false
namespace Sx
open PySem L2 PyProof.Rows
section
variable {W : Wd} {S P S' P' : Addr → Prop} {H H' : Hp} {en : En} {σ : L2.St} {v : V} {d : D} {X : Cx} {k n c0 : Nat} {f C p g : Addr} {fd : FuncData} {ps : List Str} {fn : Fn} {cls : CT} {x m : Str} {q pos apos : Pos} {e o : Expr} {es : List Expr} {ro ra rb : Run} {rs : Runs}
theorem e_prop {y : Str} (F : FnG X.prog X.w X.K X.mg X.base CX0 k g fd ps (spR X.K cls 1 fn)) (c : Cls X.K (cls c0)) (hp : PropOf X.K (cls c0) y p g) (hcl : W.cls = cls) (hK : X.K = W.K) (hr : Room (k + 1) X.A) (hg : NoG X.A) (hb : Binds X.K fd ps []) (ho : PE X e (TV W ro))
    (hab : attributeBase e y X.env (eval e X.env) = eval e X.env := by rfl) : PE X (.Attribute e y pos) (TV W (rProp c0 fn ro)) := by
  subst hcl
  exact pe_weak (pe_propG ho c hp F hr hg hb .nil pass0 hab) fun _ _ _ h => by rw [hK]; exact tv_prop rfl h
theorem e_make {N : Nat} {run : RunK} (M : Mk X.K (cls c0) f) (F : FnG X.prog X.w X.K X.mg X.base CX0 k f fd ps (spI X.K cls n N c0 run)) (hcl : W.cls = cls) (hK : X.K = W.K) (hr : Room (k + 1) X.A) (hg : NoG X.A) (hm : X.mg x = some (.ref (cls c0))) (hb : Binds X.K fd ps []) (ha : PA X (e :: es) (TVs W rs)) (hn : LenR rs n)
    (gl : Gl X x := by rfl) (hdb : (x == ("__debug__" : Str)) = false := by decide) (h1 : starEach (e :: es) X.env = (false, eval e X.env) :: starEach es X.env := by rfl) (h2 : (backTo pos (starEach es X.env)).any (·.1) = false := by rfl) :
    PE X (.Call (.Name x q) (e :: es) [] pos) (TV W (rMake N c0 run rs)) :=
  pe_weak (pe_makeG M F hr hg gl hm hb .nil pass0 ha hdb h1 h2) fun _ _ _ h => by rw [hK]; exact tv_make hcl hn h
instance [h : ShRun ro] [t : ShRuns rs] : ShRun (rMeth c0 m fn ro rs) := ⟨fun en => all_seq (h.sh en) fun o => by
  split
  · split
    · exact all_seq (t.sh _) fun _ => all_of fun _ _ => T.all_bind (T.all_triv fun _ => LkSub.refl _)
    · trivial
  · trivial⟩
instance [h : ShRun ro] : ShRun (rProp c0 fn ro) := ⟨fun en => all_seq (h.sh en) fun o => by
  split
  · split
    · exact T.all_bind (T.all_triv fun _ => LkSub.refl _)
    · trivial
  · trivial⟩
instance {N : Nat} {run : RunK} [t : ShRuns rs] : ShRun (rMake N c0 run rs) := ⟨fun en => all_seq (t.sh en) fun _ => all_of fun _ _ => T.all_bind (T.all_triv fun _ => by
  split
  · exact LkSub.refl _
  · trivial)⟩
/-! a class by its name, isinstance of it -/
theorem e_cl {c0 : Nat} (hm : X.mg x = some (.ref (W.cls c0))) (gl : Gl X x := by rfl) (hd : (x == ("__debug__" : Str)) = false := by decide) : PE X (.Name x pos) (TV W (rC (.cl c0))) := pe_weak (pe_glob gl hm (v := .ref (W.cls c0)) rfl hd) fun σ H Q h => by
  obtain ⟨S, P, en, R, w⟩ := h
  exact w _ H S P .refl R ⟨trivial, .cl c0⟩
def fIsC (c0 : Nat) (ds : List D) : Option (Bool × D) := match ds with
  | [.obj c _, .cl c'] => if c = c0 ∧ c' = c0 then some0 (.bl true) else none
  | _ => none
theorem p_isC (c0 : Nat) : PureN W (fun xs H Q => ∃ a dx fs, xs = [.ref a, .ref (W.cls c0)] ∧ H a = some (.ins (W.cls c0) dx fs) ∧ Q (.bl true) H) (fIsC c0) := by
  intro S H vs ds c Q hd h hf r
  unfold fIsC at hf
  split at hf
  · split at hf
    · rename_i e
      obtain ⟨rfl, rfl⟩ := e
      obtain ⟨v, u, rfl, dv, du⟩ := h.two
      cases hf
      obtain ⟨a, dx, fv, rfl, ha, dp⟩ := dv.obj_at
      cases du
      exact ⟨a, dx, fv, rfl, ha, r.bl hd⟩
    · cases hf
  · cases hf
/-! len by an own __len__ -/
def rLenOb (c0 : Nat) (f : Fn) (ro : Run) : Run := fun en => (ro en).bind fun o => match o.1.fz with
  | .v d => if (clsN c0 d).isSome then (f [d]).bind fun c => match c.2 with
      | .int i => if 0 ≤ i ∧ i < 4611686018427387904 then .ret (.v (.int i), o.2) else .fail
      | _ => .fail
    else .fail
  | _ => .fail
instance [h : ShRun ro] : ShRun (rLenOb c0 fn ro) := ⟨fun en => all_seq (h.sh en) fun o => by
  split
  · split
    · refine T.all_bind (T.all_triv fun c => ?_)
      split
      · split
        · exact LkSub.refl _
        · trivial
      · trivial
    · trivial
  · trivial⟩
/-! == by an own __eq__ -/
def rEqI (C : Addr) (sp : Sp) : R2 := fun x y H Q => ∃ a b dx dy fs gs, x = .ref a ∧ y = .ref b ∧ H a = some (.ins C dx fs) ∧ H b = some (.ins C dy gs) ∧ sp [.ref a, .ref b] H (fun v H' => (∃ b, v = .bl b) ∧ Q v H') E0
theorem op_eqI {sp : Sp} (hs : PySem.W.findIn X.K (.ref C) "__eq__" = some (some (.ref f))) (hf : PySem.W.isFn X.K (.ref f) = true) (F : FnG X.prog X.w X.K X.mg X.base CX0 k f fd ps sp) (hr : Room k X.A) (hg : NoG X.A) (hb : Binds X.K fd ps []) : OpR X (compareOp .Eq) (rEqI C sp) := by
  intro pins s σ H x y v u Q I rx ry h
  obtain ⟨a, b, dx, dy, fs, gs, rfl, rfl, ha, hb', w⟩ := h
  cases (show v = Value.ref a from rx)
  cases (show u = Value.ref b from ry)
  obtain ⟨mA, O, _⟩ := ins_get I.hok ha
  obtain ⟨mB, O2, _⟩ := ins_get I.hok hb'
  obtain ⟨od, J, _⟩ := O.look
  obtain ⟨od2, J2, _⟩ := O2.look
  obtain ⟨m, hF⟩ := I.fr
  show wpAny (model X.prog X.w) X.A (richCompare .Eq (.ref a) (.ref b)) (EP X pins σ Q) X.xe s
  refine PySem.W.cmp_K (op := .Eq) (tb := .ref C) hr.units0 hF I.ok.mod.kin J J2.type (by simp [PySem.W.notFirst]) hs hf (wpAny_call ?_)
  have hl := F.len _ _ _ _ w
  have bd := hb s [.ref a, .ref b] I.kIn (by simpa using hl)
  refine codeAny_mono (F.go (A := X.A) (vs := [V.ref a, V.ref b]) (us := [Value.ref a, Value.ref b]) hr hg I.env0 bd (.cons rfl (.cons rfl .nil)) w) fun fl s' z => ?_
  cases fl with
  | error er => exact z.elim
  | ok fl => cases fl with
    | ret u =>
      obtain ⟨v, H', I3, rv, ⟨t, ev⟩, w3⟩ := I.after z
      subst ev
      cases (show u = Value.bool t from rv)
      exact ⟨.bl t, H', I3, rfl, w3⟩
    | _ => exact False.elim z
/-- == of two such objects, or of plain data -/
def rEqU (c0 : Nat) (f : Fn) (ra rb : Run) : Run := fun en => (ra en).bind fun a => (rb a.2).bind fun b => match a.1.fz, b.1.fz with
  | .v (.obj c fs), .v (.obj c' gs) => if c = c0 ∧ c' = c0 then (f [.obj c fs, .obj c' gs]).bind fun r => (match r.2 with
      | .bl k => .ret (.v (.bl k), b.2)
      | _ => .fail) else .fail
  | _, _ => ret1 ((frc b.2 a.1.fz).bind fun x => (frc b.2 b.1.fz).bind fun y => fEq x y) b.2
end
end Sx
set_option Elab.async false
set_option linter.all false
set_option maxRecDepth 100000
set_option maxHeartbeats 4000000
set_option autoImplicit false
namespace Sx
open PySem L2 PyProof.Rows
/-! ### dicts whose keys are texts and whole numbers -/
def keyOf : D → Option Key
  | .str s => some (.inr s)
  | .int i => some (.inl i)
  | _ => none
def kD : Key → D
  | .inl i => .int i
  | .inr s => .str s
def valD (ds : List (Key × D)) (k : Key) : Option D := (ds.find? fun kv => decide (kv.1 = k)).map (·.2)
def putD (ds : List (Key × D)) (k : Key) (d : D) : List (Key × D) := if (ds.any fun kv => decide (kv.1 = k)) = true then ds.map (fun kv => if kv.1 = k then (kv.1, d) else kv) else ds ++ [(k, d)]
section
variable {W : Wd} {S P S' P' : Addr → Prop} {H H' : Hp} {en : En} {σ : L2.St} {v : V} {d : D} {X : Cx}
theorem keyOf_v {k : Key} (h : Dv W S H v d) (e : keyOf d = some k) : v = kV k := by
  unfold keyOf at e
  split at e
  · cases e; cases h; rfl
  · cases e; cases h; rfl
  · cases e
theorem kD_dv (k : Key) : Dz W S H (kV k) (kD k) := by
  cases k with
  | inl i => exact ⟨trivial, .int i⟩
  | inr s => exact ⟨trivial, .str s⟩
theorem DvP.keys : ∀ {vs : List (Key × V)} {ds : List (Key × D)}, DvP W S H vs ds → vs.map (·.1) = ds.map (·.1)
  | [], _, h => by cases h; rfl
  | (k, x) :: vs, _, h => by
    cases h with
    | cons _ _ r => rw [List.map_cons, List.map_cons, DvP.keys r]
theorem DvP.lenK : ∀ {vs : List (Key × V)} {ds : List (Key × D)}, DvP W S H vs ds → vs.length = ds.length
  | [], _, h => by cases h; rfl
  | (k, x) :: vs, _, h => by
    cases h with
    | cons _ _ r => rw [List.length_cons, List.length_cons, DvP.lenK r]
theorem DvP.val {k : Key} : ∀ {vs : List (Key × V)} {ds : List (Key × D)}, DvP W S H vs ds → (∀ d, valD ds k = some d → ∃ v, valV vs k = some v ∧ Dz W S H v d) ∧ (valD ds k = none → valV vs k = none)
  | [], _, h => by
    cases h
    exact ⟨fun d e => (by cases e), fun _ => rfl⟩
  | (j, x) :: vs, _, h => by
    cases h with
    | @cons _ _ _ _ dd ds t dv r =>
      obtain ⟨h1, h2⟩ := DvP.val (k := k) r
      by_cases hj : j = k
      · rw [valV_pos (p := (j, x)) hj]
        have : valD ((j, dd) :: ds) k = some dd := by simp [valD, List.find?_cons, hj]
        rw [this]
        exact ⟨fun d e => (by cases e; exact ⟨x, rfl, t, dv⟩), fun e => (by cases e)⟩
      · rw [valV_neg (p := (j, x)) hj]
        have : valD ((j, dd) :: ds) k = valD ds k := by simp [valD, List.find?_cons, hj]
        rw [this]
        exact ⟨h1, h2⟩
theorem DvP.any {k : Key} {vs : List (Key × V)} {ds : List (Key × D)} (h : DvP W S H vs ds) : (vs.any fun kv => decide (kv.1 = k)) = ds.any fun kv => decide (kv.1 = k) := by
  have e1 : (vs.any fun kv => decide (kv.1 = k)) = (vs.map (·.1)).any fun j => decide (j = k) := by rw [List.any_map]; rfl
  have e2 : (ds.any fun kv => decide (kv.1 = k)) = (ds.map (·.1)).any fun j => decide (j = k) := by rw [List.any_map]; rfl
  rw [e1, e2, h.keys]
theorem DvP.mapK {k : Key} (hz : Dz W S H v d) : ∀ {vs : List (Key × V)} {ds : List (Key × D)}, DvP W S H vs ds → DvP W S H (vs.map fun kv => if kv.1 = k then (kv.1, v) else kv) (ds.map fun kv => if kv.1 = k then (kv.1, d) else kv)
  | [], _, h => by cases h; exact .nil
  | (j, x) :: vs, _, h => by
    cases h with
    | cons t dv r =>
      rw [List.map_cons, List.map_cons]
      by_cases hj : j = k
      · simp only [hj, if_true]
        exact .cons hz.1 hz.2 (DvP.mapK hz r)
      · simp only [hj, if_false]
        exact .cons t dv (DvP.mapK hz r)
theorem DvP.app {κ : Type} : ∀ {vs us : List (κ × V)} {ds es : List (κ × D)}, DvP W S H vs ds → DvP W S H us es → DvP W S H (vs ++ us) (ds ++ es)
  | _, _, _, _, .nil, g => g
  | _, _, _, _, .cons t dv r, g => .cons t dv (DvP.app r g)
theorem DvP.putK {k : Key} {vs : List (Key × V)} {ds : List (Key × D)} (hz : Dz W S H v d) (h : DvP W S H vs ds) : DvP W S H (putK vs k v) (putD ds k d) := by
  unfold L2.putK putD
  rw [h.any (k := k)]
  split
  · exact h.mapK hz
  · exact h.app (.cons hz.1 hz.2 .nil)
theorem Dv.dK_at {ds : List (Key × D)} (h : Dv W S H v (.dK ds)) : ∃ a vs, v = .ref a ∧ Rd H a (.dK vs) ∧ DvP W S H vs ds := by
  cases h with
  | dK ha dp => exact ⟨_, _, rfl, ha, dp⟩
/-! in, not in -/
def rInD (f : Bool → Bool) : R2 := fun y x H Q => ∃ a o, x = .ref a ∧ DGet H a y o ∧ Q (.bl (f o.isSome)) H
theorem op_inD (hu : X.A.units + 1 < cLine) : OpR X (compareOp .In) (rInD id) := by
  intro pins s σ H y x u v Q I ry rx h
  obtain ⟨a, o, rfl, g, q⟩ := h
  cases (show v = Value.ref a from rx)
  exact d_in hu I g ry fun s' I' => ⟨.bl o.isSome, H, I', rfl, q⟩
def fInDG (f : Bool → Bool) (x y : D) : Option (Bool × D) := match y with
  | .dK ds => (keyOf x).map fun k => (false, .bl (f (valD ds k).isSome))
  | _ => none
theorem p_inD (f : Bool → Bool) : Pure2 W (rInD f) (fInDG f) := by
  intro S H x y d e c Q hd hx hy h r
  unfold fInDG at h
  split at h
  · rename_i ds
    obtain ⟨k, hk, rfl⟩ := Option.map_eq_some_iff.mp h
    obtain ⟨a, vs, rfl, ha, dp⟩ := hy.dK_at
    obtain ⟨h1, h2⟩ := dp.val (k := k)
    refine ⟨a, valV vs k, rfl, .inl ⟨vs, k, ha, keyOf_v hx hk, rfl⟩, ?_⟩
    have : (valV vs k).isSome = (valD ds k).isSome := by
      cases e : valD ds k with
      | none => rw [h2 e]; rfl
      | some d => obtain ⟨v, hv, _⟩ := h1 d e; rw [hv]; rfl
    rw [this]
    exact r.bl hd
  · cases h
/-! d[k] -/
def rIxD : R2 := fun x y H Q => ∃ a v, x = .ref a ∧ DGet H a y (some v) ∧ Q v H
theorem ix_dict (hu : X.A.units + 1 < cLine) : IxR X rIxD := by
  intro value slice pins s σ H x y v u Q I rx ry h hs
  obtain ⟨a, z, rfl, g, q⟩ := h
  cases (show v = Value.ref a from rx)
  have hT := dict_typeIs I g
  unfold subscriptTail
  refine wpAny_bind ?_
  rw [getitemInPython_of_ne hT.not_modules]
  refine wpAny_bind (wpAny_specialOf hT PySem.F.slot_dict_getitem.lookup ?_)
  have fin : wpAny (model X.prog X.w) X.A (subscripted slice false (.ref a) u) (fun r s₃ => wpAny (model X.prog X.w) X.A (letTemporaryGo value (.ref a) r >>= fun _ => pure r) (EP X pins σ Q) X.xe s₃) X.xe s := by
    rw [hs]
    exact wpAny_operating (d_getItem hu I g ry fun w' s3 I3 rw' => wpAny_bind (wpAny_letTemporaryGo (wpAny_pure ⟨z, H, I3, rw', q⟩)))
  first
    | exact wpAny_pure (wpAny_bind fin)
    | exact wpAny_bind (wpAny_pure (wpAny_bind fin))
    | exact wpAny_bind fin
def fIxD (x y : D) : Option (Bool × D) := match x with
  | .dK ds => (keyOf y).bind fun k => (valD ds k).map fun d => (false, d)
  | _ => none
theorem p_ixD : Pure2 W rIxD fIxD := by
  intro S H x y d e c Q hd hx hy h r
  unfold fIxD at h
  split at h
  · obtain ⟨k, hk, h⟩ := Option.bind_eq_some_iff.mp h
    obtain ⟨z, hz, rfl⟩ := Option.map_eq_some_iff.mp h
    obtain ⟨a, vs, rfl, ha, dp⟩ := hx.dK_at
    obtain ⟨v, hv, dz⟩ := (dp.val (k := k)).1 z hz
    exact ⟨a, v, rfl, .inl ⟨vs, k, ha, keyOf_v hy hk, hv.symm⟩, r.old hd dz⟩
  · cases h
/-! len, list, tuple, sorted of a dict -/
def rLenD : List V → Hp → VK → Prop := fun xs H Q => ∃ a kvs, xs = [V.ref a] ∧ Rd H a (.dK kvs) ∧ Q (.int kvs.length) H
theorem cr_lenD : CallR X (.builtin "len") rLenD := by
  intro pins s σ H xs us Q I r h
  obtain ⟨a, kvs, rfl, ha, q⟩ := h
  obtain ⟨u, rfl, ru⟩ := vals1 r
  cases (show u = Value.ref a from ru)
  exact d_len I ha fun t s' I' => ⟨.int kvs.length, H, I', ⟨t, rfl⟩, q⟩
def fLenD (ds : List D) : Option (Bool × D) := match ds with
  | [.dK kvs] => some0 (.int kvs.length)
  | _ => none
theorem p_lenD : PureN W rLenD fLenD := by
  intro S H vs ds c Q hd h hf r
  unfold fLenD at hf
  split at hf
  · cases hf
    obtain ⟨v, rfl, dv⟩ := h.one
    obtain ⟨a, ws, rfl, ha, dp⟩ := dv.dK_at
    refine ⟨a, ws, rfl, ha, ?_⟩
    rw [dp.lenK]
    exact r.int hd
  · cases hf
theorem keysL : ∀ {vs : List (Key × V)} {ds : List (Key × D)}, DvP W S H vs ds → DvL W S H (vs.map fun kv => kV kv.1) (ds.map fun kv => kD kv.1)
  | [], _, h => by cases h; exact .nil
  | (k, x) :: vs, _, h => by
    cases h with
    | cons _ _ r =>
      have z : Dz W S H (kV k) (kD k) := kD_dv k
      exact .cons z.1 z.2 (keysL r)
def fListD (ds : List D) : Option (Bool × D) := match ds with
  | [.dK kvs] => some1 (.lst (kvs.map fun kv => kD kv.1))
  | _ => none
theorem p_listD : PureN W (fun xs H Q => ∃ (a : Addr) (kvs : List (Key × V)), xs = [.ref a] ∧ Rd H a (.dK kvs) ∧ ∀ p, H p = none → Q (.ref p) (upd H p (.lst (kvs.map fun kv => kV kv.1)))) fListD := by
  intro S H vs ds c Q hd h hf r
  unfold fListD at hf
  split at hf
  · cases hf
    obtain ⟨v, rfl, dv⟩ := h.one
    obtain ⟨a, ws, rfl, ha, dp⟩ := dv.dK_at
    exact ⟨a, ws, rfl, ha, PRes.lst hd (keysL dp) r⟩
  · cases hf
end
/-! tuple(d) -/
section
variable {prog : Program} {w : World} {A : Around} {E : Value → Shared → Prop} {s : Shared} {r d : Addr} {n : Nat} {P : Nat → Value → Prop} {OK : Heap → Prop}
theorem code_tupleD {Q₁ : Value → Shared → Prop} (K : PySem.W.KdlSrc prog w "dict" r d n P OK) (hh : A.handled = none) (hok : OK s.heap) (hn : n ≤ sizeLine)
    (h : ∀ (h' : Heap) (tk : Nat) (acc : Array Value), (∀ b o, s.heap.get? b = some o → h'.get? b = some o) → ItemsOf P acc n →
      Q₁ (.ref h'.objs.size) { s with heap := h'.push { cls := .type "tuple", data := .seq acc }, toks := tk }) :
    codeAny (model prog w) A (.call (.builtin "tuple.__new__") ⟨[.type "tuple", .ref r], []⟩) (wants Q₁ E) s := by
  refine codeAny_of_tree ?_
  show wpAny _ A.in1 (do checkBuiltinCall "tuple.__new__" ⟨[.type "tuple", .ref r], []⟩; again (.builtin "tuple.__new__" ⟨[.type "tuple", .ref r], []⟩)) _ _ s
  refine wpAny_bind (wpAny_of_eq (F.newCall_tuple_1 _) (wpAny_pure ⟨plainId_quiet F.plain_tuple_new _, codeAny_builtin F.entry_tuple_new ?_⟩))
  rw [Around.under_plainId F.plain_tuple_new _]
  have a1 := sub_tuple_self
  have a2 := init_tuple_lookup
  have a3 := madeHere_tuple
  have a4 : s.TypeIs (.ref r) "dict" := K.type _ hok
  have a5 : A.in1.handled = none := hh
  wp_walk using wpAny_typeOf a4, PySem.W.kdu_collect (A := A.in1) K a5 hok hn
  intro h' tk acc hk hacc
  show wpAny _ _ (Builtin.Tuple.tupleExact acc.toList.toArray >>= fun v => ret v) _ _ _
  unfold Builtin.Tuple.tupleExact
  refine wpAny_bind (wpAny_newObj_type ?_ (by show acc.toList.toArray.size ≤ sizeLine; simp only [Array.toArray_toList]; rw [hacc.1]; exact hn))
  refine wpAny_pure ?_
  have e : acc.toList.toArray = acc := by simp
  rw [e]
  exact h h' tk acc hk hacc
theorem call_tupleD {Q : Value → Shared → Prop} (K : PySem.W.KdlSrc prog w "dict" r d n P OK) (hh : A.handled = none) (hok : OK s.heap) (hn : n ≤ sizeLine)
    (h : ∀ (h' : Heap) (tk : Nat) (acc : Array Value), (∀ b o, s.heap.get? b = some o → h'.get? b = some o) → ItemsOf P acc n →
      Q (.ref h'.objs.size) { s with heap := h'.push { cls := .type "tuple", data := .seq acc }, toks := tk }) :
    wpAny (model prog w) A (PySem.call (.type "tuple") [.ref r]) Q E s := by
  refine callType_codes (Q₁ := fun obj s₁ => s₁.TypeIs obj "tuple" ∧ Q obj s₁) F.called_tuple (F.typeCall_tuple_1 _) F.entry_object_init
    (code_tupleD (A := A.in1) K hh hok hn fun h' tk acc hk hacc => ⟨⟨_, Heap.get?_push_size _ rfl, rfl⟩, h h' tk acc hk hacc⟩) fun obj s₁ z => ?_
  exact ⟨z.1, F.args_object_init_2 obj _, object_init_meets F.called_tuple.init.lookup F.called_tuple.made (by decide) prog w A.in1 _ s₁ ⟨z.1, rfl, z.2⟩⟩
end
section
variable {W : Wd} {S : Addr → Prop} {H : Hp} {X : Cx}
def rTupD : List V → Hp → VK → Prop := fun xs H Q => ∃ (a : Addr) (kvs : List (Key × V)), xs = [.ref a] ∧ Rd H a (.dK kvs) ∧ ∀ p, H p = none → Q (.ref p) (upd H p (.tup (kvs.map fun kv => kV kv.1)))
theorem cr_tupleD (hc : X.calm = true) : CallR X (.type "tuple") rTupD := by
  intro pins s σ H xs us Q I r q
  obtain ⟨a, kvs, rfl, hd, q⟩ := q
  obtain ⟨u, rfl, rx⟩ := vals1 r
  cases (show u = Value.ref a from rx)
  obtain ⟨z, lo, vs, rel, dd⟩ := dk_rd I.hok hd
  obtain ⟨ep, hat⟩ := dd.dictAt
  have ek : (kvs.map fun kv => kV kv.1) = vs.map fun p => kV p.1 := by
    have e := congrArg (List.map kV) rel.keys
    rw [List.map_map, List.map_map] at e
    exact e
  refine call_tupleD (PySem.W.kdl_dict (knd := mixKind X.prog X.w) (kvs := vs) (ep := ep) lo) (I.ok.hd hc) hat (by rw [← rel.length]; exact z) fun h' tk acc hk hacc => ?_
  have hv : Vals (vs.map fun p => kV p.1) acc.toList := keys_at (by rw [Array.length_toList]; exact hacc.1) fun j v e => hacc.2 j v (by rw [← Array.getElem?_toList]; exact e)
  have I1 : Inv X pins σ H { s with heap := h', toks := tk } := I.kept hk
  refine ⟨.ref h'.objs.size, upd H h'.objs.size (.tup (kvs.map fun kv => kV kv.1)), I1.laid (t' := tk) (fun b o e => Heap.get?_push_of_some _ e) (Nat.le_refl _)
    (show ObjOk X.prog X.w _ _ _ (.tup (kvs.map fun kv => kV kv.1)) from ⟨by rw [List.length_map]; exact z, acc.toList, by rw [ek]; exact hv, ?_⟩), rfl, q _ (I1.hok.fresh (Nat.le_refl _))⟩
  have := IsTup.new h' acc
  simpa using this
def fTupleD (ds : List D) : Option (Bool × D) := match ds with
  | [.dK kvs] => some0 (.tup (kvs.map fun kv => kD kv.1))
  | _ => none
theorem p_tupleD : PureN W rTupD fTupleD := by
  intro S H vs ds c Q hd h hf r
  unfold fTupleD at hf
  split at hf
  · cases hf
    obtain ⟨v, rfl, dv⟩ := h.one
    obtain ⟨a, ws, rfl, ha, dp⟩ := dv.dK_at
    exact ⟨a, ws, rfl, ha, PRes.tup hd (keysL dp) r⟩
  · cases hf
end
end Sx
set_option Elab.async false
set_option linter.all false
set_option maxRecDepth 100000
set_option maxHeartbeats 4000000
set_option autoImplicit false
namespace Sx
open PySem L2
/-! texts in order -/
def Sl (xs : List Str) : List D := xs.map D.str
def Lt (a b : Str) : Prop := a.cps.toList < b.cps.toList
/-! order -/
theorem Lt.irr (a : Str) : ¬ Lt a a := List.lt_irrefl _
theorem Lt.trans {a b c : Str} (h : Lt a b) (g : Lt b c) : Lt a c := List.lt_trans h g
theorem Lt.tri {a b : Str} (h : ¬ Lt a b) (g : ¬ Lt b a) : a = b := PySem.W.str_of_cps (List.le_antisymm (List.not_lt.mp g) (List.not_lt.mp h))
instance (a b : Str) : Decidable (Lt a b) := inferInstanceAs (Decidable (_ < _))
def leS (a b : Str) : Bool := !decide (Lt b a)
def srt (xs : List Str) : List Str := xs.mergeSort leS
theorem leS_trans (a b c : Str) (h : leS a b = true) (g : leS b c = true) : leS a c = true := by
  unfold leS at *
  simp only [Bool.not_eq_true', decide_eq_false_iff_not] at *
  intro z
  by_cases e : Lt b a
  · exact h e
  · by_cases e2 : Lt a b
    · exact g (Lt.trans z e2)
    · have := Lt.tri e e2
      subst this
      exact g z
theorem leS_total (a b : Str) : (leS a b || leS b a) = true := by
  unfold leS
  rw [Bool.or_eq_true, Bool.not_eq_true', Bool.not_eq_true', decide_eq_false_iff_not, decide_eq_false_iff_not]
  by_cases e : Lt b a
  · exact .inr fun z => Lt.irr _ (Lt.trans z e)
  · exact .inl e
theorem srt_mem {x : Str} {xs : List Str} : x ∈ srt xs ↔ x ∈ xs := List.mem_mergeSort
theorem srt_perm (xs : List Str) : (srt xs).Perm xs := List.mergeSort_perm xs leS
theorem srt_lt {xs : List Str} (h : xs.Nodup) : (srt xs).Pairwise Lt := by
  have so := List.pairwise_mergeSort (le := leS) leS_trans leS_total xs
  have nd : (srt xs).Nodup := (srt_perm xs).nodup_iff.mpr h
  refine (so.and nd).imp fun {a b} ⟨h1, h2⟩ => ?_
  unfold leS at h1
  simp only [Bool.not_eq_true', decide_eq_false_iff_not] at h1
  exact Classical.byContradiction fun z => h2 (Lt.tri z h1)
theorem lt_unique : ∀ {l m : List Str}, l.Pairwise Lt → m.Pairwise Lt → (∀ x, x ∈ l ↔ x ∈ m) → l = m
  | [], [], _, _, _ => rfl
  | [], y :: m, _, _, h => by have := (h y).mpr List.mem_cons_self; simp at this
  | x :: l, [], _, _, h => by have := (h x).mp List.mem_cons_self; simp at this
  | x :: l, y :: m, hl, hm, h => by
    obtain ⟨l1, l2⟩ := List.pairwise_cons.mp hl
    obtain ⟨m1, m2⟩ := List.pairwise_cons.mp hm
    have e : x = y := by
      rcases List.mem_cons.mp ((h x).mp List.mem_cons_self) with e | hx
      · exact e
      · rcases List.mem_cons.mp ((h y).mpr List.mem_cons_self) with e | hy
        · exact e.symm
        · exact absurd (Lt.trans (m1 x hx) (l1 y hy)) (Lt.irr _)
    subst e
    rw [lt_unique l2 m2 fun z => ⟨fun hz => ?_, fun hz => ?_⟩]
    · rcases List.mem_cons.mp ((h z).mp (List.mem_cons_of_mem _ hz)) with e | hz'
      · exact absurd (e ▸ l1 z hz) (Lt.irr _)
      · exact hz'
    · rcases List.mem_cons.mp ((h z).mpr (List.mem_cons_of_mem _ hz)) with e | hz'
      · exact absurd (e ▸ m1 z hz) (Lt.irr _)
      · exact hz'
end Sx
set_option Elab.async false
set_option linter.all false
set_option maxRecDepth 100000
set_option maxHeartbeats 4000000
set_option autoImplicit false
namespace Sx
open PySem L2 PyProof.Rows
section
variable {W : Wd} {S P S' P' : Addr → Prop} {H H' : Hp} {en : En} {σ : L2.St} {v : V} {d : D} {X : Cx}
/-! sorted(d) of a dict whose keys are texts -/
theorem rising_le : ∀ {ys : List Str} {p : Str}, PyProof.Rows.risingS p ys = true → (p :: ys).Pairwise fun a b => leS a b = true
  | [], p, _ => List.pairwise_singleton _ _
  | x :: r, p, h => by
    unfold PyProof.Rows.risingS at h
    rw [Bool.and_eq_true] at h
    have ih := rising_le h.2
    have px : leS p x = true := by
      have z := h.1
      have q : leS p x = !Spec.ltCps x.cps.toList p.cps.toList := PyProof.Rows.le_meets p x
      rw [q]
      exact z
    refine List.pairwise_cons.mpr ⟨fun a ha => ?_, ih⟩
    rcases List.mem_cons.mp ha with rfl | ha
    · exact px
    · exact leS_trans _ _ _ px ((List.pairwise_cons.mp ih).1 a ha)
theorem sorted_one {ys ks : List Str} (hp : ys.Perm ks) (hs : PyProof.Rows.sortedS ys = true) : ys = srt ks := by
  have p1 : ys.Pairwise fun a b => leS a b = true := by
    cases ys with
    | nil => exact .nil
    | cons y ys => exact rising_le hs
  have p2 : (srt ks).Pairwise fun a b => leS a b = true := List.pairwise_mergeSort (le := leS) leS_trans leS_total ks
  exact List.Perm.eq_of_pairwise (fun a b _ _ h1 h2 => by
    unfold leS at h1 h2
    simp only [Bool.not_eq_true', decide_eq_false_iff_not] at h1 h2
    exact (Lt.tri h2 h1)) p1 p2 (hp.trans (srt_perm ks).symm)
def strKs : List (Key × D) → Option (List Str)
  | [] => some []
  | (.inr x, _) :: r => (strKs r).bind fun ks => some (x :: ks)
  | _ => none
theorem strKs_keys : ∀ {ds : List (Key × D)} {ks : List Str}, strKs ds = some ks → ds.map (·.1) = ks.map Sum.inr
  | [], ks, h => by cases h; rfl
  | (.inr x, _) :: r, ks, h => by
    obtain ⟨js, h1, h2⟩ := Option.bind_eq_some_iff.mp h
    cases h2
    rw [List.map_cons, List.map_cons, strKs_keys h1]
  | (.inl i, _) :: r, ks, h => by cases h
def rSortD : List V → Hp → VK → Prop := fun xs H Q => ∃ (a : Addr) (kvs : List (Key × V)) (ks : List Str), xs = [.ref a] ∧ Rd H a (.dK kvs) ∧ kvs.map (·.1) = ks.map Sum.inr ∧ ks.length < 64 ∧
    ∀ ys p, ys.Perm ks → PyProof.Rows.sortedS ys = true → H p = none → Q (.ref p) (upd H p (.lst (ys.map V.str)))
def fSortedD (ds : List D) : Option (Bool × D) := match ds with
  | [.dK kvs] => (strKs kvs).bind fun ks => if ks.length < 64 then some1 (.lst (Sl (srt ks))) else none
  | _ => none
theorem strL_dv : ∀ xs : List Str, DvL W S H (xs.map V.str) (Sl xs)
  | [] => .nil
  | x :: xs => .cons trivial (.str x) (strL_dv xs)
theorem p_sortD : PureN W rSortD fSortedD := by
  intro S H vs ds c Q hd h hf r
  unfold fSortedD at hf
  split at hf
  · obtain ⟨ks, hk, hf⟩ := Option.bind_eq_some_iff.mp hf
    split at hf
    · rename_i hl
      cases hf
      obtain ⟨v, rfl, dv⟩ := h.one
      obtain ⟨a, ws, rfl, ha, dp⟩ := dv.dK_at
      refine ⟨a, ws, ks, rfl, ha, dp.keys.trans (strKs_keys hk), hl, fun ys p hp hs hn => ?_⟩
      rw [sorted_one hp hs]
      exact PRes.lst hd (strL_dv _) r p hn
    · cases hf
  · cases hf
/-! ### displays of dicts -/
def prRuns : List (Run × Run) → Runs
  | [] => rNil
  | (k, v) :: r => rCons k (rCons v (prRuns r))
def keysOf : List D → Option (List (Key × D))
  | [] => some []
  | a :: b :: r => (keyOf a).bind fun k => (keysOf r).bind fun ks => some ((k, b) :: ks)
  | _ => none
def mergeD (kvs more : List (Key × D)) : List (Key × D) := more.foldl (fun acc kv => putD acc kv.1 kv.2) kvs
def mkDK (ds : List D) : Option (Bool × D) := (keysOf ds).bind fun ks => if ks.length ≤ 15 then some (true, .dK (mergeD [] ks)) else none
theorem merge_dv : ∀ {kvs acc : List (Key × V)} {ks acd : List (Key × D)}, DvP W S H acc acd → DvP W S H kvs ks → DvP W S H (mergeK acc kvs) (mergeD acd ks)
  | [], acc, _, acd, h, g => by cases g; exact h
  | (k, v) :: kvs, acc, _, acd, h, g => by
    cases g with
    | @cons _ _ _ _ d ds t dv r =>
      show DvP W S H (mergeK (putK acc k v) kvs) (mergeD (putD acd k d) ds)
      exact merge_dv (DvP.putK ⟨t, dv⟩ h) r
/-- a new object, guarded while other things are made -/
theorem Rel.born {p : Addr} {u : HO} (R : Rel W S P en σ H) (hp : H p = none) (nu : ∀ xs, u ≠ .tup xs := by intro _ z; cases z) : Rel W S P en σ (upd H p u) ∧ Free W P en σ p ∧ Ext S P H S P (upd H p u) ∧ ¬ S p ∧ ¬ P p := by
  have nP : ¬ P p := fun h => by obtain ⟨o, e⟩ := R.pd p h; rw [hp] at e; cases e
  have dd : p ≠ W.da ∧ NB W p := by
    obtain ⟨ne, ns, i, j, k, h1, h2, h3⟩ := R.dr
    exact ⟨fun z => (by rw [← z, hp] at h1; cases h1), NB.of_none ⟨_, h2⟩ R.tb hp⟩
  obtain ⟨e0, R0⟩ := R.same (upd_keeps (u := u) hp) (fun _ h => h) (fun _ h => .inl h) (fun a h => by obtain ⟨o, e⟩ := R.dom a h; exact ⟨o, upd_keeps hp a o e⟩) (tup_upd nu)
  have eq : (fun a => P a ∨ S a) = P := by funext a; exact propext ⟨fun h => h.elim id (R.sp a), .inl⟩
  rw [eq] at R0 e0
  refine ⟨R0, ⟨nP, dd.1, dd.2, fun i f d e nf hv => ?_⟩, e0, fun h => nP (R.sp p h), nP⟩
  obtain ⟨v, hv', _, _, ow⟩ := R.slot i f d e
  obtain ⟨q, o, ev, _, _, _, _, _, h3⟩ := ow nf
  rw [hv'] at hv
  cases hv
  cases ev
  rw [hp] at h3; cases h3
def rDsp (l : List (Run × Run)) : Run := rDisp mkDK (prRuns l)
end
end Sx
set_option Elab.async false
set_option linter.all false
set_option maxRecDepth 100000
set_option maxHeartbeats 4000000
set_option autoImplicit false
namespace Sx
open PySem L2
/-! ### dict comprehensions -/
def rDcL (t : Tg) (rt : RunT) (rk re : Run) (vs : List Nat) : List D → En → List (Key × D) → T (List (Key × D) × En)
  | [], en, acc => .ret (acc, en)
  | d :: ds, en, acc => (T.ofOpt (t d en)).bind fun en1 => (rt en1).bind fun b => if b.1 then (rk b.2).bind fun k => (T.ofOpt ((valO k.1).bind keyOf)).bind fun kk => (re k.2).bind fun o => (T.ofOpt (valO o.1)).bind fun y => rDcL t rt rk re vs ds (wip o.2 vs) (putD acc kk y) else rDcL t rt rk re vs ds (wip b.2 vs) acc
def rDc (ri : RunI) (l : Option Nat) (t : Tg) (rt : RunT) (rk re : Run) (vs : List Nat) : Run := fun en => (ri en).bind fun a => if a.1.length ≤ 4096 then (rDcL t rt rk re vs a.1 (wip a.2 vs) []).bind fun r => .ret (.fr (.dK r.1), unl l (back r.2 a.2 vs)) else .fail
theorem putK_len {α : Type} [DecidableEq α] (acc : List (α × V)) (k : α) (v : V) : (putK acc k v).length ≤ acc.length + 1 := by
  unfold putK
  split
  · rw [List.length_map]; omega
  · rw [List.length_append]; exact Nat.le_refl _
section
variable {W : Wd} {X : Cx} {pos : Pos} {ri : RunI} {l : Option Nat} {g : TG} {t : Tg} {is : List Nat} {rt : RunT} {rk re : Run}
theorem tv_dc {vs : List Nat} (gk : GOk W g t is) (sg : ShG t is) (his : ∀ i ∈ is, i ∈ vs) (ht : ShT rt) (hkk : ShR rk) (he : ShR re) (hsz : (4096 : Nat) < sizeLine) {σ : St} {H : Hp} {Q : VK} (h : TV W (rDc ri l t rt rk re vs) σ H Q) :
    tDc (TVI W ri l) g (TVT W rt) (TV W rk) (TV W re) vs σ H Q := by
  obtain ⟨S, P, en, R, w⟩ := h
  have w := (T.wp_bind _ _ _).mp w
  refine ⟨S, P, en, R, T.wp_mono w fun r q J H1 S1 P1 Pw e1 R1 hPw hun _ wk => ?_⟩
  intro Da hD
  have q : (if r.1.length ≤ 4096 then (rDcL t rt rk re vs r.1 (wip r.2 vs) []).bind fun r' => T.ret (Op.fr (.dK r'.1), unl l (back r'.2 r.2 vs)) else T.fail).wp _ := q
  split at q
  case isFalse => exact q.elim
  rename_i hlen
  have q := (T.wp_bind _ _ _).mp q
  have pwd : ∀ a, Pw a → a ≠ Da := fun a h z => by obtain ⟨o, e⟩ := R1.pd a h; rw [z, hD] at e; cases e
  have dd1 : Da ≠ W.da ∧ NB W Da := by
    obtain ⟨ne, ns, i, j, k, h1, h2, h3⟩ := R1.dr
    exact ⟨fun z => (by rw [← z, hD] at h1; cases h1), NB.of_none ⟨_, h2⟩ R1.tb hD⟩
  -- the start
  have e0 : Ext S1 Pw H1 S1 Pw (upd H1 Da (.dK [])) := ⟨fun _ h => h, fun _ h => h, fun a h => upd_ne (pwd a h), fun _ h => .inl h⟩
  have R0 : Rel W S1 Pw (wip r.2 vs) (wipe σ vs) (upd H1 Da (.dK [])) ∧ Free W Pw (wip r.2 vs) (wipe σ vs) Da := by
    obtain ⟨_, R0⟩ := (R1.wipe0 vs).same (upd_keeps (u := .dK []) hD) (fun _ h => h) (fun _ h => .inl h) (fun a h => by obtain ⟨o, e⟩ := R1.dom a h; exact ⟨o, upd_keeps hD a o e⟩) tup_upd
    have R0' : Rel W S1 Pw (wip r.2 vs) (wipe σ vs) (upd H1 Da (.dK [])) := by
      have eq : (fun a => Pw a ∨ S1 a) = Pw := by funext a; exact propext ⟨fun h => h.elim id (R1.sp a), .inl⟩
      rw [eq] at R0; exact R0
    refine ⟨R0', fun h => pwd Da h rfl, dd1.1, dd1.2, fun i f d e nf hv => ?_⟩
    obtain ⟨v, hv', _, _, ow⟩ := (R1.wipe0 vs).slot i f d e
    obtain ⟨q, o, ev, _, _, _, _, _, h3⟩ := ow nf
    rw [hv'] at hv
    cases hv
    cases ev
    rw [hD] at h3; cases h3
  refine ⟨fun i m H2 => i ≤ r.1.length ∧ m = r.1.length - i ∧ ∃ S2 P2 en2 acc accD, Ext S1 Pw H1 S2 P2 H2 ∧ Rel W S2 P2 en2 (wipe σ vs) H2 ∧ ¬ S2 Da ∧ Free W P2 en2 (wipe σ vs) Da ∧ H2 Da = some (.dK acc) ∧ DvP W S2 H2 acc accD ∧ acc.length ≤ i ∧
    (rDcL t rt rk re vs (r.1.drop i) en2 accD).wp fun r' => ∀ v H' S' P', Ext S P H S' P' H' → Rel W S' P' (unl l (Sx.back r'.2 r.2 vs)) σ H' → OpOk W S' P' (unl l (Sx.back r'.2 r.2 vs)) σ H' v (.fr (.dK r'.1)) → Q v H',
    ⟨_, Nat.zero_le _, rfl, S1, Pw, wip r.2 vs, [], [], e0, R0.1, fun h => pwd Da (R1.sp Da h) rfl, R0.2, upd_same, .nil, Nat.zero_le _, q⟩, ?_⟩
  rintro i m H2 ⟨hi, rfl, S2, P2, en2, acc, accD, e2, R2, nS, fD, hD2, dl, hacc, w2⟩
  by_cases hlt : i < r.1.length
  case neg =>
    have ei : i = r.1.length := by omega
    subst ei
    rw [List.drop_length] at w2
    refine .inl ⟨wk.stop _ H2 (fun a h => e2.h a h) (Nat.le_refl _), ?_⟩
    obtain ⟨P3, hP3, e3, R3⟩ := hun S2 P2 (Sx.back en2 r.2 vs) σ H2 (.inr rfl) e2 (R1.back e2 R2)
    refine w2 (.ref Da) H2 S2 P3 (e1.trans e3) R3 ⟨.dK (.inl hD2) dl, Da, _, rfl, ⟨fun h => fD.1 (hP3 Da h), dd1.1, dd1.2, fun j f d e nf hv => ?_⟩, hD2⟩
    obtain ⟨g', d', e', nf'⟩ := unl_nf e nf
    rcases back_get e' with ⟨_, rfl, _⟩ | ⟨hj, q1⟩
    · exact absurd rfl nf'
    · rw [← wipe_at hj] at hv
      exact fD.2.2.2 j g' d' q1 nf' hv
  refine .inr ⟨wk.go i H2 (fun a h => e2.h a h) hlt, fun H3 => ∃ S2 P2 en2 acc accD, Ext S1 Pw H1 S2 P2 H3 ∧ Rel W S2 P2 en2 (wipe σ vs) H3 ∧ ¬ S2 Da ∧ Free W P2 en2 (wipe σ vs) Da ∧ H3 Da = some (.dK acc) ∧ DvP W S2 H3 acc accD ∧ acc.length ≤ i + 1 ∧
    (rDcL t rt rk re vs (r.1.drop (i + 1)) en2 accD).wp fun r' => ∀ v H' S' P', Ext S P H S' P' H' → Rel W S' P' (unl l (Sx.back r'.2 r.2 vs)) σ H' → OpOk W S' P' (unl l (Sx.back r'.2 r.2 vs)) σ H' v (.fr (.dK r'.1)) → Q v H',
    fun H3 z => ⟨r.1.length - (i + 1), by omega, hlt, rfl, z⟩, fun x H3 y => ?_⟩
  -- Da guarded through the turn
  have Rg := R2.guard fD hD2
  have eg : Ext S2 P2 H2 S2 (add P2 Da) H2 := ⟨fun _ h => h, fun a h => .inl h, fun _ _ => rfl, fun _ h => .inl h⟩
  obtain ⟨d, S3, P3, hd, e3, R3, dz⟩ := wk.turn Rg (fun a h => e2.s a h) (fun a h => ⟨.inl (e2.p a h), e2.h a h⟩) hlt y
  have nS3 : ¬ S3 Da := fun h => (e3.n Da h).elim nS fun z => z (.inr rfl)
  have hD3 : H3 Da = some (.dK acc) := (e3.h Da (.inr rfl)).trans hD2
  rw [drop_at hd] at w2
  obtain ⟨en3, htg, w3⟩ := T.wp_ofOpt ((T.wp_bind _ _ _).mp w2)
  refine gk S3 P3 en2 en3 x d (wipe σ vs) H3 _ R3 dz htg fun σ3 ha hl R4 => ⟨wipe_eq his ha hl, ?_⟩
  -- no locked name holds Da
  obtain ⟨sg1, sg2⟩ := sg d en2 en3 htg
  have lk3 : ∀ (j : Nat) (d' : D), en3[j]? = some (some (.lk, d')) → σ3[j]? ≠ some (some (.ref Da)) := by
    intro j d' e hv
    by_cases hj : j ∈ is
    · exact sg2 j hj d' e
    · rw [ha j hj] at hv
      obtain ⟨d2, e2'⟩ := sg1 j d' e
      exact fD.2.2.2 j .lk d2 e2' (by decide) hv
  have w3 := (T.wp_bind _ _ _).mp w3
  have w3 := T.wp_all w3 (ht en3)
  have e13 : Ext S1 Pw H1 S3 P3 H3 := (e2.trans eg).trans e3
  refine ⟨S3, P3, en3, R4, T.wp_mono w3 fun b ⟨q4, sb⟩ H4 S4 P4 e4 R5 => ?_⟩
  have nS4 : ¬ S4 Da := fun h => (e4.n Da h).elim nS3 fun z => z (e3.p Da (.inr rfl))
  have pD4 : P4 Da := e4.p Da (e3.p Da (.inr rfl))
  have hD4 : H4 Da = some (.dK acc) := (e4.h Da (e3.p Da (.inr rfl))).trans hD3
  have lk4 : ∀ (j : Nat) (d' : D), b.2[j]? = some (some (.lk, d')) → σ3[j]? ≠ some (some (.ref Da)) := fun j d' e => by
    obtain ⟨d2, e'⟩ := sb j d' e
    exact lk3 j d2 e'
  have dl4 : DvP W S4 H4 acc accD := (dl.mono (fun a h => e3.s a h) fun a h => e3.h a (.inl (R2.sp a h))).mono (fun a h => e4.s a h) fun a h => e4.h a (R3.sp a h)
  have drop0 : ∀ (S5 P5 : Addr → Prop) (H5 : Hp), Ext S1 Pw H1 S5 P5 H5 → ¬ S5 Da → ∀ u, Ext S1 Pw H1 S5 (fun a => P5 a ∧ a ≠ Da) (upd H5 Da u) := fun S5 P5 H5 e nS5 u =>
    ⟨e.s, fun a h => ⟨e.p a h, pwd a h⟩, fun a h => (upd_ne (pwd a h)).trans (e.h a h), e.n⟩
  have same : ∀ (H5 : Hp) (u : HO), H5 Da = some u → upd H5 Da u = H5 := fun H5 u e => by
    funext a
    by_cases h : a = Da
    · subst h; rw [upd_same, e]
    · exact upd_ne h
  obtain ⟨bb, enb⟩ := b
  cases bb with
  | false =>
    obtain ⟨R6, f6⟩ := R5.turn (u := .dK acc) pD4 nS4 lk4 (Tabs.upd R5.tb hD4 (nx_dK _))
    rw [same H4 _ hD4] at R6
    have d0 := drop0 S4 P4 H4 (e13.trans e4) nS4 (.dK acc)
    rw [same H4 _ hD4] at d0
    refine ⟨S4, _, wip enb vs, acc, accD, d0, R6.wipe his ha (by rw [hl, wipe_length]), nS4, ⟨f6.1, dd1.1, dd1.2, fun j f d' e nf hv => ?_⟩, hD4, dl4, Nat.le_succ_of_le hacc, q4⟩
    obtain ⟨hj, e'⟩ := wip_get e
    rw [wipe_at hj] at hv
    rw [← wipe_at hj, ← ha j fun z => hj (his j z)] at hv
    exact f6.2.2.2 j f d' e' nf hv
  | true =>
    have q4 := (T.wp_bind _ _ _).mp q4
    have q4 := T.wp_all q4 (hkk enb)
    refine ⟨S4, P4, enb, R5, T.wp_mono q4 fun o1 ⟨q5, so1⟩ yk H45 S45 P45 e45 R45 ok1 => ?_⟩
    obtain ⟨kk, hkk2, q5⟩ := T.wp_ofOpt ((T.wp_bind _ _ _).mp q5)
    obtain ⟨kd, hkd, hkk3⟩ := Option.bind_eq_some_iff.mp hkk2
    obtain ⟨S46, P46, e46, R46, dzk⟩ := ok1.valz R45 hkd
    have ek : yk = kV kk := keyOf_v dzk.2 hkk3
    have nS46 : ¬ S46 Da := fun h => (e46.n Da h).elim (fun h => (e45.n Da h).elim nS4 fun z => z pD4) fun z => z (e45.p Da pD4)
    have pD46 : P46 Da := e46.p Da (e45.p Da pD4)
    have hD46 : H45 Da = some (.dK acc) := (e45.h Da pD4).trans hD4
    have lk46 : ∀ (j : Nat) (d' : D), o1.2[j]? = some (some (.lk, d')) → σ3[j]? ≠ some (some (.ref Da)) := fun j d' e => by
      obtain ⟨d2, e'⟩ := so1 j d' e
      exact lk4 j d2 e'
    have dl46 : DvP W S46 H45 acc accD := (dl4.mono (fun a h => e45.s a h) fun a h => e45.h a (R5.sp a h)).mono (fun a h => e46.s a h) fun a _ => rfl
    have q5 := (T.wp_bind _ _ _).mp q5
    have q5 := T.wp_all q5 (he o1.2)
    refine ⟨S46, P46, o1.2, R46, T.wp_mono q5 fun o ⟨q6, so⟩ yv H5 S5 P5 e5 R6 ok => ?_⟩
    obtain ⟨yd, hy, q6⟩ := T.wp_ofOpt ((T.wp_bind _ _ _).mp q6)
    have nS5 : ¬ S5 Da := fun h => (e5.n Da h).elim nS46 fun z => z pD46
    obtain ⟨S6, P6, e6, R7, dz6⟩ := ok.valz R6 hy
    have nS6 : ¬ S6 Da := fun h => (e6.n Da h).elim nS5 fun z => z (e5.p Da pD46)
    have pD6 : P6 Da := e6.p Da (e5.p Da pD46)
    have hD6 : H5 Da = some (.dK acc) := (e5.h Da pD46).trans hD46
    have lk6 : ∀ (j : Nat) (d' : D), o.2[j]? = some (some (.lk, d')) → σ3[j]? ≠ some (some (.ref Da)) := fun j d' e => by
      obtain ⟨d2, e'⟩ := so j d' e
      exact lk46 j d2 e'
    have dl6 : DvP W S6 H5 acc accD := (dl46.mono (fun a h => e5.s a h) fun a h => e5.h a (R46.sp a h)).mono (fun a h => e6.s a h) fun a _ => rfl
    obtain ⟨R8, f8⟩ := R7.turn (u := .dK (putK acc kk yv)) pD6 nS6 lk6 (Tabs.upd R7.tb hD6 (nx_dK _))
    have hup : ∀ a, S6 a → upd H5 Da (.dK (putK acc kk yv)) a = H5 a := fun a h => upd_ne fun z => nS6 (z ▸ h)
    refine ⟨acc, kk, ek, hD6, Nat.lt_of_le_of_lt (Nat.le_trans hacc (Nat.le_trans hi hlen)) hsz, S6, _, wip o.2 vs, putK acc kk yv, putD accD kk yd, drop0 S6 P6 H5 ((e13.trans e4).trans ((e45.trans e46).trans (e5.trans e6))) nS6 _, R8.wipe his ha (by rw [hl, wipe_length]), nS6, ⟨f8.1, dd1.1, dd1.2, fun j f d' e nf hv => ?_⟩, upd_same,
      (DvP.putK dz6 dl6).mono (fun _ h => h) hup, Nat.le_trans (putK_len acc kk yv) (Nat.succ_le_succ hacc), q6⟩
    obtain ⟨hj, e'⟩ := wip_get e
    rw [← ha j fun z => hj (his j z)] at hv
    exact f8.2.2.2 j f d' e' nf hv
theorem e_dc {tg iter kx vx : Expr} {ifs : List Expr} {scope : Scope} [h1 : ShTg t is] [h2 : ShTst rt] [h0 : ShRun rk] [h3 : ShRun re] (own : List (Str × Nat)) (hNd : X.N.Nodup) (ok : BlkOk X.N X.env.scope scope own) (hi : PI X tg iter (TVI W ri l))
    (hg : ∀ (s : Shared) (H : Hp) (C : Addr) (cl : List (Str × Addr)) (fp : List Addr), PG (X.blk s H scope (compEnvC scope cl C X.env) fp) tg g) (gk : GOk W g t is)
    (ht : ∀ (s : Shared) (H : Hp) (C : Addr) (cl : List (Str × Addr)) (fp : List Addr), PTs (X.blk s H scope (compEnvC scope cl C X.env) fp) ifs (TVT W rt))
    (hk : ∀ (s : Shared) (H : Hp) (C : Addr) (cl : List (Str × Addr)) (fp : List Addr), PE (X.blk s H scope (compEnvC scope cl C X.env) fp) kx (TV W rk))
    (he : ∀ (s : Shared) (H : Hp) (C : Addr) (cl : List (Str × Addr)) (fp : List Addr), PE (X.blk s H scope (compEnvC scope cl C X.env) fp) vx (TV W re)) (his : ∀ i ∈ is, i ∈ own.map (·.2) := by decide) (hc : X.calm = true := by rfl) (hs : ∀ x, foldedSetIterable iter X.env x = pure x := by intro _; rfl) :
    PE X (.DictComp kx vx [⟨tg, iter, ifs, 0⟩] scope pos) (TV W (rDc ri l t rt rk re (own.map (·.2)))) :=
  pe_weak (pe_dc hc hNd hi ok hg ht hk he hs) fun σ H Q h => tv_dc gk h1.sh his h2.sh h0.sh h3.sh sz4096 h
end
end Sx
set_option Elab.async false
set_option linter.all false
set_option maxRecDepth 100000
set_option maxHeartbeats 4000000
set_option autoImplicit false
namespace Sx
open PySem L2
/-! ### dicts walked: the dict is locked for the while -/
structure Keeps (H H' : Hp) : Prop where
  pl : ∀ a u, H a = some u → (∀ kvs, u ≠ .dK kvs) → (∀ o u', u ≠ .frz o u') → H' a = some u
  dk : ∀ a kvs, Rd H a (.dK kvs) → Rd H' a (.dK kvs)
  fr : ∀ a o u, H a = some (.frz o u) → (∀ kvs, u ≠ .dK kvs) → H' a = some (.frz o u)
  ex : ∀ a o, H a = some o → ∃ o', H' a = some o'
  tp : ∀ a xs, H' a = some (.tup xs) → H a = some (.tup xs)
theorem Keeps.lock {H : Hp} {d : Addr} {o : Obj} {vs : List (Key × V)} (h : H d = some (.dK vs)) : Keeps H (upd H d (.frz o (.dK vs))) := by
  refine ⟨fun a u e n1 n2 => ?_, fun a kvs e => ?_, fun a o' u e n => ?_, fun a u e => ?_, fun a xs e => by
    by_cases z : a = d
    · rw [z, upd_same] at e; cases e
    · rw [upd_ne z] at e; exact e⟩
  · rw [upd_ne fun z => by rw [z, h] at e; cases e; exact n1 _ rfl]; exact e
  · by_cases z : a = d
    · subst z
      rcases e with e | ⟨o', e⟩
      · rw [h] at e; cases e; exact .inr ⟨o, upd_same⟩
      · rw [h] at e; cases e
    · exact rd_at (upd_ne z) e
  · rw [upd_ne fun z => by rw [z, h] at e; cases e]; exact e
  · by_cases z : a = d
    · subst z; exact ⟨_, upd_same⟩
    · exact ⟨u, by rw [upd_ne z]; exact e⟩
theorem Keeps.unlock {H : Hp} {d : Addr} {o : Obj} {vs : List (Key × V)} (h : H d = some (.frz o (.dK vs))) : Keeps H (upd H d (.dK vs)) := by
  refine ⟨fun a u e n1 n2 => ?_, fun a kvs e => ?_, fun a o' u e n => ?_, fun a u e => ?_, fun a xs e => by
    by_cases z : a = d
    · rw [z, upd_same] at e; cases e
    · rw [upd_ne z] at e; exact e⟩
  · rw [upd_ne fun z => by rw [z, h] at e; cases e; exact n2 _ _ rfl]; exact e
  · by_cases z : a = d
    · subst z
      rcases e with e | ⟨o', e⟩
      · rw [h] at e; cases e
      · rw [h] at e; cases e; exact .inl upd_same
    · exact rd_at (upd_ne z) e
  · rw [upd_ne fun z => by rw [z, h] at e; cases e; exact n _ rfl]; exact e
  · by_cases z : a = d
    · subst z; exact ⟨_, upd_same⟩
    · exact ⟨u, by rw [upd_ne z]; exact e⟩
theorem SqL.keeps {K : PySem.W.Frag} {H H' : Hp} {a : Addr} {xs : List V} (k : Keeps H H') (h : SqL K H a xs) : SqL K H' a xs := by
  rcases h with (h | ⟨o, h⟩) | h
  · exact .inl (.inl (k.pl _ _ h (fun _ z => by cases z) (fun _ _ z => by cases z)))
  · exact .inl (.inr ⟨o, k.fr _ _ _ h (fun _ z => by cases z)⟩)
  · exact .inr h
mutual
theorem Dv.keeps {W : Wd} {S : Addr → Prop} {H H' : Hp} (k : Keeps H H') : ∀ {v : V} {d : D}, Dv W S H v d → Dv W S H' v d
  | _, _, .non => .non
  | _, _, .bl b => .bl b
  | _, _, .int i => .int i
  | _, _, .str x => .str x
  | _, _, .lst h r => .lst (k.pl _ _ h (fun _ z => by cases z) (fun _ _ z => by cases z)) (DvL.keeps k r)
  | _, _, .tup h r => .tup (h.imp (fun ⟨s, q⟩ => ⟨s, k.pl _ _ q (fun _ z => by cases z) (fun _ _ z => by cases z)⟩) id) (DvL.keeps k r)
  | _, _, .dK h r => .dK (k.dk _ _ h) (DvP.keeps k r)
  | _, _, .dT h r => .dT (k.pl _ _ h (fun _ z => by cases z) (fun _ _ z => by cases z)) (DvP.keeps k r)
  | _, _, .obj h r => .obj (k.pl _ _ h (fun _ z => by cases z) (fun _ _ z => by cases z)) (DvP.keeps k r)
  | _, _, .scr h => .scr (h.imp (fun ⟨s, q⟩ => ⟨s, SqL.keeps k q⟩) id)
  | _, _, .drw => .drw
  | _, _, .ty n => .ty n
  | _, _, .cl c => .cl c
  | _, _, .adr a => .adr a
  | _, _, .exc e s h r => .exc (k.pl _ _ e (fun _ z => by unfold ExcO at z; cases z) (fun _ _ z => by unfold ExcO at z; cases z)) s (k.pl _ _ h (fun _ z => by cases z) (fun _ _ z => by cases z)) (DvP.keeps k r)
  | _, _, .exc0 e => .exc0 (k.pl _ _ e (fun _ z => by unfold ExcO at z; cases z) (fun _ _ z => by unfold ExcO at z; cases z))
  | _, _, .tk h => .tk (k.pl _ _ h (fun _ z => by cases z) (fun _ _ z => by cases z))
theorem DvL.keeps {W : Wd} {S : Addr → Prop} {H H' : Hp} (k : Keeps H H') : ∀ {vs : List V} {ds : List D}, DvL W S H vs ds → DvL W S H' vs ds
  | _, _, .nil => .nil
  | _, _, .cons t h r => .cons t (Dv.keeps k h) (DvL.keeps k r)
theorem DvP.keeps {W : Wd} {S : Addr → Prop} {H H' : Hp} (k : Keeps H H') : ∀ {κ : Type} {vs : List (κ × V)} {ds : List (κ × D)}, DvP W S H vs ds → DvP W S H' vs ds
  | _, _, _, .nil => .nil
  | _, _, _, .cons t h r => .cons t (Dv.keeps k h) (DvP.keeps k r)
end
section
variable {W : Wd} {S P S' P' : Addr → Prop} {en en1 : En} {σ : St} {H H' : Hp} {v : V} {X : Cx} {o : Op} {c : Bool × D}
theorem DrawOk.keeps (k : Keeps H H') (h : DrawOk W H) : DrawOk W H' := by
  obtain ⟨ne, ns, i, j, m, h1, h2, h3⟩ := h
  exact ⟨ne, ns, i, j, m, k.pl _ _ h1 (fun _ z => by cases z) (fun _ _ z => by cases z), k.pl _ _ h2 (fun _ z => by cases z) (fun _ _ z => by cases z), h3⟩
theorem Tabs.keeps {T : List (Addr × Str)} (k : Keeps H H') (t : LamX.Tabs T H) : LamX.Tabs T H' := fun x hx => by
  obtain ⟨ps, h1, h2, h3⟩ := t x hx
  refine ⟨ps, k.pl _ _ h1 (fun _ z => by cases z) (fun _ _ z => by cases z), h2, fun pos cv hc => ?_⟩
  obtain ⟨c, e1, e2⟩ := h3 pos cv hc
  exact ⟨c, e1, k.pl _ _ e2 (fun _ z => by unfold LamX.CodeO at z; cases z) (fun _ _ z => by unfold LamX.CodeO at z; cases z)⟩
theorem TbS.keeps (k : Keeps H H') (t : TbS W S H) : TbS W S H' := ⟨Tabs.keeps k t.1, fun a xs e => t.2 a xs (k.tp a xs e)⟩
theorem Rel.keeps (R : Rel W S P en σ H) (k : Keeps H H') : Rel W S P en σ H' := by
  refine ⟨R.sp, fun a h => by obtain ⟨o, e⟩ := R.pd a h; exact k.ex a o e, fun i f d e => ?_, R.inj, R.len, R.dr.keeps k, R.drP, R.tb.keeps k⟩
  obtain ⟨v, hv, dv, t, ow⟩ := R.slot i f d e
  refine ⟨v, hv, dv.keeps k, t, fun z => ?_⟩
  obtain ⟨p, o, ev, h1, h2, h3, h4, h5, h6⟩ := ow z
  obtain ⟨o', h7⟩ := k.ex _ _ h6
  exact ⟨p, o', ev, h1, h2, h3, h4, h5, h7⟩
theorem OpOk.keeps (k : Keeps H H') (h : OpOk W S P en σ H v o) : OpOk W S P en σ H' v o := by
  cases o with
  | v d => exact ⟨h.1, h.2.keeps k⟩
  | b i => exact h
  | fr d =>
    obtain ⟨dv, p, u, e, f, hu⟩ := h
    obtain ⟨u', hu'⟩ := k.ex _ _ hu
    exact ⟨dv.keeps k, p, u', e, f, hu'⟩
theorem ROk.keeps (k : Keeps H H') (h : ROk W S P H v c) : ROk W S P H' v c := by
  refine ⟨h.1.keeps k, h.2.1, fun z => ?_⟩
  obtain ⟨p, u, e, n, m1, m2, hu⟩ := h.2.2 z
  obtain ⟨u', hu'⟩ := k.ex _ _ hu
  exact ⟨p, u', e, n, m1, m2, hu'⟩
theorem RetOk.keeps (k : Keeps H H') (h : RetOk W S P H) : RetOk W S P H' := ⟨h.sp, fun a s => by obtain ⟨o, e⟩ := h.ds a s; exact k.ex a o e, h.dr.keeps k, h.dp, h.tb.keeps k⟩
/-! the way to a dict: a name, or a field of a name's object -/
abbrev Pth := En → Option (En × List (Key × D))
structure PathOk (W : Wd) (td : TE) (pa : St → Hp → Option Addr) (pth : Pth) : Prop where
  ok : ∀ {S P : Addr → Prop} {en en1 : En} {σ : St} {H : Hp} {kvs : List (Key × D)}, Rel W S P en σ H → pth en = some (en1, kvs) → ∃ S1 P1 d vs, Ext S P H S1 P1 H ∧ Rel W S1 P1 en1 σ H ∧ S1 d ∧ pa σ H = some d ∧ Rd H d (.dK vs) ∧ DvP W S1 H vs kvs
  td : ∀ {σ : St} {H : Hp} {d : Addr} {Q : VK}, pa σ H = some d → Q (.ref d) H → td σ H Q
  kp : ∀ {σ : St} {H H' : Hp} {d : Addr}, Keeps H H' → pa σ H = some d → pa σ H' = some d
def paV (i : Nat) : St → Hp → Option Addr := fun σ _ => match σ[i]? with
  | some (some (.ref a)) => some a
  | _ => none
def pthV (i : Nat) : Pth := fun en => match en[i]? with
  | some (some (.fz, .dK kvs)) => some (en, kvs)
  | some (some (.ow, .dK kvs)) => some ((en.set i none).set i (some (.fz, .dK kvs)), kvs)
  | _ => none
theorem path_var (i : Nat) : PathOk W (tVar i) (paV i) (pthV i) := by
  refine ⟨fun {S P en en1 σ H kvs} R h => ?_, fun {σ H d Q} h q => ?_, fun {σ H H' d} _ h => h⟩
  · have key : ∃ S1 P1 v, Ext S P H S1 P1 H ∧ Rel W S1 P1 en1 σ H ∧ σ[i]? = some (some v) ∧ Dz W S1 H v (.dK kvs) := by
      unfold pthV at h
      split at h
      · rename_i e
        cases h
        obtain ⟨v, hv, dv, t, _⟩ := R.slot i .fz _ e
        exact ⟨S, P, v, .refl, R, hv, t rfl, dv⟩
      · rename_i e
        cases h
        obtain ⟨p, o, hv, dv, hf, ho⟩ := R.free e
        obtain ⟨ex, R2⟩ := (R.drop i).freeze hf ho
        have dz : Dz W (add S p) H (.ref p) (.dK kvs) := ⟨Or.inr rfl, dv.mono ex.s (fun _ _ => rfl) rfl⟩
        have R3 := R2.put (i := i) (by rw [List.length_set]; exact lt_of_get e) dz
        rw [set_set_same R i _ hv] at R3
        exact ⟨_, _, .ref p, ex, R3, hv, dz⟩
      · cases h
    obtain ⟨S1, P1, v, e1, R1, hv, t, dv⟩ := key
    obtain ⟨a, vs, rfl, ha, dp⟩ := dv.dK_at
    refine ⟨S1, P1, a, vs, e1, R1, t, ?_, ha, dp⟩
    unfold paV
    rw [hv]
  · unfold paV at h
    split at h
    · rename_i e
      cases h
      exact ⟨_, e, q⟩
    · cases h
def pthF (i c0 : Nat) (f : Str) : Pth := fun en => match en[i]? with
  | some (some (.fz, d)) => (clsN c0 d).bind fun fs => (match fs.lookup f with
    | some (.dK kvs) => some (en, kvs)
    | _ => none)
  | _ => none
/-! the walk over the keys -/
def Locked (pa : St → Hp → Option Addr) (σ : St) (H : Hp) : Prop := ∃ d o vs, pa σ H = some d ∧ H d = some (.frz o (.dK vs))
def iKy (pth : Pth) : RunI := fun en => (T.ofOpt (pth en)).bind fun r => .ret (r.2.map fun kv => kD kv.1, r.1)
theorem walks_keys {d : Addr} {ob : Obj} {vs : List (Key × V)} {ds : List (Key × D)} (ha : P d) (h : H d = some (.frz ob (.dK vs))) (dp : DvP W S H vs ds) : Walks W S P H (Itk d ob vs) (ds.map fun kv => kD kv.1) := by
  have len : (ds.map fun kv => kD kv.1).length = vs.length := by rw [List.length_map, dp.lenK]
  refine ⟨fun i H2 q hi => ⟨(q d ha).trans h, by rw [← len]; exact hi⟩, fun i H2 q hi => ⟨(q d ha).trans h, by rw [← len]; exact hi⟩, fun i H2 x H3 q hi y => ?_⟩
  obtain ⟨rfl, k, v, hk, rfl⟩ := y
  refine ⟨kD k, ?_, .inl ⟨rfl, kD_dv k⟩⟩
  have : (vs.map (·.1))[i]? = some k := by rw [List.getElem?_map, hk]; rfl
  rw [dp.keys, List.getElem?_map] at this
  rw [List.getElem?_map]
  cases e : ds[i]? with
  | none => rw [e] at this; cases this
  | some p => rw [e] at this; cases this; rfl
theorem tvi_keys {td : TE} {pa : St → Hp → Option Addr} {pth : Pth} (ok : PathOk W td pa pth) {R : It → Hp → Prop} (hl : Locked pa σ H) (h : TVI W (iKy pth) none σ H R) : iKeys td σ H R := by
  obtain ⟨S, P, en, R0, w⟩ := h
  obtain ⟨⟨en1, kvs⟩, hp, w⟩ := T.wp_ofOpt ((T.wp_bind _ _ _).mp w)
  obtain ⟨S1, P1, d, vs, e1, R1, sd, hpa, hd, dp⟩ := ok.ok R0 hp
  obtain ⟨d', o, vs', h1, h2⟩ := hl
  rw [hpa] at h1
  cases h1
  have ev : vs' = vs := by
    rcases hd with hd | ⟨o', hd⟩
    · rw [hd] at h2; cases h2
    · rw [hd] at h2; cases h2; rfl
  subst ev
  refine ok.td hpa ⟨d, o, rfl, .inl ⟨vs', h2, w (Itk d o vs') H S1 P1 P1 e1 R1 (fun _ h => h) (fun S3 P3 en3 σ3 H3 _ e3 R3 => ⟨P3, fun _ h => h, e3, R3⟩) (fun _ => rfl) (walks_keys (R1.sp _ sd) h2 dp)⟩⟩
/-! under the lock -/
def rLkd (pth : Pth) (run : Run) : Run := fun en => (T.ofOpt (pth en)).bind fun r => run r.1
theorem lk_e {e : Expr} {t : TE} {td : TE} {pa : St → Hp → Option Addr} {pth : Pth} {run : Run} (ok : PathOk W td pa pth) (he : PE X e t) (hw : ∀ σ H Q, Locked pa σ H → TV W run σ H Q → t σ H Q) : PE X e (TV W (rLkd pth run)) := by
  have both : PE X e (fun σ H Q => t σ H Q ∨ tLockE t σ H Q) := ⟨fun pins s σ H Q I h => h.elim (he.run pins s σ H Q I) ((pe_lock he).run pins s σ H Q I)⟩
  refine pe_weak both fun σ H Q h => ?_
  obtain ⟨S, P, en, R, w⟩ := h
  obtain ⟨⟨en1, kvs⟩, hp, w⟩ := T.wp_ofOpt ((T.wp_bind _ _ _).mp w)
  obtain ⟨S1, P1, d, vs, e1, R1, sd, hpa, hd, dp⟩ := ok.ok R hp
  rcases hd with hd | ⟨o, hd⟩
  · refine .inr ⟨d, .dK vs, hd, trivial, fun od => ?_⟩
    have k := Keeps.lock (o := od) hd
    refine hw σ _ _ ⟨d, od, vs, ok.kp k hpa, upd_same⟩ ⟨S1, P1, en1, R1.keeps k, T.wp_mono w fun r q v H' S' P' e R' op => ?_⟩
    have hd' : H' d = some (.frz od (.dK vs)) := (e.h d (R1.sp _ sd)).trans upd_same
    have k2 := Keeps.unlock hd'
    refine ⟨hd', q v _ S' P' (e1.trans ⟨e.s, e.p, fun a h => ?_, e.n⟩) (R'.keeps k2) (op.keeps k2)⟩
    by_cases z : a = d
    · subst z; rw [upd_same, hd]
    · rw [upd_ne z, e.h a h, upd_ne z]
  · exact .inl (hw σ H Q ⟨d, o, vs, hpa, hd⟩ ⟨S1, P1, en1, R1, T.wp_mono w fun r q v H' S' P' e R' op => q v H' S' P' (e1.trans e) R' op⟩)
end
end Sx
set_option Elab.async false
set_option linter.all false
set_option maxRecDepth 100000
set_option maxHeartbeats 4000000
set_option autoImplicit false
namespace Sx
open PySem L2 PyProof.Rows
/-! ### enumerate(tuple) -/
theorem meets_enumT (l : Addr) (items : Array Value) :
    Meets (Builtin.«enumerate.__new__» ⟨[.type "enumerate", .ref l], []⟩) (fun _ R s => s.heap.IsTuple l items ∧
      R (.ok (.ret (.ref (s.heap.push { cls := .type "tuple_iterator", data := .fields #[.ref l, .int 0 0] }).objs.size)))
        { s with heap := (s.heap.push { cls := .type "tuple_iterator", data := .fields #[.ref l, .int 0 0] }).push { cls := .type "enumerate", data := .fields #[.none, .bool false, .ref s.heap.objs.size, rawInt 0, .none, .none] } }) :=
  .of_wp fun prog w A R s h => by
    obtain ⟨hp, g, d, tk, os⟩ := s; obtain ⟨hL, h⟩ := h
    have hsub := sub_enumerate
    have hL' : Heap.IsTuple (Shared.heap ⟨hp, g, d, tk, os⟩) l items := hL
    obtain ⟨ol, hl, hc, n, hd⟩ := id hL
    wp_walk using wpAny_loadPart' hl
    refine wpAny_stack_any fun st => wpAny_pure ?_
    split
    · rename_i c _ _ _ _ _
      cases (c == Value.type "enumerate")
      · wp_walk using wpAny_loadPart' hl, wpAny_pyIter_tuple hL'
        exact ⟨_, rfl, h⟩
      · wp_walk using wpAny_loadPart' hl, wpAny_pyIter_tuple hL'
        exact ⟨_, rfl, h⟩
    · wp_walk using wpAny_loadPart' hl, wpAny_pyIter_tuple hL'
      exact ⟨_, rfl, h⟩
theorem call_enumT {prog : Program} {w : World} {A : Around} {E : Value → Shared → Prop} {s : Shared} {l : Addr} {items : Array Value} {Q : Value → Shared → Prop} (hL : s.heap.IsTuple l items)
    (h : ∀ h', IsEnum h' (s.heap.objs.size + 1) s.heap.objs.size 0 .none → h'.IsTupleIter s.heap.objs.size l 0 → h'.objs.size = s.heap.objs.size + 2 →
      (∀ b o, s.heap.get? b = some o → h'.get? b = some o) → Q (.ref (s.heap.objs.size + 1)) { s with heap := h' }) :
    wpAny (model prog w) A (PySem.call (.type "enumerate") [.ref l]) Q E s := by
  refine callType_new F.called_enumerate (by decide) (F.typeCall_enumerate_1 _) (F.newCall_enumerate_1 _) (fun obj => F.args_object_init_2 obj _) F.entry_enumerate_new (meets_enumT l items) ⟨hL, ?_⟩
  have hz : (s.heap.push { cls := .type "tuple_iterator", data := .fields #[.ref l, .int 0 0] }).objs.size = s.heap.objs.size + 1 := Heap.size_push ..
  show _ ∧ _
  rw [hz]
  have he : IsEnum ((s.heap.push { cls := .type "tuple_iterator", data := .fields #[.ref l, .int 0 0] }).push
      { cls := .type "enumerate", data := .fields #[.none, .bool false, .ref s.heap.objs.size, rawInt 0, .none, .none] }) (s.heap.objs.size + 1) s.heap.objs.size 0 .none := by
    have z := Heap.get?_push_size (s.heap.push { cls := .type "tuple_iterator", data := .fields #[.ref l, .int 0 0] })
      (o := { cls := .type "enumerate", data := .fields #[.none, .bool false, .ref s.heap.objs.size, rawInt 0, .none, .none] }) rfl
    rw [hz] at z; exact z
  exact ⟨⟨_, he, rfl⟩, h _ he ⟨_, Heap.get?_push_of_some _ (Heap.get?_push_size _ rfl), rfl, rfl⟩ (by rw [Heap.size_push, hz]) fun b o x => Heap.get?_push_of_some _ (Heap.get?_push_of_some _ x)⟩
theorem enumT_end {prog : Program} {w : World} {A : Around} {E : Value → Shared → Prop} {s : Shared} {e it l : Addr} {items : Array Value} {i : Nat} {old : Value} {Q : Option Value → Shared → Prop} (hh : A.handled = none)
    (he : IsEnum s.heap e it i old) (hit : s.heap.IsTupleIter it l i) (hl : s.heap.IsTuple l items) (hx : items[i]? = none)
    (hQ : ∀ h', Heap.ExtBut it s.heap h' → Q none { s with heap := h' }) : wpAny (model prog w) A (pyNext (.ref e)) Q E s := by
  have hT : s.TypeIs (.ref e) "enumerate" := ⟨_, he, rfl⟩
  unfold pyNext
  refine wpAny_bind (wpAny_attempt (wpAny_callSpecial?_slot (name := Str.ofString "__next__") hT F.slot_enumerate_next (wpAny_call_entry F.slot_enumerate_next hT F.entry_enumerate_next ?_ (F.args_enumerate_next_1 _))))
  show wpAny _ _ (field (.ref e) 2 >>= _) _ _ _
  refine wpAny_bind (wpAny_field he rfl (x := .ref it) rfl (wpAny_bind (wpAny_nextOf_tuple_end hh hit hl hx fun h' x z1 z2 => ?_)))
  obtain ⟨o, ho, hc⟩ := z2
  exact wpAny_bind (wpAny_isInstance (T := "StopIteration") (b := true) ⟨o, ho, hc⟩ isSubtype_stop (wpAny_pure (hQ _ z1)))
def IteT (K : PySem.W.Frag) (a : Addr) : It :=
  ⟨fun i H => ∃ (xs : List V) (x : V), SqT K H a xs ∧ xs[i]? = some x, fun i H v H' => ∃ T x, v = .ref T ∧ H T = none ∧ H' = upd H T (.tup [.int (i : Nat), x]) ∧ ∀ xs, SqT K H a xs → xs[i]? = some x, fun i H => ∃ xs : List V, SqT K H a xs ∧ xs.length ≤ i⟩
theorem turn_enumT {P : Program} {w : World} {K : PySem.W.Frag} {elts : List Expr} {kk : Nat} {tpos : Pos} (a e it : Addr) :
    Turn P w K (.Tuple elts kk tpos) (IteT K a) [e, it] e (fun i h => (∃ old, IsEnum h e it ((i : Nat) : Int) old) ∧ h.IsTupleIter it a i ∧ e ≠ it ∧ (e ≠ a ∧ a ≠ it)) where
  mem := by simp
  obj := fun i h st b hb => by
    obtain ⟨⟨old, he⟩, ⟨o, ho, hc, hd⟩, _⟩ := st
    have z : b = e ∨ b = it := by simpa using hb
    rcases z with z | z
    · rw [z]; exact ⟨_, he, fun v q => nomatch q⟩
    · rw [z]; exact ⟨o, ho, fun v q => by rw [hd] at q; cases q⟩
  keep := fun i h h' st k => let ⟨⟨old, he⟩, hi, hne⟩ := st; ⟨⟨old, k e (by simp) _ he⟩, hi.at fun o q => k it (by simp) o q, hne⟩
  item := by
    intro X hP hw hK hc i pins s σ H E I hf st hg
    subst hP hw hK
    obtain ⟨⟨old, he⟩, hit, hne, n1, n2⟩ := st
    obtain ⟨xs, x, hq, hx⟩ := hg
    obtain ⟨its, rv, p, hz⟩ := I.tuple hq
    obtain ⟨u, hu, ru⟩ := rv.get hx
    have hel : e < s.heap.objs.size := Heap.lt_size he
    have hil : it < s.heap.objs.size := by obtain ⟨_, q, _⟩ := hit; exact Heap.lt_size q
    have pT : s.heap.IsTuple a its.toArray := p
    have hlt : i < its.toArray.size := by
      rw [List.size_toArray]
      exact (List.getElem?_eq_some_iff.mp hu).1
    refine wpAny_pyNext_enum_itemD (Draws.tuple (A := X.A.in1) (I.ok.hd hc) it a n2 its.toArray) he ⟨hit, pT⟩ hlt hne (by simp; exact ⟨hne, n1⟩) fun v h' tk hv ho hst' hT hsz hk => ?_
    have ev : v = u := by
      have z : its.toArray[i]? = some v := hv
      rw [List.getElem?_toArray, hu] at z
      exact (Option.some.inj z).symm
    subst ev
    refine ⟨_, rfl, wpAny_letOwnedTupleGo_enum (s := { s with heap := h', toks := tk + 1 }) ho fun h'' he' sb => ?_⟩
    have hT2 : h''.get? s.heap.objs.size = some { cls := .type "tuple", data := .seq #[.int i tk, v] } := (sb.2 _ (Nat.ne_of_gt hel)).trans hT
    have new : ObjOk X.prog X.w (upd H s.heap.objs.size (.tup [.int (i : Nat), x])) h'' s.heap.objs.size (.tup [.int (i : Nat), x]) :=
      ⟨by show 2 ≤ sizeLine; decide, [.int i tk, v], .cons ⟨_, rfl⟩ (.cons ru .nil), ⟨_, hT2, rfl, _, rfl⟩⟩
    have I1 : Inv X pins σ (upd H s.heap.objs.size (.tup [.int (i : Nat), x])) { s with heap := h'', toks := tk + 1 } :=
      I.turnedNew (ch := [e, it]) (fun b ob hb q => (sb.2 b (fun z => hb (by simp [z]))).trans (hk b ob (fun z => hb (by simp [z])) (fun z => hb (by simp [z])) q)) hf (Nat.le_refl _) new
    refine ⟨.ref s.heap.objs.size, _, I1, rfl, ⟨_, x, rfl, I.hok.fresh (Nat.le_refl _), rfl, fun ys hy => by rw [I.tuple_inj hy hq]; exact hx⟩, ⟨⟨v, ?_⟩, hst'.1.at fun o q => (sb.2 it (Ne.symm hne)).trans q, hne, n1, n2⟩, fun b hb => ?_⟩
    · have z : ((i + 1 : Nat) : Int) = (i : Int) + 1 := by omega
      rw [z]; exact he'
    · have hb' : b < s.heap.objs.size := by
        have z : b = e ∨ b = it := by simpa using hb
        rcases z with z | z
        · rw [z]; exact hel
        · rw [z]; exact hil
      rw [upd_ne (Nat.ne_of_lt hb')]
      exact (hf b hb).1
  done := by
    intro X hP hw hK hc i pins s σ H E I hf st hg
    subst hP hw hK
    obtain ⟨⟨old, he⟩, hit, hne, n1, n2⟩ := st
    obtain ⟨xs, hq, hx⟩ := hg
    obtain ⟨its, rv, p, hz⟩ := I.tuple hq
    have pT : s.heap.IsTuple a its.toArray := p
    obtain ⟨f0, f1, f2, f3, f4, f5⟩ := hf it (by simp)
    have hl := rv.length
    exact enumT_end (I.ok.hd hc) he hit pT (by simp; omega) fun h' eb => ⟨rfl, I.turned (t' := s.toks) (fun b o hb q => eb b o hb q) f0 f1 f3 f4 f5⟩
  self := fun A i s Q E st h => let ⟨⟨_, he⟩, _⟩ := st; wpAny_pyIter_enum he h
theorem pi_enumT {X : Cx} {e : Expr} {ta : TA} {p pos tpos : Pos} {elts : List Expr} {kk : Nat} (hg : Gl X "enumerate") (hm : X.mg "enumerate" = none) (ha : PA X [e] ta) (hs : starEach [e] X.env = [(false, eval e X.env)] := by rfl) :
    PI X (.Tuple elts kk tpos) (.Call (.Name "enumerate" p) [e] [] pos) (fun σ H R => ta σ H fun vs H1 => ∃ a xs, vs = [.ref a] ∧ ((SqL X.K H1 a xs ∧ R (Ite X.K a) H1) ∨ (SqT X.K H1 a xs ∧ R (IteT X.K a) H1))) := by
  refine ⟨fun pins s σ H R I h => ?_⟩
  refine Call_ (ld_blt I hg hm boot_enumerate (PyProof.Rows.callWith_type1 (thn (ha.run pos pins s σ H _ I h) fun us s1 ⟨vs, H1, I1, r1, q1⟩ => ?_) hs rfl))
  obtain ⟨a, xs, rfl, q1⟩ := q1
  obtain ⟨u, rfl, ru⟩ := vals1 r1
  cases (show u = Value.ref a from ru)
  have own : ∀ b, b ∈ [s1.heap.objs.size + 1, s1.heap.objs.size] → s1.heap.objs.size ≤ b := fun b hb => by
    have z : b = s1.heap.objs.size + 1 ∨ b = s1.heap.objs.size := by simpa using hb
    rcases z with z | z
    · rw [z]; exact Nat.le_succ _
    · rw [z]; exact Nat.le_refl _
  rcases q1 with ⟨hq, q⟩ | ⟨hq, q⟩
  · obtain ⟨its, rv, p', hz⟩ := I1.list hq
    exact call_enumerate_list p'.isList fun h' he hit hsz hk => wpAny_pyIter_enum he ⟨s1.heap.objs.size + 1, [s1.heap.objs.size + 1, s1.heap.objs.size], _, _, H1, rfl, I1.kept (t' := s1.toks) hk, turn_enum a (s1.heap.objs.size + 1) s1.heap.objs.size, ⟨⟨.none, he⟩, hit, Nat.succ_ne_self _⟩, fun b hb => I1.fpOk (own b hb) (I1.hok.fresh (own b hb)), q⟩
  · obtain ⟨its, rv, p', hz⟩ := I1.tuple hq
    have pT : s1.heap.IsTuple a its.toArray := p'
    have al : a < s1.heap.objs.size := by obtain ⟨_, z, _⟩ := p'; exact Heap.lt_size z
    exact call_enumT pT fun h' he hit hsz hk => wpAny_pyIter_enum he ⟨s1.heap.objs.size + 1, [s1.heap.objs.size + 1, s1.heap.objs.size], _, _, H1, rfl, I1.kept (t' := s1.toks) hk, turn_enumT a (s1.heap.objs.size + 1) s1.heap.objs.size, ⟨⟨.none, he⟩, hit, Nat.succ_ne_self _, Nat.ne_of_gt (Nat.lt_succ_of_lt al), Nat.ne_of_lt al⟩, fun b hb => I1.fpOk (own b hb) (I1.hok.fresh (own b hb)), q⟩
section
variable {W : Wd} {S P : Addr → Prop} {H : Hp} {en : En} {σ : L2.St} {X : Cx}
theorem walks_enumT {a : Addr} {xs : List V} {ds : List D} (R : Rel W S P en σ H) (h : (S a ∧ H a = some (.tup xs)) ∨ Wr W a xs) (dl : DvL W S H xs ds) : Walks W S P H (IteT W.K a) (enumD ds) := by
  have hl : (enumD ds).length = ds.length := by simp [enumD]
  have at' : ∀ H2, (∀ b, P b → H2 b = H b) → SqT W.K H2 a xs := fun H2 q => by
    rcases h with ⟨s, h⟩ | (h | ⟨_, h⟩) | h
    · exact SqT.of ((q a (R.sp a s)).trans h)
    · cases h
    · cases h
    · exact .inr h
  refine ⟨fun i H2 q hi => ⟨xs, at' H2 q, by rw [dl.len]; omega⟩, fun i H2 q hi => ?_, fun i H2 x H3 q hi y => ?_⟩
  · have hi' : i < xs.length := by rw [dl.len]; omega
    exact ⟨xs, xs[i], at' H2 q, List.getElem?_eq_getElem hi'⟩
  · obtain ⟨T', x', rfl, hT, rfl, y⟩ := y
    obtain ⟨d, hd, dz⟩ := (dl.at (i := i)).1 x' (y xs (at' _ q))
    refine ⟨.tup [.int (i : Nat), d], ?_, .inr ⟨T', _, _, rfl, hT, rfl, rfl, .cons trivial (.int _) (.cons dz.1 (dz.2.mono (fun _ h => h) (fun b s => q b (R.sp b s)) (dz.1.mono fun b s => q b (R.sp b s))) .nil)⟩⟩
    unfold enumD
    rw [List.getElem?_map, List.getElem?_zipIdx, hd]
    simp
def iEnumU (rs : Runs) : RunI := fun en => (rs en).bind fun a => (T.ofOpt (match onlyV a.1 with
  | some [.lst ds] => some (enumD ds)
  | some [.tup ds] => some (enumD ds)
  | _ => none)).bind fun ds => .ret (ds, a.2)
theorem x_enumU {e : Expr} {ra : Run} {p pos tpos : Pos} {elts : List Expr} {kk : Nat} (hK : X.K = W.K) (hg : Gl X "enumerate") (hm : X.mg "enumerate" = none) (ha : PE X e (TV W ra)) (hs : starEach [e] X.env = (false, eval e X.env) :: starEach [] X.env) :
    PI X (.Tuple elts kk tpos) (.Call (.Name "enumerate" p) [e] [] pos) (TVI W (iEnumU (rCons ra rNil)) none) := by
  refine ⟨fun pins s σ H R I q => (pi_enumT hg hm (x_cons ha x_nil hs) hs).run pins s σ H R I ?_⟩
  rw [hK]
  obtain ⟨S, P, en, Rl, w⟩ := q
  refine TVs.use Rl w fun c vs H1 S1 P1 e1 R1 p1 q => ?_
  obtain ⟨ds, hds, q⟩ := T.wp_ofOpt ((T.wp_bind _ _ _).mp q)
  have go : ∀ J, Walks W S1 P1 H1 J ds → R J H1 := fun J wk => q J H1 S1 P1 P1 e1 R1 (fun _ h => h) (fun S3 P3 en3 σ3 H3 _ e3 R3 => ⟨P3, fun _ h => h, e3, R3⟩) (fun _ => rfl) wk
  split at hds
  · rename_i es hj
    cases hds
    cases p1.only hj with
    | cons t dv r =>
      cases r
      cases dv with
      | lst ha dl => exact ⟨_, _, rfl, .inl ⟨SqL.of ha, go _ (walks_enum R1 (R1.sp _ t) ha dl)⟩⟩
  · rename_i es hj
    cases hds
    cases p1.only hj with
    | cons t dv r =>
      cases r
      cases dv with
      | @tup _ xs _ ha dl =>
        refine ⟨_, xs, rfl, .inr ⟨?_, go _ (walks_enumT R1 ha dl)⟩⟩
        rcases ha with ⟨_, h⟩ | (h | ⟨_, h⟩) | h
        · exact SqT.of h
        · cases h
        · cases h
        · exact .inr h
  · cases hds
end
end Sx
set_option Elab.async false
set_option linter.all false
set_option maxRecDepth 100000
set_option maxHeartbeats 4000000
set_option autoImplicit false
namespace Sx
open PySem L2 PyProof.Rows
section
variable {W : Wd} {X : Cx} {k : Nat} {a b c e : Expr} {ra rb rc re : Run} {rs : Runs} {pos : Pos}
/-! short names -/
theorem e_inD (hr : Room k X.A) (ha : PE X a (TV W ra)) (hb : PE X b (TV W rb)) (hm : behindInMarks .In b = false := by rfl) : PE X (.Compare a [.In] [b] pos) (TV W (run2 ra rb (fInDG id))) := x_cmp (op_inD (hu_of hr)) (p_inD id) ha hb hm
theorem e_ixD (hr : Room k X.A) (ha : PE X a (TV W ra)) (hb : PE X b (TV W rb)) (hs : PlainIx b := by exact fun _ _ => rfl) : PE X (.Subscript a b pos) (TV W (run2 ra rb fIxD)) :=
  pe_weak (pe_ix (ix_dict (hu_of hr)) ha hb hs) fun _ _ _ h => tv2 p_ixD h
theorem e_ltlt (hK : X.K = W.K) (hr : Room k X.A) (ha : PE X a (TV W ra)) (hb : PE X b (TV W rb)) (hc : PE X c (TV W rc)) (hm : lastMarks [.Lt, .Lt] [b, c] = false := by rfl) : PE X (.Compare a [.Lt, .Lt] [b, c] pos) (TV W (rChn fLt fLt ra rb rc)) :=
  pe_weak (pe_chain (op_ltP hr.units) (op_ltP hr.units) ha hb hc hm) fun _ _ _ h => by rw [hK]; exact tv_chn p_cmp p_cmp h
/-! own ==, isinstance of an own class -/
theorem tv_eqU {c0 n : Nat} {f : Addr} {fd : FuncData} {ps : List Str} {fn : Fn} {cls : CT} {σ : L2.St} {H : Hp} {Q : VK} (hcl : W.cls = cls) (h : TV W (rEqU c0 fn ra rb) σ H Q) :
    TV W ra σ H fun x H1 => TV W rb σ H1 fun y H2 => (rEqI (cls c0) (spR W.K cls 2 fn) x y H2 Q ∨ rDD W.K (fun p _ => p.depth ≤ 60) PyData.eqv x y H2 Q) := by
  obtain ⟨S, P, en, R, w⟩ := h
  refine TV.use R w fun c v H1 S1 P1 e1 R1 p1 q => ?_
  refine TV.use R1 q fun c2 u H2 S2 P2 e2 R2 p2 q2 => ?_
  have p1 := p1.ext R1 e2
  by_cases hobj : ∃ i fs j gs, c.1.fz = .v (.obj i fs) ∧ c2.1.fz = .v (.obj j gs)
  · obtain ⟨i, fs, j, gs, h1, h2⟩ := hobj
    rw [h1] at p1
    rw [h2] at p2
    have q2 : ((match c.1.fz, c2.1.fz with
      | .v (.obj c fs), .v (.obj c' gs) => if c = c0 ∧ c' = c0 then (fn [.obj c fs, .obj c' gs]).bind fun r => (match r.2 with
          | .bl k => T.ret (Op.v (.bl k), c2.2)
          | _ => .fail) else .fail
      | _, _ => ret1 ((frc c2.2 c.1.fz).bind fun x => (frc c2.2 c2.1.fz).bind fun y => fEq x y) c2.2) : T (Op × En)).wp _ := q2
    rw [h1, h2] at q2
    have q5 : (if i = c0 ∧ j = c0 then _ else _ : T (Op × En)).wp _ := q2
    clear q2
    by_cases hc : i = c0 ∧ j = c0
    · rw [if_pos hc] at q5
      obtain ⟨rfl, rfl⟩ := hc
      subst hcl
      obtain ⟨a, dx, fv, rfl, ha, dp⟩ := p1.2.obj_at
      obtain ⟨b, dy, gv, rfl, hb, dq⟩ := p2.2.obj_at
      refine .inl ⟨a, b, dx, dy, fv, gv, rfl, rfl, ha, hb, rfl, W, S2, [.obj j fs, .obj j gs], rfl, rfl, R2.dr, R2.tb, R2.dom, fun w => R2.drP.1 (R2.sp _ w), R2.drP.2.sub R2.sp, .cons p1.1 p1.2 (.cons p2.1 p2.2 .nil), T.wp_mono ((T.wp_bind _ _ _).mp q5) fun r q v H' S' P' e ro ok => ?_⟩
      obtain ⟨e5, R5, ok5⟩ := R2.call e ro ok
      obtain ⟨fl, d⟩ := r
      cases d with
      | bl k =>
        have dv := ok.1
        cases dv
        exact ⟨⟨k, rfl⟩, q _ H' S' _ (e1.trans (e2.trans e5)) R5 ⟨trivial, .bl k⟩⟩
      | _ => exact q.elim
    · rw [if_neg hc] at q5
      exact q5.elim
  · have q3 : ((match c.1.fz, c2.1.fz with
      | .v (.obj c fs), .v (.obj c' gs) => if c = c0 ∧ c' = c0 then (fn [.obj c fs, .obj c' gs]).bind fun r => (match r.2 with
          | .bl k => T.ret (Op.v (.bl k), c2.2)
          | _ => .fail) else .fail
      | _, _ => ret1 ((frc c2.2 c.1.fz).bind fun x => (frc c2.2 c2.1.fz).bind fun y => fEq x y) c2.2) : T (Op × En)).wp _ := q2
    split at q3
    · rename_i i fs j gs h1 h2
      exact absurd ⟨i, fs, j, gs, h1, h2⟩ hobj
    · obtain ⟨z, ez, qz⟩ := wp_ret1 q3
      obtain ⟨x, ex, ez⟩ := Option.bind_eq_some_iff.mp ez
      obtain ⟨y, ey, fx⟩ := Option.bind_eq_some_iff.mp ez
      exact .inr (p_eq S2 H2 v u x y z Q R2.dom (p1.now R2 ex) (p2.now R2 ey) fx (R2.res fun v' H' S' P' e' R' ok => qz v' H' S' P' (e1.trans (e2.trans e')) R' ok))
theorem e_eqU {c0 : Nat} {f : Addr} {fd : FuncData} {ps : List Str} {fn : Fn} {cls : CT} (F : FnG X.prog X.w X.K X.mg X.base CX0 k f fd ps (spR X.K cls 2 fn)) (hs : PySem.W.findIn X.K (.ref (cls c0)) "__eq__" = some (some (.ref f))) (hf : PySem.W.isFn X.K (.ref f) = true) (hcl : W.cls = cls) (hK : X.K = W.K) (hr : Room k X.A) (hg : NoG X.A) (hb : Binds X.K fd ps [])
    (ha : PE X a (TV W ra)) (hbb : PE X b (TV W rb)) (hm : behindInMarks .Eq b = false := by rfl) : PE X (.Compare a [.Eq] [b] pos) (TV W (rEqU c0 fn ra rb)) :=
  pe_weak (pe_cmpR ((op_eqI hs hf F hr hg hb).or (op_eqP hr.units)) ha hbb hm) fun _ _ _ h => by rw [hK]; exact tv_eqU (n := 0) (f := f) (fd := fd) (ps := ps) hcl h
theorem e_isC {c0 : Nat} {p : Pos} (c : C8.InsC X.K (W.cls c0)) (hm : X.mg "isinstance" = none) (hv : bootBuiltins "isinstance" = some (.builtin "isinstance")) (ha : PA X [a, b] (TVs W rs)) (hg : Gl X "isinstance" := by rfl)
    (he : starEach [a, b] X.env = (false, eval a X.env) :: starEach [b] X.env := by rfl) (hpl : (backTo pos (starEach [b] X.env)).any (·.1) = false := by rfl) : PE X (.Call (.Name "isinstance" p) [a, b] [] pos) (TV W (runN rs (fIsC c0))) :=
  e_blt (C8.call_isC c) (p_isC c0) hm hv ha hg (by decide) (by decide) he hpl
end
section
variable {W : Wd} {S P : Addr → Prop} {H : Hp} {X : Cx} {k : Nat}
instance {l : List (Run × Run)} [h : ShRuns (prRuns l)] : ShRun (rDsp l) := ⟨fun en => all_seq (h.sh en) fun _ => all_ret1⟩
instance : ShRuns (prRuns []) := ⟨fun en => LkSub.refl _⟩
instance {a b : Run} {l : List (Run × Run)} [h1 : ShRun a] [h2 : ShRun b] [h : ShRuns (prRuns l)] : ShRuns (prRuns ((a, b) :: l)) := ⟨(inferInstance : ShRuns (rCons a (rCons b (prRuns l)))).sh⟩
instance {c0 : Nat} {f : Fn} {ra rb : Run} [h : ShRun ra] [g : ShRun rb] : ShRun (rEqU c0 f ra rb) := ⟨fun en => all_seq (h.sh en) fun a => all_seq (g.sh _) fun b => by
  split
  · split
    · refine T.all_bind (T.all_triv fun r => ?_)
      split
      · exact LkSub.refl _
      · trivial
    · trivial
  · exact all_ret1⟩
/-! tuple * int, the int at least 1 -/
theorem DvL.append {xs ys : List V} {ds es : List D} (h : DvL W S H xs ds) (g : DvL W S H ys es) : DvL W S H (xs ++ ys) (ds ++ es) := by
  induction ds generalizing xs with
  | nil => cases h; exact g
  | cons d ds ih => cases h with | cons t dv r => exact .cons t dv (ih r)
end
end Sx
set_option Elab.async false
set_option linter.all false
set_option maxRecDepth 100000
set_option maxHeartbeats 4000000
set_option autoImplicit false
namespace Sx
open PySem L2
/-! ### walks over dicts, displays: short names -/
section
variable {W : Wd} {X : Cx} {pos : Pos} {td : TE} {pa : St → Hp → Option Addr} {pth : Pth}
class ShPth (pth : Pth) : Prop where
  sh : ∀ en en1 kvs, pth en = some (en1, kvs) → LkSub en1 en
instance (i : Nat) : ShPth (pthV i) := ⟨fun en en1 kvs h => by
  unfold pthV at h
  split at h
  · cases h; exact LkSub.refl _
  · cases h; exact (LkSub.set (s := some (.fz, _)) (by intro d h; cases h)).trans (LkSub.set (s := none) (by intro d h; cases h))
  · cases h⟩
instance (i c0 : Nat) (f : Str) : ShPth (pthF i c0 f) := ⟨fun en en1 kvs h => by
  unfold pthF at h
  split at h
  · obtain ⟨fs, _, h⟩ := Option.bind_eq_some_iff.mp h
    split at h
    · cases h; exact LkSub.refl _
    · cases h
  · cases h⟩
instance [h : ShPth pth] : ShIt (iKy pth) none := ⟨fun en => T.all_bind (T.all_ofOpt fun r hr => fun en2 g => g.trans (h.sh en r.1 r.2 hr))⟩
instance {run : Run} [h : ShPth pth] [g : ShRun run] : ShRun (rLkd pth run) := ⟨fun en => T.all_bind (T.all_ofOpt fun r hr => T.all_mono (g.sh r.1) fun b hb => hb.trans (h.sh en r.1 r.2 hr))⟩
theorem e_lcD {tg iter elt : Expr} {ifs : List Expr} {scope : Scope} {g : TG} {t : Tg} {is : List Nat} {rt : RunT} {re : Run} [h1 : ShTg t is] [h2 : ShTst rt] [h3 : ShRun re] (own : List (Str × Nat)) (hNd : X.N.Nodup) (bo : BlkOk X.N X.env.scope scope own) (ok : PathOk W td pa pth) (hi : PE X iter td)
    (hg : ∀ (s : Shared) (H : Hp) (C : Addr) (cl : List (Str × Addr)) (fp : List Addr), PG (X.blk s H scope (compEnvC scope cl C X.env) fp) tg g) (gk : GOk W g t is)
    (ht : ∀ (s : Shared) (H : Hp) (C : Addr) (cl : List (Str × Addr)) (fp : List Addr), PTs (X.blk s H scope (compEnvC scope cl C X.env) fp) ifs (TVT W rt))
    (he : ∀ (s : Shared) (H : Hp) (C : Addr) (cl : List (Str × Addr)) (fp : List Addr), PE (X.blk s H scope (compEnvC scope cl C X.env) fp) elt (TV W re)) (his : ∀ i ∈ is, i ∈ own.map (·.2) := by decide) (hc : X.calm = true := by rfl) (hs : ∀ x, foldedSetIterable iter X.env x = pure x := by intro _; rfl) :
    PE X (.ListComp elt [⟨tg, iter, ifs, 0⟩] scope pos) (TV W (rLkd pth (rLc (iKy pth) none t rt re (own.map (·.2))))) :=
  lk_e ok (pe_lc hc hNd (pi_keys hi) bo hg ht he hs) fun σ H Q hl h => tvi_keys ok hl (tv_lc gk h1.sh his h2.sh h3.sh sz4096 h)
theorem dcl_sub {t : Tg} {is : List Nat} {rt : RunT} {rk re : Run} {vs : List Nat} [h : ShTg t is] [h1 : ShTst rt] [h0 : ShRun rk] [h2 : ShRun re] : ∀ (ds : List D) (en : En) (acc : List (Key × D)), (rDcL t rt rk re vs ds en acc).all fun r => LkSub r.2 en
  | [], en, acc => LkSub.refl _
  | d :: ds, en, acc => T.all_bind (T.all_ofOpt fun en1 he => T.all_bind (T.all_mono (h1.sh en1) fun b hb => by
      have z := (h.sh d en en1 he).1
      split
      · exact T.all_bind (T.all_mono (h0.sh b.2) fun k hk => T.all_bind (T.all_ofOpt fun kk _ => T.all_bind (T.all_mono (h2.sh k.2) fun o ho => T.all_bind (T.all_ofOpt fun y _ => T.all_mono (dcl_sub ds (wip o.2 vs) _) fun r hr => hr.trans ((wip_sub vs).trans (ho.trans (hk.trans (hb.trans z))))))))
      · exact T.all_mono (dcl_sub ds (wip b.2 vs) _) fun r hr => hr.trans ((wip_sub vs).trans (hb.trans z))))
instance {ri : RunI} {l : Option Nat} {t : Tg} {is : List Nat} {rt : RunT} {rk re : Run} {vs : List Nat} [h0 : ShIt ri l] [h : ShTg t is] [h1 : ShTst rt] [hk : ShRun rk] [h2 : ShRun re] : ShRun (rDc ri l t rt rk re vs) := ⟨fun en => T.all_bind (T.all_mono (h0.sh en) fun a ha => by
  split
  · exact T.all_bind (T.all_mono (dcl_sub (is := is) a.1 (wip a.2 vs) []) fun r hr => ha _ ((back_sub vs).trans (hr.trans (wip_sub vs))))
  · trivial)⟩
/-! dict displays -/
end
end Sx
set_option Elab.async false
set_option linter.all false
set_option maxRecDepth 100000
set_option maxHeartbeats 4000000
set_option autoImplicit false
namespace Sx
open PySem L2 PyProof.Rows
/-! ### == of two dicts with plain values -/
def valP (ls : List (Key × PyData)) (k : Key) : Option PyData := (ls.find? fun kv => decide (kv.1 = k)).map (·.2)
def hitB (ls : List (Key × PyData)) (p : Key × PyData) : Bool := match valP ls p.1 with
  | some q => PyData.eqv p.2 q
  | none => false
def eqDK (ks ls : List (Key × PyData)) : Bool := ks.length == ls.length && ks.all (hitB ls)
def DpP (K : PySem.W.Frag) (H : Hp) : List (Key × V) → List (Key × PyData) → Prop := Paired fun x p => x.1 = p.1 ∧ Dp K H x.2 p.2
theorem DpP.val {K : PySem.W.Frag} {H : Hp} {ls : List (Key × V)} {qs : List (Key × PyData)} (h : DpP K H ls qs) (k : Key) : (valV ls k = none ∧ valP qs k = none) ∨ ∃ v q, valV ls k = some v ∧ valP qs k = some q ∧ Dp K H v q := by
  unfold DpP at h
  induction h with
  | nil => exact .inl ⟨rfl, rfl⟩
  | @cons x p xs ps hh _ ih =>
    obtain ⟨h1, h2⟩ := hh
    by_cases e : x.1 = k
    · have e2 : p.1 = k := h1 ▸ e
      refine .inr ⟨x.2, p.2, valV_pos e, ?_, h2⟩
      simp [valP, List.find?_cons, e2]
    · have e2 : ¬ p.1 = k := h1 ▸ e
      have z : valP (p :: ps) k = valP ps k := by simp [valP, List.find?_cons, e2]
      rw [valV_neg e, z]
      exact ih
section
variable {X : Cx} {pins : List (Addr × Obj)} {σ : L2.St} {H : Hp} {s : Shared}
theorem hits_all (I : Inv X pins σ H s) {A : Around} (hu : A.units + 60 < cLine) {ls : List (Key × V)} {vb : List (Key × Value)} {qs : List (Key × PyData)} (rb : KV ls vb) (dq : DpP X.K H ls qs) {ks : List (Key × V)} {va : List (Key × Value)} (ra : KV ks va) :
    ∀ {ps : List (Key × PyData)}, DpP X.K H ks ps → (∀ p ∈ ps, p.2.depth ≤ 60) → PySem.W.KeqHitsP X.prog X.w A s vb va (ps.all (hitB qs)) := by
  unfold KV at ra
  induction ra with
  | nil =>
    intro ps dp _
    cases dp
    exact .nil
  | @cons x u xs us h t k =>
    intro ps dp hd
    obtain ⟨key, v⟩ := u
    obtain ⟨h1, h2⟩ := h
    cases dp with
    | @cons _ p _ ps hp hr =>
      obtain ⟨e1, e2⟩ := hp
      have ih := k hr fun p hm => hd p (List.mem_cons_of_mem _ hm)
      have hk : p.1 = key := e1.symm.trans h1
      rw [List.all_cons]
      rcases dq.val p.1 with ⟨n1, n2⟩ | ⟨y, q, y1, y2, y3⟩
      · have : hitB qs p = false := by unfold hitB; rw [n2]
        rw [this, Bool.false_and]
        refine .miss ?_
        have z := rb.val key
        rw [← hk, n1] at z
        rw [← hk]
        cases e : valueAt vb p.1 with
        | none => rfl
        | some w => rw [e] at z; exact z.elim
      · have : hitB qs p = PyData.eqv p.2 q := by unfold hitB; rw [y2]
        rw [this]
        have z := rb.val key
        rw [← hk, y1] at z
        obtain ⟨w, hw, rw'⟩ := z.some_of
        rw [hk] at hw
        obtain ⟨as, r1⟩ := Dp.reads I p.2 x.2 v e2 h2
        obtain ⟨bs, r2⟩ := Dp.reads I q y w y3 rw'
        have dpp := hd p List.mem_cons_self
        exact .hit hw (SeqAt.EqAt.eqP (SeqAt.eqAt_plain p.2 q A s v w as bs r1 r2 (dp_plain e2) (dp_plain y3) (by omega))) ih
def rEqDD (K : PySem.W.Frag) (g : Bool → Bool) : R2 := fun x y H Q => ∃ a b ks ls ps qs, x = .ref a ∧ y = .ref b ∧ Rd H a (.dK ks) ∧ Rd H b (.dK ls) ∧ DpP K H ks ps ∧ DpP K H ls qs ∧ (∀ p ∈ ps, p.2.depth ≤ 60) ∧ Q (.bl (g (eqDK ps qs))) H
theorem paired_len {α β : Type} {R : α → β → Prop} : ∀ {xs : List α} {ys : List β}, Paired R xs ys → xs.length = ys.length
  | _, _, .nil => rfl
  | _, _, .cons _ r => congrArg Nat.succ (paired_len r)
theorem op_eqDD (hu : X.A.units + 64 < cLine) : OpR X (compareOp .Eq) (rEqDD X.K id) := by
  intro pins s σ H x y v u Q I rx ry h
  obtain ⟨a, b, ks, ls, ps, qs, rfl, rfl, ha, hb, dp, dq, hd, q⟩ := h
  cases (show v = Value.ref a from rx)
  cases (show u = Value.ref b from ry)
  obtain ⟨_, ya, va, ra, da⟩ := dk_rd I.hok ha
  obtain ⟨_, yb, vb, rb, db⟩ := dk_rd I.hok hb
  show wpAny (model X.prog X.w) X.A (richCompare .Eq (.ref a) (.ref b)) (EP X pins σ Q) X.xe s
  refine PySem.W.rcP_dicts (knd := mixKind X.prog X.w) (r := ps.all (hitB qs)) ya yb da db (by omega) (fun _ => hits_all I (by show X.A.units + 1 + 60 < cLine; omega) rb dq ra dp hd) _ _ ?_
  have e1 : va.length = ps.length := by rw [← ra.length]; exact paired_len dp
  have e2 : vb.length = qs.length := by rw [← rb.length]; exact paired_len dq
  rw [e1, e2]
  exact ⟨.bl _, H, I, rfl, q⟩
end
def pyK : List (Key × D) → Option (List (Key × PyData))
  | [] => some []
  | (k, d) :: r => (py d).bind fun p => (pyK r).bind fun ps => some ((k, p) :: ps)
def fEqDD (x y : D) : Option (Bool × D) := match x, y with
  | .dK ds, .dK es => (pyK ds).bind fun ps => (pyK es).bind fun qs => if ps.all fun p => decide (p.2.depth ≤ 60) then some0 (.bl (eqDK ps qs)) else none
  | _, _ => none
section
variable {W : Wd} {S : Addr → Prop} {H : Hp}
theorem pyK_dp : ∀ {vs : List (Key × V)} {ds : List (Key × D)} {ps : List (Key × PyData)}, DvP W S H vs ds → pyK ds = some ps → DpP W.K H vs ps
  | [], _, ps, h, e => by cases h; cases e; exact .nil
  | (k, v) :: vs, _, ps, h, e => by
    cases h with
    | cons t dv r =>
      obtain ⟨p, e1, e⟩ := Option.bind_eq_some_iff.mp e
      obtain ⟨qs, e2, e⟩ := Option.bind_eq_some_iff.mp e
      cases e
      exact .cons ⟨rfl, dv.dp e1⟩ (pyK_dp r e2)
theorem p_eqDD : Pure2 W (rEqDD W.K id) fEqDD := by
  intro S H x y d e c Q hd hx hy h r
  unfold fEqDD at h
  split at h
  · obtain ⟨ps, qs, e1, e2, h⟩ := bind2 h
    split at h
    · rename_i hc
      cases h
      obtain ⟨a, vs, rfl, ha, dp⟩ := hx.dK_at
      obtain ⟨b, ws, rfl, hb, dq⟩ := hy.dK_at
      exact ⟨a, b, vs, ws, ps, qs, rfl, rfl, ha, hb, pyK_dp dp e1, pyK_dp dq e2, fun p hp => of_decide_eq_true (List.all_eq_true.mp hc p hp), r.bl hd⟩
    · cases h
  · cases h
theorem e_eqDD {X : Cx} {k : Nat} {a b : Expr} {ra rb : Run} {pos : Pos} (hK : X.K = W.K) (hr : Room k X.A) (ha : PE X a (TV W ra)) (hb : PE X b (TV W rb)) (hm : behindInMarks .Eq b = false := by rfl) : PE X (.Compare a [.Eq] [b] pos) (TV W (run2 ra rb fEqDD)) := x_cmp (by rw [← hK]; exact op_eqDD hr.units) p_eqDD ha hb hm
end
section
variable {W : Wd} {X : Cx} {k : Nat} {a b : Expr} {ra rb : Run} {pos : Pos}
end
end Sx
set_option Elab.async false
set_option linter.all false
set_option maxRecDepth 100000
set_option maxHeartbeats 1000000
set_option autoImplicit false
namespace Sx
open PySem L2
/-! ### repr tells apart: texts of small letters, None, lists and tuples of such -/
def low (x : Str) : Bool := x.cps.toList.all fun c => decide (97 ≤ c) && decide (c ≤ 122)
mutual
def cl : PyData → Bool
  | .none => true
  | .str x => low x
  | .list xs => clL xs
  | .tuple xs => clL xs
  | _ => false
def clL : List PyData → Bool
  | [] => true
  | x :: xs => cl x && clL xs
end
end Sx
set_option Elab.async false
set_option linter.all false
set_option maxRecDepth 100000
set_option maxHeartbeats 1000000
set_option autoImplicit false
namespace Sx
open PySem L2 PyProof.Rows
/-! ### repr of None, truth values, and of tuples that hold an empty dict -/
/-- an item of a tuple that repr shows: plain, or an empty dict -/
def Dq (K : PySem.W.Frag) (H : Hp) (v : V) (p : PyData) : Prop := (Dp K H v p ∧ p.hasDict = false) ∨ ∃ a, v = .ref a ∧ p = .dict [] ∧ Rd H a (.dK [])
def DqL (K : PySem.W.Frag) (H : Hp) : List V → List PyData → Prop := Paired (Dq K H)
section
variable {X : Cx} {W : Wd} {pins : List (Addr × Obj)} {σ : L2.St} {H : Hp} {s : Shared}
theorem Dq.reads (I : Inv X pins σ H s) {v : V} {p : PyData} {u : Value} (h : Dq X.K H v p) (r : RelV v u) : ∃ as, Reads s.heap u p as ∧ (p.hasDict = true → sysModules ∉ as) := by
  rcases h with ⟨dp, nd⟩ | ⟨a, rfl, rfl, rd⟩
  · obtain ⟨as, rs⟩ := Dp.reads I p v u dp r
    exact ⟨as, rs, PyData.noDict_hsm nd⟩
  · cases (show u = Value.ref a from r)
    obtain ⟨_, low, vs, kv, dd⟩ := dk_rd I.hok rd
    cases kv
    obtain ⟨o, es, ep, h1, h2, h3, _, h5, _⟩ := dd
    have e : es.toList = [] := by
      generalize es.toList = l at h5
      cases h5
      rfl
    refine ⟨a :: [] ++ [], .dict h1 h2.1 h3 (by rw [e]; exact .nil) (by rw [e]; exact .nil), fun _ z => ?_⟩
    simp at z
    rw [z] at low
    simp at low
end
/-! the rule -/
section
variable {X : Cx} {W : Wd} {S : Addr → Prop} {H : Hp}
theorem DqL.reads {pins : List (Addr × Obj)} {σ : L2.St} {s : Shared} (I : Inv X pins σ H s) : ∀ {xs : List V} {ps : List PyData} {us : List Value}, DqL X.K H xs ps → Paired RelV xs us → PyData.showableAll ps = true → (∀ t ∈ PyData.shownAll ps, t.length ≤ sizeLine) →
    ∃ as bs, ReadsAll s.heap us ps as ∧ ReadAtMost s.heap (PyData.depthAll ps) bs ∧ ReprAllK X.prog X.w bs s.heap (PyData.depthAll ps) us (PyData.shownAll ps)
  | _, _, _, .nil, .nil, _, _ => ⟨[], [], .nil, (fun _ h => nomatch h), .nil⟩
  | _, p :: ps, _, .cons h t, .cons r rs, sh, sz => by
    have sh : p.showable = true ∧ PyData.showableAll ps = true := by simpa [PyData.showableAll] using sh
    obtain ⟨a1, r1, n1⟩ := Dq.reads I h r
    obtain ⟨a2, b2, r2, m2, k2⟩ := DqL.reads I t rs sh.2 fun t ht => sz t (by rw [PyData.shownAll]; exact List.mem_cons_of_mem _ ht)
    obtain ⟨b1, m1, k1⟩ := ReprK.of_reads (prog := X.prog) (w := X.w) r1 sh.1 n1 (sz _ (by rw [PyData.shownAll]; exact List.mem_cons_self))
    have d1 : p.depth ≤ PyData.depthAll (p :: ps) := by rw [PyData.depthAll]; omega
    have d2 : PyData.depthAll ps ≤ PyData.depthAll (p :: ps) := by rw [PyData.depthAll]; omega
    refine ⟨a1 ++ a2, b1 ++ b2, .cons r1 r2, (m1.mono d1).append (m2.mono d2), ?_⟩
    rw [PyData.shownAll]
    exact .cons ((k1.more fun b hb => List.mem_append_left _ hb).level_le d1) (k2.more_le (fun b hb => List.mem_append_right _ hb) d2)
end
/-! the empty dict -/
end Sx
set_option Elab.async false
set_option linter.all false
set_option maxRecDepth 100000
set_option maxHeartbeats 4000000
set_option autoImplicit false
namespace Sx
open PySem L2 PyProof.Rows
/-! ### dict(pairs), powers, the greatest number, zip in a loop, a list turned about -/
section
variable {W : Wd} {S P S' P' : Addr → Prop} {en : En} {σ : L2.St} {H H' : Hp} {v : V} {d : D} {X : Cx}
/-! dict of a list of pairs -/
def pairD : D → Option (Key × D)
  | .tup [k, d] => (keyOf k).map fun q => (q, d)
  | _ => none
def pairsD : List D → Option (List (Key × D))
  | [] => some []
  | d :: r => (pairD d).bind fun p => (pairsD r).map fun ps => p :: ps
def fDictP (ds : List D) : Option (Bool × D) := match ds with
  | [.lst ps] => (pairsD ps).bind fun kvs => some1 (.dK (mergeD [] kvs))
  | _ => none
theorem Dv.tup_at {ds : List D} (h : Dv W S H v (.tup ds)) : ∃ a xs, v = .ref a ∧ SqT W.K H a xs ∧ DvL W S H xs ds := by
  cases h with
  | @tup a xs _ ha dl =>
    refine ⟨a, xs, rfl, ?_, dl⟩
    rcases ha with ⟨_, h⟩ | (h | ⟨_, h⟩) | h
    · exact SqT.of h
    · cases h
    · cases h
    · exact .inr h
theorem pairs_at : ∀ {xs : List V} {ds : List D} {kvs : List (Key × D)}, DvL W S H xs ds → pairsD ds = some kvs → ∃ (ps : List Addr) (vs : List (Key × V)), xs = ps.map V.ref ∧ Paired (fun p kv => SqT W.K H p [kV kv.1, kv.2]) ps vs ∧ DvP W S H vs kvs
  | _, [], kvs, h, e => by
    cases h
    cases e
    exact ⟨[], [], rfl, .nil, .nil⟩
  | _, d :: ds, kvs, h, e => by
    obtain ⟨p, hp, e⟩ := Option.bind_eq_some_iff.mp e
    obtain ⟨r, hr, rfl⟩ := Option.map_eq_some_iff.mp e
    cases h with
    | cons t1 d1 h =>
      obtain ⟨ps, vs, rfl, g1, g2⟩ := pairs_at h hr
      unfold pairD at hp
      split at hp
      · rename_i k dd
        obtain ⟨q, hq, rfl⟩ := Option.map_eq_some_iff.mp hp
        obtain ⟨a, ys, rfl, hs, dl⟩ := d1.tup_at
        cases dl with
        | cons ta da r1 => cases r1 with
          | cons tb db r2 =>
            cases r2
            have := keyOf_v da hq
            subst this
            exact ⟨a :: ps, (q, _) :: vs, rfl, .cons hs g1, .cons tb db g2⟩
      · cases hp
theorem PRes.dK {vs : List (Key × V)} {ds : List (Key × D)} {Q : VK} (hd : DomS S H) (h : DvP W S H vs ds) (r : PRes W S H (true, .dK ds) Q) : ∀ p, H p = none → Q (.ref p) (upd H p (.dK vs)) := fun p hp =>
  have ne : ∀ a, S a → upd H p (.dK vs) a = H a := fun a s => upd_ne fun z => by obtain ⟨o, e⟩ := hd a s; rw [z, hp] at e; cases e
  r _ _ S (upd_keeps hp) (fun _ h => h) (fun _ h => .inl h) (fun a s => by obtain ⟨o, e⟩ := hd a s; exact ⟨o, (ne a s).trans e⟩) tup_upd (.dK (.inl upd_same) (h.mono (fun _ h => h) ne)) (fun z => by cases z)
    fun _ => ⟨p, _, rfl, hp, (fun s => by obtain ⟨o, e⟩ := hd p s; rw [hp] at e; cases e), upd_same⟩
def rDictP (K : PySem.W.Frag) : List V → Hp → VK → Prop := fun xs H Q => ∃ (a : Addr) (ps : List Addr) (kvs : List (Key × V)), xs = [.ref a] ∧ SqL K H a (ps.map V.ref) ∧ Paired (fun p kv => SqT K H p [kV kv.1, kv.2]) ps kvs ∧
    ∀ p, H p = none → Q (.ref p) (upd H p (.dK (mergeK [] kvs)))
theorem cr_dictP (hc : X.calm = true) : CallR X (.type "dict") (rDictP X.K) := call_dictP hc
theorem p_dictP : PureN W (rDictP W.K) fDictP := by
  intro S H vs ds c Q hd h hf r
  unfold fDictP at hf
  split at hf
  · obtain ⟨kvs, hk, e⟩ := Option.bind_eq_some_iff.mp hf
    cases e
    obtain ⟨v, rfl, dv⟩ := h.one
    cases dv with
    | lst ha dl =>
      obtain ⟨ps, ws, rfl, g1, g2⟩ := pairs_at dl hk
      exact ⟨_, ps, ws, rfl, SqL.of ha, g1, PRes.dK hd (merge_dv .nil g2) r⟩
  · cases hf
/-! powers of small numbers -/
abbrev fPow := fIntC (fun i j => decide (0 ≤ j ∧ j ≤ 1000 ∧ i.natAbs < 2 ^ 60)) fun i j => i ^ j.toNat
variable {a b e : Expr} {ra rb re : Run} {p pos cpos apos : Pos}
theorem e_pow (ha : PE X a (TV W ra)) (hb : PE X b (TV W rb)) : PE X (.BinOp a .Pow b pos) (TV W (run2 ra rb fPow)) := x_bin op_pow (p_intC fun i j h => by
  obtain ⟨h1, h2, h3⟩ := of_decide_eq_true h
  exact ⟨h1, by omega, by omega⟩) ha hb
/-! the greatest number of a list -/
def maxI : List Int → Option Int
  | [] => none
  | [i] => some i
  | i :: r => (maxI r).map fun m => if m < i then i else m
theorem maxI_ok : ∀ {ns : List Int} {m : Int}, maxI ns = some m → m ∈ ns ∧ ∀ y ∈ ns, y ≤ m
  | [], _, h => by cases h
  | [i], m, h => by
    cases h
    exact ⟨List.mem_cons_self, fun y hy => by rw [List.mem_singleton.mp hy]; exact Int.le_refl _⟩
  | i :: j :: r, m, h => by
    obtain ⟨k, hk, rfl⟩ := Option.map_eq_some_iff.mp h
    obtain ⟨h1, h2⟩ := maxI_ok hk
    split
    · exact ⟨List.mem_cons_self, fun y hy => (List.mem_cons.mp hy).elim (fun e => by omega) fun q => by have := h2 y q; omega⟩
    · exact ⟨List.mem_cons_of_mem _ h1, fun y hy => (List.mem_cons.mp hy).elim (fun e => by omega) fun q => h2 y q⟩
def intsD : List D → Option (List Int)
  | [] => some []
  | .int i :: r => (intsD r).map fun is => i :: is
  | _ => none
theorem ints_at : ∀ {xs : List V} {ds : List D} {ns : List Int}, DvL W S H xs ds → intsD ds = some ns → xs = ns.map V.int
  | _, [], ns, h, e => by cases h; cases e; rfl
  | _, d :: ds, ns, h, e => by
    unfold intsD at e
    split at e
    · rename_i heq
      cases heq
    · rename_i heq
      cases heq
      obtain ⟨is, hi, rfl⟩ := Option.map_eq_some_iff.mp e
      cases h with
      | cons t1 d1 h =>
        cases d1
        rw [ints_at h hi]
        rfl
    · cases e
def fMaxL (ds : List D) : Option (Bool × D) := match ds with
  | [.lst xs] => (intsD xs).bind fun ns => (maxI ns).bind fun m => some0 (.int m)
  | _ => none
theorem p_maxL : PureN W (rMax W.K) fMaxL := by
  intro S H vs ds c Q hd h hf r
  unfold fMaxL at hf
  split at hf
  · obtain ⟨ns, hn, e⟩ := Option.bind_eq_some_iff.mp hf
    obtain ⟨m, hm, e⟩ := Option.bind_eq_some_iff.mp e
    cases e
    obtain ⟨v, rfl, dv⟩ := h.one
    cases dv with
    | lst ha dl =>
      have := ints_at dl hn
      subst this
      obtain ⟨h1, h2⟩ := maxI_ok hm
      refine ⟨_, ns, rfl, SqL.of ha, List.length_pos_of_mem h1, fun k hk hle => ?_⟩
      have : k = m := Int.le_antisymm (h2 k hk) (hle m h1)
      rw [this]
      exact r.int hd
  · cases hf
/-! xs.reverse() -/
def rRvs (i : Nat) : Run := fun en => (T.ofOpt (ownL en i)).bind fun ds => .ret (.v .non, en.set i (some (.ow, .lst ds.reverse)))
instance {i : Nat} : ShRun (rRvs i) := ⟨fun en => all_of fun _ _ => LkSub.set (by intro d h; cases h)⟩
/-! for a, b in zip(xs, ys) -/
def zipD (xs ys : List D) : List D := (xs.zip ys).map fun z => .tup [z.1, z.2]
def iZipR (rs : Runs) : RunI := fun en => (rs en).bind fun a => (T.ofOpt (match onlyV a.1 with
  | some [.lst xs, .lst ys] => some (zipD xs ys)
  | _ => none)).bind fun ds => .ret (ds, a.2)
theorem walks_zip {a b : Addr} {xs ys : List V} {ds es : List D} (R : Rel W S P en σ H) (ha : P a) (hb : P b) (h : H a = some (.lst xs)) (g : H b = some (.lst ys)) (dl : DvL W S H xs ds) (el : DvL W S H ys es) : Walks W S P H (Itz W.K a b) (zipD ds es) := by
  have hl : (zipD ds es).length = min ds.length es.length := by simp [zipD]
  have at1 : ∀ H2, (∀ c, P c → H2 c = H c) → SqL W.K H2 a xs := fun H2 q => SqL.of ((q a ha).trans h)
  have at2 : ∀ H2, (∀ c, P c → H2 c = H c) → SqL W.K H2 b ys := fun H2 q => SqL.of ((q b hb).trans g)
  have l1 := dl.len
  have l2 := el.len
  refine ⟨fun i H2 q hi => ⟨xs, ys, at1 H2 q, at2 H2 q, by omega⟩, fun i H2 q hi => ?_, fun i H2 x H3 q hi y => ?_⟩
  · exact ⟨xs, ys, xs[i]'(by omega), ys[i]'(by omega), at1 H2 q, at2 H2 q, List.getElem?_eq_getElem (by omega), List.getElem?_eq_getElem (by omega)⟩
  · obtain ⟨T', x', y', rfl, hT, rfl, y1, y2⟩ := y
    obtain ⟨d, hd, dz⟩ := (dl.at (i := i)).1 x' (y1 xs (at1 _ q))
    obtain ⟨e, he, ez⟩ := (el.at (i := i)).1 y' (y2 ys (at2 _ q))
    have up : ∀ {u : V} {d : D}, Dz W S H u d → Dz W S H2 u d := fun z => ⟨z.1, z.2.mono (fun _ h => h) (fun b s => q b (R.sp b s)) (z.1.mono fun b s => q b (R.sp b s))⟩
    refine ⟨.tup [d, e], ?_, .inr ⟨T', _, _, rfl, hT, rfl, rfl, .cons (up dz).1 (up dz).2 (.cons (up ez).1 (up ez).2 .nil)⟩⟩
    unfold zipD
    rw [List.getElem?_map]
    have : (ds.zip es)[i]? = some (d, e) := List.getElem?_zip_eq_some.mpr ⟨hd, he⟩
    rw [this]
    rfl
variable {rs : Runs}
instance [h : ShRuns rs] : ShIt (iZipR rs) none := ⟨fun en => T.all_mono (all_seq (h.sh en) fun _ => all_of fun _ _ => LkSub.refl _) fun _ h _ g => g.trans h⟩
end
end Sx
set_option Elab.async false
set_option linter.all false
set_option maxRecDepth 100000
set_option maxHeartbeats 4000000
set_option autoImplicit false
namespace Sx
open PySem L2 PyProof.Rows
/-! ### a dict of dicts that is filled by another name: rows[name] is held by cells, cells[column] = .. -/
/-- the model: for each name its cells -/
abbrev Mdl := List (Str × List (Key × D))
def topK (m : Mdl) (ps : List Addr) : List (Key × V) := ((m.map (·.1)).zip ps).map fun z => ((.inr z.1 : Key), V.ref z.2)
structure GM (W : Wd) (S P : Addr → Prop) (H : Hp) (r : Addr) (ps : List Addr) (m : Mdl) : Prop where
  top : H r = some (.dK (topK m ps))
  len : ps.length = m.length
  nd : ps.Nodup
  rp : r ∉ ps
  pr : P r ∧ ¬ S r
  it : ∀ (i : Nat) (p : Addr) (x : Str × List (Key × D)), ps[i]? = some p → m[i]? = some x → P p ∧ ¬ S p ∧ ∃ vs, H p = some (.dK vs) ∧ DvP W S H vs x.2
section
variable {W : Wd} {S P S' P' : Addr → Prop} {en : En} {σ : L2.St} {H H' : Hp} {v : V} {d : D} {r : Addr} {ps : List Addr} {m : Mdl}
theorem GM.ext (G : GM W S P H r ps m) (sp : ∀ a, S a → P a) (e : Ext S P H S' P' H') : GM W S' P' H' r ps m := by
  refine ⟨(e.h r G.pr.1).trans G.top, G.len, G.nd, G.rp, ⟨e.p r G.pr.1, fun h => (e.n r h).elim G.pr.2 fun z => z G.pr.1⟩, fun i p x hp hx => ?_⟩
  obtain ⟨h1, h2, vs, h3, h4⟩ := G.it i p x hp hx
  exact ⟨e.p p h1, fun h => (e.n p h).elim h2 fun z => z h1, vs, (e.h p h1).trans h3, h4.mono e.s fun a s => e.h a (sp a s)⟩
theorem Rel.poke {p : Addr} {u : HO} (R : Rel W S P en σ H) (hp : P p) (hs : ¬ S p) (hl : ∀ (i : Nat) (d : D), en[i]? ≠ some (some (.lk, d))) (tb : TbS W S (upd H p u)) : Rel W S P en σ (upd H p u) := by
  obtain ⟨R6, f6⟩ := R.turn (u := u) hp hs (fun i d e => absurd e (hl i d)) tb
  have g := R6.guard f6 upd_same
  have e : add (fun a => P a ∧ a ≠ p) p = P := by
    funext a
    exact propext ⟨fun h => h.elim (·.1) fun z => z ▸ hp, fun h => by
      by_cases z : a = p
      · exact .inr z
      · exact .inl ⟨h, z⟩⟩
  rw [e] at g
  exact g
theorem GM.poke (G : GM W S P H r ps m) {i : Nat} {p : Addr} {x : Str × List (Key × D)} {vs : List (Key × V)} {k : Key} (hp : ps[i]? = some p) (hx : m[i]? = some x) (hv : H p = some (.dK vs)) (dp : DvP W S H vs x.2) (dz : Dz W S H v d) :
    GM W S P (upd H p (.dK (putK vs k v))) r ps (m.set i (x.1, putD x.2 k d)) := by
  obtain ⟨p1, p2, _⟩ := G.it i p x hp hx
  have ne : ∀ a, S a → upd H p (.dK (putK vs k v)) a = H a := fun a s => upd_ne fun z => p2 (z ▸ s)
  have nr : r ≠ p := fun z => G.rp (z ▸ List.mem_of_getElem? hp)
  have hi : i < m.length := lt_of_get hx
  have key : (m.set i (x.1, putD x.2 k d)).map (·.1) = m.map (·.1) := by
    apply List.ext_getElem?
    intro j
    rw [List.getElem?_map, List.getElem?_map]
    by_cases e : i = j
    · subst e; rw [List.getElem?_set_self hi, hx]; rfl
    · rw [List.getElem?_set_ne e]
  refine ⟨?_, by rw [List.length_set]; exact G.len, G.nd, G.rp, G.pr, fun j q y hq hy => ?_⟩
  · rw [upd_ne nr, G.top]
    unfold topK
    rw [key]
  · by_cases e : i = j
    · subst e
      rw [hp] at hq
      cases hq
      rw [List.getElem?_set_self hi] at hy
      cases hy
      exact ⟨p1, p2, _, upd_same, (dp.putK dz).mono (fun _ h => h) ne⟩
    · rw [List.getElem?_set_ne e] at hy
      obtain ⟨h1, h2, ws, h3, h4⟩ := G.it j q y hq hy
      have nq : q ≠ p := fun z => e ((List.getElem?_inj (lt_of_get hp) G.nd).mp (by rw [hp, hq, z]))
      exact ⟨h1, h2, ws, by rw [upd_ne nq]; exact h3, h4.mono (fun _ h => h) ne⟩
theorem topK_at : ∀ {ks : List Str} {ps : List Addr} {i : Nat} {x : Str} {p : Addr}, ks.Nodup → ks[i]? = some x → ps[i]? = some p → valV ((ks.zip ps).map fun z => ((.inr z.1 : Key), V.ref z.2)) (.inr x) = some (.ref p)
  | [], _, _, _, _, _, h, _ => by simp at h
  | _ :: _, [], _, _, _, _, _, h => by simp at h
  | k :: ks, q :: ps, 0, x, p, nd, h, g => by
    simp only [List.getElem?_cons_zero, Option.some.injEq] at h g
    subst h
    subst g
    rw [List.zip_cons_cons, List.map_cons]
    exact valV_pos (p := ((.inr k : Key), V.ref q)) rfl
  | k :: ks, q :: ps, i + 1, x, p, nd, h, g => by
    simp only [List.getElem?_cons_succ] at h g
    rw [List.nodup_cons] at nd
    have ne : k ≠ x := fun z => nd.1 (z ▸ List.mem_of_getElem? h)
    rw [List.zip_cons_cons, List.map_cons, valV_neg (p := ((.inr k : Key), V.ref q)) fun z => ne (by injection z)]
    exact topK_at nd.2 h g
theorem GM.get (G : GM W S P H r ps m) {i : Nat} {x : Str × List (Key × D)} (nd : (m.map (·.1)).Nodup) (hx : m[i]? = some x) : ∃ p, ps[i]? = some p ∧ DGet H r (.str x.1) (some (.ref p)) := by
  have hi : i < ps.length := by rw [G.len]; exact lt_of_get hx
  refine ⟨ps[i], List.getElem?_eq_getElem hi, ?_⟩
  have := DGet.k (k := .inr x.1) G.top
  rw [topK, topK_at nd (by rw [List.getElem?_map, hx]; rfl) (List.getElem?_eq_getElem hi)] at this
  exact this
theorem frz_pairs {S2 : Addr → Prop} : ∀ {m : Mdl} {ps : List Addr}, ps.length = m.length → (∀ (i : Nat) (p : Addr) (x : Str × List (Key × D)), ps[i]? = some p → m[i]? = some x → S2 p ∧ ∃ vs, H p = some (.dK vs) ∧ DvP W S2 H vs x.2) →
    DvP W S2 H (topK m ps) (m.map fun x => ((.inr x.1 : Key), .dK x.2))
  | [], ps, hl, _ => by
    cases ps with
    | nil => exact .nil
    | cons p ps => cases hl
  | x :: m, [], hl, _ => by cases hl
  | x :: m, p :: ps, hl, h => by
    obtain ⟨s, vs, e, dp⟩ := h 0 p x rfl rfl
    have ih := frz_pairs (m := m) (ps := ps) (by simpa using hl) fun i p x hp hx => h (i + 1) p x hp hx
    exact .cons s (.dK (.inl e) dp) ih
/-- the dict and its cells are frozen -/
theorem GM.freeze (G : GM W S P H r ps m) (R : Rel W S P en σ H) : Dv W (fun a => S a ∨ a = r ∨ a ∈ ps) H (.ref r) (.dK (m.map fun x => ((.inr x.1 : Key), .dK x.2))) ∧ (∀ a, (S a ∨ a = r ∨ a ∈ ps) → P a) := by
  have inP : ∀ p ∈ ps, P p := fun p h => by
    obtain ⟨i, hi, rfl⟩ := List.mem_iff_getElem.mp h
    exact (G.it i _ _ (List.getElem?_eq_getElem hi) (List.getElem?_eq_getElem (by rw [← G.len]; exact hi))).1
  refine ⟨.dK (.inl G.top) (frz_pairs G.len fun i p x hp hx => ?_), fun a h => h.elim (R.sp a) fun h => h.elim (fun e => e ▸ G.pr.1) (inP a)⟩
  obtain ⟨_, _, vs, h3, h4⟩ := G.it i p x hp hx
  exact ⟨.inr (.inr (List.mem_of_getElem? hp)), vs, h3, h4.mono (fun a h => .inl h) fun _ _ => rfl⟩
/-! the dict is made -/
/-- new objects, guarded -/
theorem Rel.fresh (R : Rel W S P en σ H) (hH : ∀ a o, H a = some o → H' a = some o) (N : Addr → Prop) (hn : ∀ a, N a → H a = none ∧ ∃ o, H' a = some o) (hN : ∀ a xs, N a → H' a ≠ some (.tup xs)) :
    ∃ S3 P3, (∀ a, N a → P3 a ∧ ¬ S3 a) ∧ Ext S P H S3 P3 H' ∧ Rel W S3 P3 en σ H' := by
  obtain ⟨S3, nS, e0, R0⟩ : ∃ S3 : Addr → Prop, (∀ a, N a → ¬ S3 a) ∧ Ext S P H S3 (fun a => P a ∨ S3 a) H' ∧ Rel W S3 (fun a => P a ∨ S3 a) en σ H' := by
    refine ⟨fun a => S a ∨ (H a = none ∧ ∃ xs, H' a = some (.tup xs)), fun a h w => ?_, R.same hH (fun _ h => .inl h) (fun a h => h.imp id And.left) (fun a h => h.elim (fun h => by obtain ⟨o, z⟩ := R.dom a h; exact ⟨o, hH a o z⟩) fun h => by obtain ⟨_, xs, z⟩ := h; exact ⟨_, z⟩) (fun a xs z => ?_)⟩
    · rcases w with w | ⟨_, xs, z⟩
      · obtain ⟨o, z⟩ := R.dom a w
        rw [(hn a h).1] at z
        cases z
      · exact hN a xs h z
    · rcases q : H a with _ | o
      · exact .inr (.inr ⟨rfl, xs, z⟩)
      · have := hH a o q
        rw [z] at this
        cases this
        exact .inl rfl
  refine ⟨S3, fun a => (P a ∨ S3 a) ∨ N a, fun a h => ⟨.inr h, nS a h⟩, ⟨e0.s, fun a h => .inl (.inl h), e0.h, e0.n⟩, ⟨fun a h => .inl (R0.sp a h), fun a h => h.elim (R0.pd a) fun h => (hn a h).2, fun i f d e => ?_, R0.inj, R0.len, R0.dr, ?_, R0.tb⟩⟩
  · obtain ⟨v, hv, dv, t, ow⟩ := R0.slot i f d e
    refine ⟨v, hv, dv, t, fun z => ?_⟩
    obtain ⟨q, o, ev, hs, hq, hl, h1, h2, h3⟩ := ow z
    refine ⟨q, o, ev, hs, fun y w => w.elim (hq y) fun w => ?_, fun y => .inl (hl y), h1, h2, h3⟩
    obtain ⟨v', hv', _, _, ow'⟩ := R.slot i f d e
    obtain ⟨q', o', ev', _, _, _, _, _, h3'⟩ := ow' z
    rw [hv] at hv'
    cases hv'
    rw [ev] at ev'
    cases ev'
    rw [(hn q w).1] at h3'
    cases h3'
  · obtain ⟨ne, ns, i, j, k, h1, h2, h3⟩ := R.dr
    exact ⟨fun w => w.elim R0.drP.1 fun w => (by rw [(hn _ w).1] at h1; cases h1), ⟨fun w => w.elim R0.drP.2.1 fun w => (by rw [(hn _ w).1] at h2; cases h2), fun x hx w => w.elim (R0.drP.2.2 x hx) fun w => (by obtain ⟨ps, t1, _⟩ := R.tb.1 x hx; rw [(hn _ w).1] at t1; cases t1)⟩⟩
theorem mergeK_fresh : ∀ {more kvs : List (Key × V)}, ((kvs ++ more).map (·.1)).Nodup → mergeK kvs more = kvs ++ more
  | [], kvs, _ => by simp [mergeK]
  | p :: more, kvs, nd => by
    have nv : valV kvs p.1 = none := by
      cases e : valV kvs p.1 with
      | none => rfl
      | some v =>
        have := valV_any p.1 kvs
        rw [e] at this
        obtain ⟨q, hq, eq⟩ := List.any_eq_true.mp this
        rw [List.map_append, List.nodup_append] at nd
        exact absurd (of_decide_eq_true eq) (nd.2.2 q.1 (List.mem_map.mpr ⟨q, hq, rfl⟩) p.1 (by simp))
    show mergeK (putK kvs p.1 p.2) more = _
    rw [putK_new p.2 nv, mergeK_fresh (by simpa using nd)]
    simp
/-- [(name, {}) for name in names], as it grows -/
structure Gr (H : Hp) (Da : Addr) (names : List Str) (i : Nat) (H2 : Hp) (ts ps : List Addr) : Prop where
  keep : ∀ b o, H b = some o → H2 b = some o
  top : H2 Da = some (.lst (ts.map V.ref))
  lt : ts.length = i
  lp : ps.length = i
  nd : ps.Nodup
  nt : ∀ t ∈ ts, H t = none ∧ t ≠ Da
  np : ∀ p ∈ ps, H p = none ∧ p ≠ Da ∧ H2 p = some (.dK [])
  at_ : ∀ (j : Nat) (t p : Addr) (x : Str), ts[j]? = some t → ps[j]? = some p → names[j]? = some x → H2 t = some (.tup [.str x, .ref p])
theorem gr_paired {K : PySem.W.Frag} {H2 : Hp} : ∀ {names : List Str} {ts ps : List Addr}, ts.length = names.length → ps.length = names.length → (∀ (j : Nat) (t p : Addr) (x : Str), ts[j]? = some t → ps[j]? = some p → names[j]? = some x → H2 t = some (.tup [.str x, .ref p])) →
    Paired (fun p kv => SqT K H2 p [kV kv.1, kv.2]) ts ((names.zip ps).map fun z => ((.inr z.1 : Key), V.ref z.2))
  | [], [], [], _, _, _ => .nil
  | x :: names, t :: ts, p :: ps, h1, h2, h => by
    refine .cons (SqT.of (h 0 t p x rfl rfl rfl)) (gr_paired (by simpa using h1) (by simpa using h2) fun j t p x a b c => h (j + 1) t p x a b c)
  | [], _ :: _, _, h1, _, _ => by cases h1
  | [], [], _ :: _, _, h2, _ => by cases h2
  | _ :: _, [], _, h1, _, _ => by cases h1
  | _ :: _, _ :: _, [], _, h2, _ => by cases h2
theorem strs_at : ∀ {xs : List V} {names : List Str}, DvL W S H xs (names.map D.str) → xs = names.map V.str
  | _, [], h => by cases h; rfl
  | _, x :: names, h => by
    cases h with
    | cons t1 d1 h =>
      cases d1
      rw [strs_at h]
      rfl
theorem t_rows {K : PySem.W.Frag} {iN iX : Nat} {names : List Str} {a : Addr} {Q : VK} (hi : iX < σ.length) (hne : iN ≠ iX) (hv : σ[iN]? = some (some (.ref a))) (ha : H a = some (.lst (names.map V.str))) (nd : names.Nodup) (hl : names.length ≤ 1000)
    (q : ∀ r ps H', (∀ b o, H b = some o → H' b = some o) → H r = none → (∀ p ∈ ps, H p = none) → ps.length = names.length → ps.Nodup → r ∉ ps → H' r = some (.dK ((names.zip ps).map fun z => ((.inr z.1 : Key), V.ref z.2))) → (∀ p ∈ ps, H' p = some (.dK [])) → Q (.ref r) H') :
    tCB (rDictP K) (tCons (tLc (iList K (tVar iN)) (gName iX) tYes (tTup (tCons (tVar iX) (tCons tDNewK tNil))) [iX]) tNil) σ H Q := by
  refine ⟨.ref a, hv, a, rfl, ⟨_, SqL.of ha⟩, fun Da hD => ?_⟩
  have sz : (4096 : Nat) < sizeLine := by rw [sizeLine_eq]; decide
  have haD : a ≠ Da := fun z => by rw [z, hD] at ha; cases ha
  refine lc_list (xs := names.map V.str) (fun i H2 => ∃ ts ps, Gr H Da names i H2 ts ps) ⟨[], [], fun b o e => ?_, upd_same, rfl, rfl, List.nodup_nil, by simp, by simp, by simp⟩ (fun i H2 _ ⟨ts, ps, g⟩ => SqL.of (g.keep _ _ ha)) (fun i x H2 hx ⟨ts, ps, g⟩ => ?_) fun H2 ⟨ts, ps, g⟩ => ?_
  · rw [upd_ne fun z => by rw [z, hD] at e; cases e]; exact e
  · rw [List.getElem?_map] at hx
    obtain ⟨y, hy, rfl⟩ := Option.map_eq_some_iff.mp hx
    have hlt := lt_of_get hy
    refine ⟨?_, ?_⟩
    · show ((wipe σ [iX]).set iX _).set iX none = _
      show ((σ.set iX none).set iX _).set iX none = σ.set iX none
      rw [List.set_set, List.set_set]
    · unfold tYes
      simp only [if_true]
      refine ⟨.str y, List.getElem?_set_self (by show iX < (σ.set iX none).length; rw [List.length_set]; exact hi), fun p hp => ⟨by show 2 ≤ sizeLine; omega, fun t ht => ?_⟩⟩
      have up1 : ∀ b o, H2 b = some o → upd H2 p (.dK []) b = some o := upd_keeps hp
      have up2 : ∀ b o, upd H2 p (.dK []) b = some o → upd (upd H2 p (.dK [])) t (.tup [.str y, .ref p]) b = some o := upd_keeps ht
      have hp0 : H p = none := by
        cases e : H p with
        | none => rfl
        | some o => rw [g.keep p o e] at hp; cases hp
      have ht2 : H2 t = none := by
        cases e : H2 t with
        | none => rfl
        | some o => rw [up1 t o e] at ht; cases ht
      have ht0 : H t = none := by
        cases e : H t with
        | none => rfl
        | some o => rw [g.keep t o e] at ht2; cases ht2
      have pD : p ≠ Da := fun z => by rw [z, g.top] at hp; cases hp
      have tD : t ≠ Da := fun z => by rw [z, g.top] at ht2; cases ht2
      have top' := up2 _ _ (up1 _ _ g.top)
      have len : (ts.map V.ref).length < sizeLine := by rw [List.length_map, g.lt]; omega
      refine ⟨ts.map V.ref, top', len, ts ++ [t], ps ++ [p], fun b o e => ?_, by rw [upd_same, List.map_append]; rfl, by rw [List.length_append, g.lt]; rfl, by rw [List.length_append, g.lp]; rfl, ?_, fun u hu => ?_, fun u hu => ?_, fun j u q z hu hq hz => ?_⟩
      · rw [upd_ne fun z => by rw [z, hD] at e; cases e]
        exact up2 _ _ (up1 _ _ (g.keep b o e))
      · rw [List.nodup_append]
        refine ⟨g.nd, by simp, fun u hu w hw => ?_⟩
        rw [List.mem_singleton.mp hw]
        intro z
        rw [z] at hu
        rw [(g.np p hu).2.2] at hp
        cases hp
      · rcases List.mem_append.mp hu with hu | hu
        · exact g.nt u hu
        · rw [List.mem_singleton.mp hu]; exact ⟨ht0, tD⟩
      · rcases List.mem_append.mp hu with hu | hu
        · obtain ⟨h1, h2, h3⟩ := g.np u hu
          exact ⟨h1, h2, by rw [upd_ne h2]; exact up2 _ _ (up1 _ _ h3)⟩
        · rw [List.mem_singleton.mp hu]
          exact ⟨hp0, pD, by rw [upd_ne pD]; exact up2 _ _ upd_same⟩
      · have uD : u ≠ Da := by
          rcases List.mem_append.mp (List.mem_of_getElem? hu) with h | h
          · exact (g.nt u h).2
          · rw [List.mem_singleton.mp h]; exact tD
        rw [upd_ne uD]
        by_cases hj : j < i
        · rw [List.getElem?_append_left (by rw [g.lt]; exact hj)] at hu
          rw [List.getElem?_append_left (by rw [g.lp]; exact hj)] at hq
          exact up2 _ _ (up1 _ _ (g.at_ j u q z hu hq hz))
        · have hj2 : j = i := by
            have := lt_of_get hu
            rw [List.length_append, g.lt] at this
            simp at this
            omega
          subst hj2
          rw [List.getElem?_append_right (by rw [g.lt]; exact Nat.le_refl _), g.lt] at hu
          rw [List.getElem?_append_right (by rw [g.lp]; exact Nat.le_refl _), g.lp] at hq
          simp at hu hq
          rw [hy] at hz
          cases hz
          subst hu
          subst hq
          exact upd_same
  · rw [List.length_map] at g
    have kn : (((names.zip ps).map fun z => ((.inr z.1 : Key), V.ref z.2)).map (·.1)).Nodup := by
      rw [List.map_map]
      have : ((fun x : Key × V => x.1) ∘ fun z : Str × Addr => ((.inr z.1 : Key), V.ref z.2)) = (fun x : Str => (.inr x : Key)) ∘ Prod.fst := rfl
      rw [this, ← List.map_map, List.map_fst_zip (by rw [g.lp]; exact Nat.le_refl _)]
      exact List.pairwise_map.mpr (nd.imp fun h e => h (by injection e))
    refine ⟨Da, ts, _, rfl, SqL.of g.top, gr_paired g.lt g.lp g.at_, fun r hr => ?_⟩
    rw [mergeK_fresh (kvs := []) (by simpa using kn), List.nil_append]
    have nr : H r = none := by
      cases e : H r with
      | none => rfl
      | some o => rw [g.keep r o e] at hr; cases hr
    have rp : r ∉ ps := fun z => by rw [(g.np r z).2.2] at hr; cases hr
    exact q r ps _ (fun b o e => upd_keeps hr b o (g.keep b o e)) nr (fun p h => (g.np p h).1) g.lp g.nd rp upd_same fun p h => by rw [upd_ne fun z => rp (by rw [← z]; exact h)]; exact (g.np p h).2.2
end
end Sx
set_option Elab.async false
set_option linter.all false
set_option maxRecDepth 100000
set_option maxHeartbeats 4000000
set_option autoImplicit false
namespace Sx
open PySem L2 PyProof.Rows
/-! ### the model's cells are filled, a column a turn -/
def putM (k : Key) (x : Str × List (Key × D)) (d : D) : Str × List (Key × D) := (x.1, putD x.2 k d)
def fillM (k : Key) (m : Mdl) (ds : List D) : Mdl := List.zipWith (putM k) m ds
/-- the first n of them -/
def fillN (k : Key) (m : Mdl) (ds : List D) (n : Nat) : Mdl := fillM k (m.take n) ds ++ m.drop n
theorem fillN_zero (k : Key) (m : Mdl) (ds : List D) : fillN k m ds 0 = m := by simp [fillN, fillM]
theorem fillN_all {k : Key} {m : Mdl} {ds : List D} (h : ds.length = m.length) : fillN k m ds m.length = fillM k m ds := by simp [fillN, fillM]
theorem fillM_keys {k : Key} : ∀ {m : Mdl} {ds : List D}, m.length ≤ ds.length → (fillM k m ds).map (·.1) = m.map (·.1)
  | [], _, _ => by simp [fillM]
  | x :: m, [], h => by cases h
  | x :: m, d :: ds, h => by
    have ih := fillM_keys (k := k) (m := m) (ds := ds) (by simpa using h)
    unfold fillM at ih ⊢
    rw [List.zipWith_cons_cons, List.map_cons, List.map_cons, ih]
    rfl
theorem fillN_step {k : Key} {m : Mdl} {ds : List D} {i : Nat} {x : Str × List (Key × D)} {d : D} (hl : ds.length = m.length) (hx : m[i]? = some x) (hd : ds[i]? = some d) : (fillN k m ds i)[i]? = some x ∧ (fillN k m ds i).set i (x.1, putD x.2 k d) = fillN k m ds (i + 1) := by
  have hi := lt_of_get hx
  have l1 : (fillM k (m.take i) ds).length = i := by unfold fillM; rw [List.length_zipWith, List.length_take]; omega
  have dr : m.drop i = x :: m.drop (i + 1) := drop_at hx
  have tk : m.take (i + 1) = m.take i ++ [x] := by rw [List.take_add_one, hx]; rfl
  have dd : ds = ds.take i ++ d :: ds.drop (i + 1) := by rw [← drop_at hd, List.take_append_drop]
  have z1 : fillM k (m.take (i + 1)) ds = fillM k (m.take i) ds ++ [putM k x d] := by
    have a1 : fillM k (m.take i) ds = List.zipWith (putM k) (m.take i) (ds.take i) := by
      unfold fillM
      apply List.ext_getElem?
      intro j
      rw [List.getElem?_zipWith, List.getElem?_zipWith]
      by_cases hj : j < i
      · rw [List.getElem?_take_of_lt (l := ds) hj]
      · rw [List.getElem?_eq_none (l := m.take i) (by rw [List.length_take]; omega)]
    rw [a1]
    unfold fillM
    rw [tk]
    conv => lhs; rw [dd]
    rw [List.zipWith_append (by rw [List.length_take, List.length_take]; omega)]
    rfl
  constructor
  · unfold fillN
    rw [List.getElem?_append_right (by rw [l1]; exact Nat.le_refl _), l1, dr]
    simp
  · unfold fillN
    rw [List.set_append_right _ _ (by rw [l1]; exact Nat.le_refl _), l1, dr, z1]
    simp [putM]
section
variable {W : Wd} {S P S' P' S0 P0 : Addr → Prop} {en : En} {σ : L2.St} {H H' H0 : Hp} {v : V} {d : D} {r : Addr} {ps : List Addr} {m : Mdl}
theorem Rel.blank (R : Rel W S P en σ H) {i : Nat} (h : en[i]? = some none) (x : Option V) : Rel W S P en (σ.set i x) H := by
  have ne : ∀ {j : Nat} {f : Fg} {d : D}, en[j]? = some (some (f, d)) → i ≠ j := fun e z => by subst z; rw [h] at e; cases e
  refine ⟨R.sp, R.pd, fun j f d e => ?_, fun j k f g d e v h1 h2 h3 h4 h5 h6 => ?_, by rw [List.length_set]; exact R.len, R.dr, R.drP, R.tb⟩
  · obtain ⟨v, hv, q⟩ := R.slot j f d e
    exact ⟨v, by rw [List.getElem?_set_ne (ne e)]; exact hv, q⟩
  · rw [List.getElem?_set_ne (ne h1)] at h5
    rw [List.getElem?_set_ne (ne h2)] at h6
    exact R.inj j k f g d e v h1 h2 h3 h4 h5 h6
abbrev EMo (s1 : Slot) (h : Int) (fc fn : Fg) (cols names : List Str) (s5 s6 s7 s8 s9 s10 s11 : Slot) : En := [some (.fz, .drw), s1, some (.fz, .int h), some (fc, .lst (cols.map .str)), some (fn, .lst (names.map .str)), s5, s6, s7, s8, s9, s10, s11]
def NoLk (s : Slot) : Prop := ∀ d, s ≠ some (.lk, d)
theorem emo_nolk {s1 s5 s6 s7 s8 s9 s10 s11 : Slot} {h : Int} {fc fn : Fg} {cols names : List Str} (a1 : NoLk s1) (ac : fc ≠ .lk) (an : fn ≠ .lk) (a5 : NoLk s5) (a6 : NoLk s6) (a7 : NoLk s7) (a8 : NoLk s8) (a9 : NoLk s9) (a10 : NoLk s10) (a11 : NoLk s11) :
    ∀ (i : Nat) (d : D), (EMo s1 h fc fn cols names s5 s6 s7 s8 s9 s10 s11)[i]? ≠ some (some (.lk, d)) := by
  intro i d e
  have hi := lt_of_get e
  have hi : i < 12 := hi
  match i, hi with
  | 0, _ => cases e
  | 1, _ => exact a1 d (Option.some.inj e)
  | 2, _ => cases e
  | 3, _ => have := Option.some.inj e; injection this with z; injection z with z; exact ac z
  | 4, _ => have := Option.some.inj e; injection this with z; injection z with z; exact an z
  | 5, _ => exact a5 d (Option.some.inj e)
  | 6, _ => exact a6 d (Option.some.inj e)
  | 7, _ => exact a7 d (Option.some.inj e)
  | 8, _ => exact a8 d (Option.some.inj e)
  | 9, _ => exact a9 d (Option.some.inj e)
  | 10, _ => exact a10 d (Option.some.inj e)
  | 11, _ => exact a11 d (Option.some.inj e)
theorem nolk_fz (d : D) : NoLk (some (.fz, d)) := fun e z => by cases z
theorem nolk_none : NoLk none := fun e z => by cases z
abbrev tFill (K : PySem.W.Frag) : TS := tFor (iZip K (tCons (tVar 4) (tCons (tVar 7) tNil))) (gTup K 2 (gCons (gName 9) (gCons (gName 10) gNil))) (tSeq (tAsg (tDGet (tVar 5) (tVar 9)) (gName 11)) (sDPut (tVar 11) (tVar 6) (tOp (rIxL K) (tVar 8) (tVar 10))))
theorem nats_at : ∀ {xs : List V} {ns : List Nat}, DvL W S H xs (ns.map fun n => D.int (n : Nat)) → xs = ns.map fun n => V.int (n : Nat)
  | _, [], h => by cases h; rfl
  | _, x :: names, h => by
    cases h with
    | cons t1 d1 h =>
      cases d1
      rw [nats_at h]
      rfl
theorem t_fill {D : Ends} {s1 : Slot} {h : Int} {cols names : List Str} {c : Str} {f7 f8 : Fg} {nums : List Nat} {code ds : List Sx.D} (R : Rel W S P (EMo s1 h .fz .fz cols names (some (.fz, .adr r)) (some (.fz, .str c)) (some (f7, .lst (nums.map fun n => .int (n : Nat)))) (some (f8, .lst code)) none none none) σ H)
    (G : GM W S P H r ps m) (a1 : NoLk s1) (a7 : f7 ≠ .lk) (a8 : f8 ≠ .lk) (e0 : Ext S0 P0 H0 S P H) (out : ∀ a, a = r ∨ a ∈ ps → ¬ P0 a) (hk : m.map (·.1) = names) (nd : names.Nodup) (hn : nums.length = names.length) (hd : ds.length = names.length) (hl : names.length ≤ 1000)
    (hm : ∀ x ∈ m, x.2.length ≤ 1000) (hc : ∀ (i n : Nat) (d : Sx.D), nums[i]? = some n → ds[i]? = some d → code[n]? = some d)
    (k : ∀ σ' H' S' P', (∀ a, S a → S' a) → Ext S0 P0 H0 S' P' H' → Rel W S' P' (EMo s1 h .fz .fz cols names (some (.fz, .adr r)) (some (.fz, .str c)) (some (f7, .lst (nums.map fun n => .int (n : Nat)))) (some (f8, .lst code)) none none none) σ' H' → GM W S' P' H' r ps (fillM (.inr c) m ds) → (∀ a, S a → H' a = H a) → D.nx σ' H') :
    tFill W.K D σ H := by
  obtain ⟨v4, hv4, dv4, _⟩ := R.slot 4 _ _ rfl
  obtain ⟨v5, hv5, dv5, _⟩ := R.slot 5 _ _ rfl
  obtain ⟨v6, hv6, dv6, _⟩ := R.slot 6 _ _ rfl
  obtain ⟨v7, hv7, dv7, _⟩ := R.slot 7 _ _ rfl
  obtain ⟨v8, hv8, dv8, _⟩ := R.slot 8 _ _ rfl
  cases dv5
  cases dv6
  cases dv4 with
  | @lst aN xsN _ haN dlN => cases dv7 with
    | @lst aU xsU _ haU dlU => cases dv8 with
      | @lst aC xsC _ haC dlC =>
        obtain rfl := strs_at dlN
        obtain rfl := nats_at dlU
        have len12 : σ.length = 12 := R.len.symm
        have ml : m.length = names.length := by rw [← hk, List.length_map]
        have nolk := emo_nolk (h := h) (fc := .fz) (fn := .fz) (cols := cols) (names := names) a1 (by decide) (by decide) (nolk_fz (.adr r)) (nolk_fz (.str c)) (s7 := some (f7, .lst (nums.map fun n => .int (n : Nat)))) (fun d z => by injection z with z; injection z with z; exact a7 z) (s8 := some (f8, .lst code)) (fun d z => by injection z with z; injection z with z; exact a8 z) nolk_none nolk_none nolk_none
        refine ⟨_, hv4, _, hv7, aN, aU, _, _, rfl, SqL.of haN, SqL.of haU, ?_⟩
        generalize hen : EMo s1 h .fz .fz cols names (some (.fz, .adr r)) (some (.fz, .str c)) (some (f7, .lst (nums.map fun n => .int (n : Nat)))) (some (f8, .lst code)) none none none = en0 at R k nolk
        have n9 : en0[9]? = some none := by rw [← hen]; rfl
        have n10 : en0[10]? = some none := by rw [← hen]; rfl
        have n11 : en0[11]? = some none := by rw [← hen]; rfl
        refine RZ.for_zipL (xs := names.map V.str) (ys := nums.map fun n => V.int (n : Nat)) (by rw [List.length_map, List.length_map]; exact hn.symm)
          (fun i σ' H' => i ≤ names.length ∧ ∃ S1 P1, (∀ a, S a → S1 a) ∧ Rel W S1 P1 en0 σ' H' ∧ GM W S1 P1 H' r ps (fillN (.inr c) m ds i) ∧ Ext S0 P0 H0 S1 P1 H' ∧ (∀ j, j ≠ 9 → j ≠ 10 → j ≠ 11 → σ'[j]? = σ[j]?) ∧ (∀ b xs, H b = some (.lst xs) → H' b = some (.lst xs)) ∧ (∀ a, S a → H' a = H a))
          ⟨Nat.zero_le _, S, P, fun _ h => h, R, by rw [fillN_zero]; exact G, e0, fun _ _ _ _ => rfl, fun _ _ z => z, fun _ _ => rfl⟩ (fun i σ' H' ⟨_, _, _, _, _, _, _, _, kl, _⟩ => ⟨SqL.of (kl _ _ haN), SqL.of (kl _ _ haU)⟩) ?_ ?_
        · rintro i x y T σ' H' hx hy ⟨hi, S1, P1, sub, R', G', e', ks, kl, kS⟩ hT
          rw [List.getElem?_map] at hx hy
          obtain ⟨nm, hnm, rfl⟩ := Option.map_eq_some_iff.mp hx
          obtain ⟨nu, hnu, rfl⟩ := Option.map_eq_some_iff.mp hy
          have ilt := lt_of_get hnm
          obtain ⟨dd, hdd⟩ : ∃ dd, ds[i]? = some dd := ⟨_, List.getElem?_eq_getElem (by omega)⟩
          obtain ⟨xm, hxm⟩ : ∃ xm, m[i]? = some xm := ⟨_, List.getElem?_eq_getElem (by omega)⟩
          have hx1 : xm.1 = nm := by
            have : (m.map (·.1))[i]? = some xm.1 := by rw [List.getElem?_map, hxm]; rfl
            rw [hk, hnm] at this
            exact (Option.some.inj this).symm
          obtain ⟨fs, fset⟩ := fillN_step (k := .inr c) (by omega) hxm hdd
          have hcode := hc i nu dd hnu hdd
          obtain ⟨cv, hcv, cz⟩ := (dlC.at (i := nu)).2 dd hcode
          obtain ⟨e1, R1⟩ := R'.same (H' := upd H' T (.tup [V.str nm, V.int (nu : Nat)])) (upd_keeps hT) (S' := add S1 T) (fun a h => .inl h) (fun a h => h.imp id fun e => by rw [e]; exact hT) (fun a h => h.elim (fun h => by obtain ⟨o, z⟩ := R'.dom a h; exact ⟨o, upd_keeps hT a o z⟩) fun e => by subst e; exact ⟨_, upd_same⟩) (tup_new (.inr rfl))
          generalize hH1 : upd H' T (.tup [V.str nm, V.int (nu : Nat)]) = H1 at R1 e1
          have keep1 : ∀ b o, H' b = some o → H1 b = some o := fun b o e => by rw [← hH1]; exact upd_keeps hT b o e
          have G1 := G'.ext R'.sp e1
          obtain ⟨p, hp, hget⟩ := G1.get (by
            unfold fillN
            rw [List.map_append, fillM_keys (by rw [List.length_take]; omega), ← List.map_append, List.take_append_drop, hk]
            exact nd) fs
          have pxs := G1.it i p xm hp fs
          obtain ⟨pP, pS, vs, hvs, dvs⟩ := pxs
          have hT1 : H1 T = some (.tup [V.str nm, V.int (nu : Nat)]) := by rw [← hH1]; exact upd_same
          have haC1 : H1 aC = some (.lst xsC) := keep1 _ _ (kl _ _ haC)
          have l12 : σ'.length = 12 := by rw [← R'.len, ← hen]; rfl
          have h5 : ((σ'.set 9 (some (V.str nm))).set 10 (some (V.int (nu : Nat))))[5]? = some (some (V.ref r)) := by
            rw [List.getElem?_set_ne (by decide), List.getElem?_set_ne (by decide), ks 5 (by decide) (by decide) (by decide)]; exact hv5
          have h9 : ((σ'.set 9 (some (V.str nm))).set 10 (some (V.int (nu : Nat))))[9]? = some (some (V.str nm)) := by
            rw [List.getElem?_set_ne (by decide), List.getElem?_set_self (by omega)]
          refine ⟨T, _, rfl, SqT.of hT1, rfl, _, _, rfl, _, _, rfl, rfl, .ref r, h5, .str nm, h9, r, .ref p, rfl, by rw [← hx1]; exact hget, ?_⟩
          generalize hσ3 : ((σ'.set 9 (some (V.str nm))).set 10 (some (V.int (nu : Nat)))).set 11 (some (.ref p)) = σ3
          have k3 : ∀ j, j ≠ 9 → j ≠ 10 → j ≠ 11 → σ3[j]? = σ[j]? := fun j n1 n2 n3 => by
            rw [← hσ3, List.getElem?_set_ne n3.symm, List.getElem?_set_ne n2.symm, List.getElem?_set_ne n1.symm, ks j n1 n2 n3]
          have h8' : σ3[8]? = some (some (V.ref aC)) := by rw [k3 8 (by decide) (by decide) (by decide)]; exact hv8
          have h6' : σ3[6]? = some (some (V.str c)) := by rw [k3 6 (by decide) (by decide) (by decide)]; exact hv6
          have h10 : σ3[10]? = some (some (V.int (nu : Nat))) := by rw [← hσ3, List.getElem?_set_ne (by decide), List.getElem?_set_self (by rw [List.length_set]; omega)]
          have h11 : σ3[11]? = some (some (V.ref p)) := by rw [← hσ3, List.getElem?_set_self (by rw [List.length_set, List.length_set]; omega)]
          have lv : vs.length < sizeLine := by
            rw [dvs.lenK, sizeLine_eq]
            have := hm xm (List.mem_of_getElem? hxm)
            omega
          have R3 : Rel W (add S1 T) (fun a => P1 a ∨ add S1 T a) en0 σ3 H1 := by
            rw [← hσ3]
            exact ((R1.blank n9 _).blank n10 _).blank n11 _
          subst hσ3
          refine ⟨_, h8', _, h10, aC, xsC, _, cv, rfl, rfl, SqL.of haC1, atI_nat hcv, _, h11, _, h6', p, _, rfl, DPut.k (k := .inr c) hvs lv, ?_⟩
          have cz1 : Dz W (add S1 T) H1 cv dd := cz.mono (fun a h => .inl (sub a h)) fun a s => (e1.h a (R'.sp a (sub a s))).trans (kS a s)
          refine ⟨lt_of_get hnm, _, _, fun a h => .inl (sub a h), R3.poke pP pS nolk (Tabs.upd R3.tb hvs (nx_dK _)), ?_, ?_, k3, fun b xs hb => ?_, fun a s => ?_⟩
          · rw [← fset]
            exact G1.poke hp fs hvs dvs cz1
          · have e2 := e'.trans e1
            exact ⟨e2.s, e2.p, fun a h => by rw [upd_ne fun z => out p (.inr (List.mem_of_getElem? hp)) (by rw [← z]; exact h)]; exact e2.h a h, e2.n⟩
          · have := keep1 _ _ (kl _ _ hb)
            rw [upd_ne fun z => by rw [z, hvs] at this; cases this]
            exact this
          · rw [upd_ne fun z => pS (by rw [← z]; exact .inl (sub a s))]
            exact (e1.h a (R'.sp a (sub a s))).trans (kS a s)
        · rintro σ' H' ⟨_, S1, P1, sub, R', G', e', _, _, kS⟩
          refine k σ' H' S1 P1 sub e' R' ?_ kS
          rw [List.length_map, ← ml, fillN_all (by omega)] at G'
          exact G'
end
end Sx
set_option Elab.async false
set_option linter.all false
set_option maxRecDepth 100000
set_option maxHeartbeats 4000000
set_option autoImplicit false
namespace Sx
open PySem L2 PyProof.Rows
/-! ### the law's model, as a whole -/
def natsOf : List D → Option (List Nat)
  | [] => some []
  | .int i :: r => if 0 ≤ i then (natsOf r).map fun ns => i.toNat :: ns else none
  | _ => none
def pickD (code : List D) : List Nat → Option (List D)
  | [] => some []
  | n :: r => (code[n]?).bind fun d => (pickD code r).map fun ds => d :: ds
def turnM (c : Str) (m : Mdl) (a b : D) : Option Mdl := match a, b with
  | .lst us, .lst code => (natsOf us).bind fun ns => (pickD code ns).bind fun ds => if ds.length = m.length ∧ (m.all fun x => decide (x.2.length ≤ 1000)) = true then some (fillM (.inr c) m ds) else none
  | _, _ => none
def modelT (f1 f2 : Fn) (h : Int) : List Str → Mdl → T Mdl
  | [], m => .ret m
  | c :: cs, m => (f1 [.drw, .int h]).bind fun a => (f2 [.drw, .int h]).bind fun b => (T.ofOpt (turnM c m a.2 b.2)).bind fun m' => modelT f1 f2 h cs m'
def mdlD (m : Mdl) : D := .dK (m.map fun x => ((.inr x.1 : Key), .dK x.2))
def noLk : Slot → Bool
  | some (.lk, _) => false
  | _ => true
def sModel (f1 f2 : Fn) : RunS := fun en => match en with
  | [some (.fz, .drw), s1, some (.fz, .int h), some (fc, .lst cs), some (fn, .lst ns), _, _, _, _, _, _, _] => (T.ofOpt (strsOf cs)).bind fun cols => (T.ofOpt (strsOf ns)).bind fun names =>
      if names.Nodup ∧ names.length ≤ 1000 ∧ noLk s1 = true ∧ fc ≠ .lk ∧ fn ≠ .lk then (modelT f1 f2 h cols (names.map fun x => (x, []))).bind fun m => .ret (.rt (false, .tup [.lst cs, mdlD m]), []) else .fail
  | _ => .fail
theorem noLk_of {s : Slot} (h : noLk s = true) : NoLk s := fun d z => by subst z; cases h
theorem natsOf_some : ∀ {us : List D} {ns : List Nat}, natsOf us = some ns → us = ns.map fun n => D.int (n : Nat)
  | [], ns, h => by cases h; rfl
  | d :: us, ns, h => by
    unfold natsOf at h
    split at h
    · rename_i e; cases e
    · rename_i i r e
      cases e
      split at h
      · rename_i h0
        obtain ⟨ms, hm, rfl⟩ := Option.map_eq_some_iff.mp h
        rw [natsOf_some hm, List.map_cons, Int.toNat_of_nonneg h0]
      · cases h
    · cases h
theorem pickD_some {code : List D} : ∀ {ns : List Nat} {ds : List D}, pickD code ns = some ds → ds.length = ns.length ∧ ∀ (i n : Nat) (d : D), ns[i]? = some n → ds[i]? = some d → code[n]? = some d
  | [], ds, h => by cases h; exact ⟨rfl, fun i n d e => by simp at e⟩
  | n :: ns, ds, h => by
    obtain ⟨d, hd, h⟩ := Option.bind_eq_some_iff.mp h
    obtain ⟨es, he, rfl⟩ := Option.map_eq_some_iff.mp h
    obtain ⟨h1, h2⟩ := pickD_some he
    refine ⟨by simp [h1], fun i k e a b => ?_⟩
    cases i with
    | zero => simp at a b; subst a; subst b; exact hd
    | succ i => exact h2 i k e (by simpa using a) (by simpa using b)
theorem put_mkO {i : Nat} {c : Bool × D} {en : En} (h : i < en.length) : putO i (mkO c, en) = some (en.set i (some (if c.1 then .ow else .fz, c.2))) := by
  obtain ⟨b, d⟩ := c
  unfold putO
  cases b <;> exact if_pos h
def rbM (f1 f2 : Fn) : RunS := sPar 7 8 (rCall f1 (rCons (rVar 0) (rCons (rVar 2) rNil))) (rCall f2 (rCons (rVar 0) (rCons (rVar 2) rNil)))
theorem rbM_run {f1 f2 : Fn} {s1 s3 s4 s5 s6 s7 s8 s9 s10 s11 : Slot} {h : Int} : rbM f1 f2 [some (.fz, .drw), s1, some (.fz, .int h), s3, s4, s5, s6, s7, s8, s9, s10, s11] =
    (f1 [.drw, .int h]).bind fun a => (f2 [.drw, .int h]).bind fun b => .ret (.nx, [some (.fz, .drw), s1, some (.fz, .int h), s3, s4, s5, s6, some (if a.1 then .ow else .fz, a.2), some (if b.1 then .ow else .fz, b.2), s9, s10, s11]) := by
  unfold rbM sPar
  have e : ∀ f : Fn, (rCall f (rCons (rVar 0) (rCons (rVar 2) rNil))) [some (.fz, .drw), s1, some (.fz, .int h), s3, s4, s5, s6, s7, s8, s9, s10, s11] = (f [.drw, .int h]).bind fun c => .ret (mkO c, [some (.fz, .drw), s1, some (.fz, .int h), s3, s4, s5, s6, s7, s8, s9, s10, s11]) := fun f => rfl
  rw [e f1, T.bind_assoc]
  congr 1
  funext a
  rw [T.ret_bind, e f2, T.bind_assoc]
  congr 1
  funext b
  rw [T.ret_bind]
  simp only
  rw [put_mkO (by simp)]
  show (T.ofOpt (putO 8 (mkO b, _))).bind _ = _
  rw [put_mkO (by simp)]
  rfl
section
variable {W : Wd} {S P S' P' S0 P0 : Addr → Prop} {en : En} {σ : L2.St} {H H' H0 : Hp} {v : V} {d : D} {r : Addr} {ps : List Addr} {m : Mdl} {X : Cx}
theorem Rel.frz (R : Rel W S P en σ H) {i : Nat} {f : Fg} (e : en[i]? = some (some (f, d))) (nl : f ≠ .lk) : ∃ S' P', Ext S P H S' P' H ∧ Rel W S' P' (en.set i (some (.fz, d))) σ H := by
  cases f with
  | lk => exact absurd rfl nl
  | fz =>
    have : en.set i (some (.fz, d)) = en := by
      apply List.ext_getElem?
      intro j
      by_cases z : i = j
      · subst z; rw [List.getElem?_set_self (lt_of_get e), e]
      · rw [List.getElem?_set_ne z]
    rw [this]
    exact ⟨S, P, .refl, R⟩
  | ow =>
    obtain ⟨p, o, hv, dv, hf, ho⟩ := R.free e
    obtain ⟨ex, R2⟩ := (R.drop i).freeze hf ho
    have dz : Dz W (add S p) H (.ref p) d := by
      refine ⟨?_, dv.mono ex.s (fun _ _ => rfl) ?_⟩
      · cases d <;> first | exact trivial | exact Or.inr rfl
      · cases d <;> first | exact trivial | exact rfl
    have R3 := R2.put (i := i) (by rw [List.length_set]; exact lt_of_get e) dz
    rw [set_set_same R i _ hv, List.set_set] at R3
    exact ⟨_, _, ex, R3⟩
theorem strsOf_some : ∀ {ds : List D} {xs : List Str}, strsOf ds = some xs → ds = xs.map D.str
  | [], xs, h => by cases h; rfl
  | d :: ds, xs, h => by
    cases d with
    | str x =>
      obtain ⟨ys, hy, h⟩ := Option.bind_eq_some_iff.mp h
      cases h
      rw [strsOf_some hy]
      rfl
    | _ => cases h
/-- the return -/
theorem t_back {D : Ends} {s1 : Slot} {h : Int} {cols names : List Str} {s6 s7 s8 s9 s10 s11 : Slot} (R : Rel W S P (EMo s1 h .fz .fz cols names (some (.fz, .adr r)) s6 s7 s8 s9 s10 s11) σ H) (G : GM W S P H r ps m) (e0 : Ext S0 P0 H0 S P H) (d0 : ∀ a, P0 a → ∃ o, H0 a = some o) (out : ∀ a, a = r ∨ a ∈ ps → ¬ P0 a)
    (k : ∀ v H' S' P', Ext S0 P0 H0 S' P' H' → RetOk W S' P' H' → ROk W S' P' H' v (false, .tup [.lst (cols.map .str), mdlD m]) → D.rt v H') : tRet (tTup (tCons (tVar 3) (tCons (tVar 5) tNil))) D σ H := by
  obtain ⟨v3, hv3, dv3, tn3, _⟩ := R.slot 3 _ _ rfl
  obtain ⟨v5, hv5, dv5, _⟩ := R.slot 5 _ _ rfl
  cases dv5
  cases dv3 with
  | @lst a xs _ ha dl =>
    refine ⟨_, hv3, _, hv5, by show 2 ≤ sizeLine; rw [sizeLine_eq]; decide, fun p hp => ?_⟩
    obtain ⟨dvG, subP⟩ := G.freeze R
    have nP : ¬ P p := fun z => by obtain ⟨o, e⟩ := R.pd p z; rw [hp] at e; cases e
    have ne : ∀ {b : Addr}, P b → upd H p (.tup [V.ref a, V.ref r]) b = H b := fun {b} s => upd_ne fun z => nP (by rw [← z]; exact s)
    have e2 : Ext S0 P0 H0 (fun b => (S b ∨ b = r ∨ b ∈ ps) ∨ b = p) (fun b => P b ∨ b = p) (upd H p (.tup [V.ref a, V.ref r])) := by
      refine ⟨fun b s => .inl (.inl (e0.s b s)), fun b s => .inl (e0.p b s), fun b s => (ne (e0.p b s)).trans (e0.h b s), fun b s => ?_⟩
      rcases s with (s | s) | s
      · exact e0.n b s
      · exact .inr (out b s)
      · refine .inr fun z => nP (by rw [← s]; exact e0.p b z)
    refine k (.ref p) _ _ _ e2 ⟨fun b s => s.elim (fun s => .inl (subP b s)) .inr, fun b s => ?_, ?_, ?_, R.tb.ext (upd_keeps hp) (fun b s => .inl (.inl s)) (tup_new (.inr rfl))⟩ ⟨.tup (.inl ⟨.inr rfl, upd_same⟩) (.cons (.inl (.inl (tn3 rfl))) ?_ (.cons (.inl (.inr (.inl rfl))) ?_ .nil)), fun _ => trivial, fun z => by cases z⟩
    · rcases s with s | s
      · obtain ⟨o, e⟩ := R.pd b (subP b s)
        exact ⟨o, (ne (subP b s)).trans e⟩
      · rw [s]; exact ⟨_, upd_same⟩
    · obtain ⟨nd, ns, i, j, k, h1, h2, h3⟩ := R.dr
      exact ⟨nd, ns, i, j, k, by rw [upd_ne fun z => by rw [z, hp] at h1; cases h1]; exact h1, by rw [upd_ne fun z => by rw [z, hp] at h2; cases h2]; exact h2, h3⟩
    · obtain ⟨nd, ns, i, j, k, h1, h2, h3⟩ := R.dr
      exact ⟨fun z => z.elim R.drP.1 fun z => (by rw [z, hp] at h1; cases h1), R.drP.2.add (NB.of_none ⟨_, h2⟩ R.tb hp)⟩
    · exact .lst ((ne (R.sp a (tn3 rfl))).trans ha) (dl.mono (fun b s => .inl (.inl s)) fun b s => ne (R.sp b s))
    · exact dvG.mono (fun b s => .inl s) (fun b s => ne (subP b s)) (ne G.pr.1)
/-- a turn of the columns, and what follows -/
theorem t_cols {D : Ends} {f1 f2 : Fn} {s1 : Slot} {h : Int} {cols names : List Str} (R : Rel W S P (EMo s1 h .fz .fz cols names (some (.fz, .adr r)) none none none none none none) σ H) (G : GM W S P H r ps m) (a1 : NoLk s1) (e0 : Ext S0 P0 H0 S P H) (d0 : ∀ a, P0 a → ∃ o, H0 a = some o)
    (out : ∀ a, a = r ∨ a ∈ ps → ¬ P0 a) (hk : m.map (·.1) = names) (nd : names.Nodup) (hl : names.length ≤ 1000)
    (w : (modelT f1 f2 h cols m).wp fun m' => ∀ v H' S' P', Ext S0 P0 H0 S' P' H' → RetOk W S' P' H' → ROk W S' P' H' v (false, .tup [.lst (cols.map .str), mdlD m']) → D.rt v H') :
    tFor (iList W.K (tVar 3)) (gName 6) (tSeq (TVS W (rbM f1 f2)) (tFill W.K)) { D with nx := fun σ' H' => tRet (tTup (tCons (tVar 3) (tCons (tVar 5) tNil))) D σ' H' } σ H := by
  obtain ⟨v3, hv3, dv3, tn3, _⟩ := R.slot 3 _ _ rfl
  cases dv3 with
  | @lst aC xs _ haC dlC =>
    obtain rfl := strs_at dlC
    refine ⟨_, hv3, aC, rfl, ⟨_, SqL.of haC⟩, ?_⟩
    refine for_list (xs := cols.map V.str) (fun i σ' H' => ∃ S' P' m', Rel W S' P' (EMo s1 h .fz .fz cols names (some (.fz, .adr r)) none none none none none none) σ' H' ∧ GM W S' P' H' r ps m' ∧ Ext S0 P0 H0 S' P' H' ∧ m'.map (·.1) = names ∧ S' aC ∧ H' aC = some (.lst (cols.map V.str)) ∧
        (modelT f1 f2 h (cols.drop i) m').wp fun m' => ∀ v H' S' P', Ext S0 P0 H0 S' P' H' → RetOk W S' P' H' → ROk W S' P' H' v (false, .tup [.lst (cols.map .str), mdlD m']) → D.rt v H')
      ⟨S, P, m, R, G, e0, hk, tn3 rfl, haC, w⟩ (fun i σ' H' _ ⟨S', P', m', _, _, _, _, _, ha, _⟩ => SqL.of ha) ?_ ?_
    · rintro i x σ' H' hx ⟨S1, P1, m1, R1, G1, e1, hk1, sC, hC, w1⟩
      rw [List.getElem?_map] at hx
      obtain ⟨c, hc, rfl⟩ := Option.map_eq_some_iff.mp hx
      rw [drop_at hc, modelT] at w1
      have R2 := R1.put (i := 6) (v := .str c) (d := .str c) (by show 6 < 12; decide) ⟨trivial, .str c⟩
      refine ⟨S1, P1, _, R2, ?_⟩
      show (rbM f1 f2 (EMo s1 h .fz .fz cols names (some (.fz, .adr r)) (some (.fz, .str c)) none none none none none)).wp _
      rw [rbM_run]
      have w1 := (T.wp_bind _ _ _).mp w1
      refine (T.wp_bind _ _ _).mpr (T.wp_mono w1 fun a w2 => ?_)
      have w2 := (T.wp_bind _ _ _).mp w2
      refine (T.wp_bind _ _ _).mpr (T.wp_mono w2 fun b w3 => ?_)
      obtain ⟨m2, hm2, w4⟩ := T.wp_ofOpt ((T.wp_bind _ _ _).mp w3)
      obtain ⟨fa, da⟩ := a
      obtain ⟨fb, db⟩ := b
      unfold turnM at hm2
      split at hm2
      case h_2 => cases hm2
      rename_i us code ea eb
      cases ea
      cases eb
      obtain ⟨ns, hns, hm2⟩ := Option.bind_eq_some_iff.mp hm2
      obtain ⟨ds, hds, hm2⟩ := Option.bind_eq_some_iff.mp hm2
      split at hm2
      case isFalse => cases hm2
      rename_i hcond
      cases hm2
      have ml1 : m1.length = names.length := by rw [← hk1, List.length_map]
      obtain ⟨pl, pc⟩ := pickD_some hds
      obtain rfl := natsOf_some hns
      intro σ2 H2 S2 P2 e2 R3
      have hfa : (if fa = true then Fg.ow else Fg.fz) ≠ .lk := by split <;> decide
      have hfb : (if fb = true then Fg.ow else Fg.fz) ≠ .lk := by split <;> decide
      have lk1 : ns.length = names.length := by rw [← pl, hcond.1, ml1]
      have ds1 : ds.length = names.length := by rw [hcond.1, ml1]
      have cell : ∀ x ∈ m1, x.2.length ≤ 1000 := fun x hx => of_decide_eq_true (List.all_eq_true.mp hcond.2 x hx)
      refine t_fill (f7 := if fa = true then Fg.ow else Fg.fz) (f8 := if fb = true then Fg.ow else Fg.fz) R3 (G1.ext R1.sp e2) a1 hfa hfb (e1.trans e2) out hk1 nd lk1 ds1 hl cell pc fun σ3 H3 S3 P3 sub3 e3 R4 G4 kS => ?_
      have R5 := ((R4.drop 6).drop 7).drop 8
      refine ⟨S3, P3, _, R5, G4, e3, (fillM_keys (by omega)).trans hk1, sub3 _ (e2.s _ sC), ?_, w4⟩
      rw [kS aC (e2.s _ sC), e2.h aC (R1.sp _ sC)]
      exact hC
    · rintro σ' H' ⟨S', P', m', R', G', e', _, _, _, w'⟩
      rw [List.length_map, List.drop_length] at w'
      exact t_back R' G' e' d0 out w'
theorem z_model {f1 f2 : Fn} {stA stB stR : Stmt} (hA : PS X stA (tAsg (tCB (rDictP W.K) (tCons (tLc (iList W.K (tVar 4)) (gName 9) tYes (tTup (tCons (tVar 9) (tCons tDNewK tNil))) [9]) tNil)) (gName 5)))
    (hB : PS X stB (tFor (iList W.K (tVar 3)) (gName 6) (tSeq (TVS W (rbM f1 f2)) (tFill W.K)))) (hR : PS X stR (tRet (tTup (tCons (tVar 3) (tCons (tVar 5) tNil))))) : PSs X [stA, stB, stR] (TVS W (sModel f1 f2)) :=
  pss_weak (pss_cons hA (pss_cons hB (pss_one hR))) fun D σ H h => by
    obtain ⟨S, P, en, R, w⟩ := h
    unfold sModel at w
    split at w
    case h_2 => exact w.elim
    rename_i s1 hh fc cs fn ns s5 s6 s7 s8 s9 s10 s11
    obtain ⟨cols, hcols, w⟩ := T.wp_ofOpt ((T.wp_bind _ _ _).mp w)
    obtain ⟨names, hnames, w9⟩ := T.wp_ofOpt ((T.wp_bind _ _ _).mp w)
    split at w9
    case isFalse => exact w9.elim
    rename_i hcond
    obtain ⟨nd, hl, hs1, nfc, nfn⟩ := hcond
    obtain rfl := strsOf_some hcols
    obtain rfl := strsOf_some hnames
    obtain ⟨S1, P1, e1, R1⟩ := R.frz (i := 3) rfl nfc
    obtain ⟨S2, P2, e2, R2⟩ := R1.frz (i := 4) rfl nfn
    have e12 := e1.trans e2
    obtain ⟨v4, hv4, dv4, tn4, _⟩ := R2.slot 4 _ _ rfl
    have len12 : σ.length = 12 := R2.len.symm
    cases dv4 with
    | @lst aN xs _ haN dlN =>
      obtain rfl := strs_at dlN
      refine t_rows (by omega) (by decide) hv4 haN nd hl fun r ps H' keep hr hps lps ndp rp top cells => ?_
      have fresh : ∀ a, a = r ∨ a ∈ ps → H a = none ∧ ∃ o, H' a = some o := fun a h => h.elim (fun e => by rw [e]; exact ⟨hr, _, top⟩) fun h => ⟨hps a h, _, cells a h⟩
      obtain ⟨S3, P3, hN, e3, R3⟩ := R2.fresh keep (fun a => a = r ∨ a ∈ ps) fresh fun a xs h z => by
        rcases h with rfl | h
        · rw [top] at z; cases z
        · rw [cells a h] at z; cases z
      have G : GM W S3 P3 H' r ps (names.map fun x => (x, [])) := by
        refine ⟨?_, by rw [List.length_map]; exact lps, ndp, rp, hN r (.inl rfl), fun i p x hp hx => ?_⟩
        · rw [top]
          unfold topK
          rw [List.map_map]
          have : ((fun x : Str × List (Key × Sx.D) => x.1) ∘ fun x : Str => (x, ([] : List (Key × Sx.D)))) = id := rfl
          rw [this, List.map_id]
        · rw [List.getElem?_map] at hx
          obtain ⟨y, hy, rfl⟩ := Option.map_eq_some_iff.mp hx
          have mp := List.mem_of_getElem? hp
          exact ⟨(hN p (.inr mp)).1, (hN p (.inr mp)).2, [], cells p mp, .nil⟩
      have R4 := R3.put (i := 5) (v := .ref r) (d := .adr r) (by show 5 < 12; decide) ⟨trivial, .adr r⟩
      have R5 := (((((R4.drop 6).drop 7).drop 8).drop 9).drop 10).drop 11
      have w8 := (T.wp_bind _ _ _).mp w9
      refine t_cols (D := D) (f1 := f1) (f2 := f2) R5 G (noLk_of hs1) (e12.trans e3) (fun a h => R.pd a h) (fun a h z => ?_) (by rw [List.map_map]; exact List.map_id _) nd hl (T.wp_mono w8 fun m q => ?_)
      · obtain ⟨o, e⟩ := R.pd a z
        rw [(fresh a h).1] at e
        cases e
      · exact fun v H2 S4 P4 ex ro rk => q v H2 S4 P4 ex ro rk
end
end Sx
set_option Elab.async false
set_option linter.all false
set_option maxRecDepth 100000
set_option maxHeartbeats 4000000
set_option autoImplicit false
namespace Sx
open PySem L2 PyProof.Rows
/-! ### sorted(xs, key=lambda one: (len(one), one)) -/
section
variable {prog : Program} {w : World} {A : Around} {E : Value → Shared → Prop} {s : Shared}
end

/-! the lambda is made: all but its table stays -/
section
variable {X : Cx} {pins : List (Addr × Obj)} {σ : L2.St} {H : Hp} {s : Shared}
end
end Sx
set_option Elab.async false
set_option linter.all false
set_option maxRecDepth 100000
set_option maxHeartbeats 4000000
set_option autoImplicit false
namespace Sx
open PySem L2 PyProof.Rows
theorem reads_strs {h : Heap} : ∀ {xs : List Str} {us : List Value}, Vals (xs.map V.str) us → ReadsAll h us (xs.map PyData.str) []
  | [], us, r => by cases r; exact .nil
  | x :: xs, us, r => by
    cases r with
    | cons r1 r2 =>
      obtain ⟨t, rfl⟩ := r1
      exact .cons (as := []) (bs := []) (.str x t) (reads_strs r2)
/-- the lambda's own shape -/
structure KeyLam (X : Cx) (x : Str) (params : Arguments) (body : Expr) (scope : Scope) : Prop where
  kind : scope.kind = .function
  co : scope.isCoroutine = false
  gen : scope.isGenerator = false
  cell : ∀ y ∈ scope.names, y.2 ≠ .cell ∧ y.2 ≠ .free
  loc : scope.names.lookup x = some .local
  len : scope.names.lookup ("len" : Str) = some NameKind.globalImplicit
  form : ∃ p1 p2 p3 p4 p5 k, body = .Tuple [.Call (.Name "len" p1) [.Name x p2] [] p3, .Name x p4] k p5
  bind : ∀ (q : Str) (cl : List (Str × Addr)) (pm cv ctv v : Value), bindArgs (PySem.W.kla_fn "<lambda>" q params body scope cl pm cv ctv) ⟨[v], []⟩ = pure [(x, v)]
  db : (x == ("__debug__" : Str)) = false
end Sx
set_option Elab.async false
set_option linter.all false
set_option maxRecDepth 100000
set_option maxHeartbeats 4000000
set_option autoImplicit false
namespace Sx
open PySem L2 PyProof.Rows
section
variable {W : Wd} {S P S' P' : Addr → Prop} {en : En} {σ : L2.St} {H H' : Hp} {v : V} {d : D} {X : Cx}
end
end Sx
set_option Elab.async false
set_option linter.all false
set_option maxRecDepth 100000
set_option maxHeartbeats 4000000
set_option autoImplicit false
namespace Sx
open PySem L2 PyProof.Rows
/-! ### the law's own call, with tables of code objects -/
section
variable {Pr : Program} {w : World} {K : PySem.W.Frag} {mg : Str → Option Value}
abbrev scrO (us : List Value) : Obj := { cls := .type "list", data := .seq us.toArray }
open Classical in
/-- what is known at the start: the tables are empty, the script stays -/
noncomputable def hp0 (K : PySem.W.Frag) (tabs : List Addr) (a : Addr) (us : List Value) (ns : List Int) : Hp := fun b => if b ∈ tabs then some (.tbl #[]) else if b = a ∧ K.lookup a = none then some (.frz (scrO us) (.lst (ns.map V.int))) else none
end
end Sx
set_option Elab.async false
set_option linter.all false
set_option maxRecDepth 100000
set_option maxHeartbeats 4000000
set_option autoImplicit false
namespace Sx
open PySem L2
/-! ### list comprehensions with two fors -/
section
variable {W : Wd} {S P S' P' : Addr → Prop} {en : En} {σ : L2.St} {H H' H1 : Hp} {X : Cx} {tg e : Expr} {ra : Run}
theorem Rel.bare (R : Rel W S P en σ H) : Rel W S S (en.map fun _ => none) σ H := by
  have nn : ∀ (i : Nat) (f : Fg) (d : D), (en.map fun _ => (none : Slot))[i]? ≠ some (some (f, d)) := fun i f d z => by
    rw [List.getElem?_map] at z
    cases h : en[i]? with
    | none => rw [h] at z; cases z
    | some u => rw [h] at z; cases z
  exact ⟨fun _ h => h, R.dom, fun i f d e => absurd e (nn i f d), fun i j f g d e v h1 => absurd h1 (nn i f d), by rw [List.length_map]; exact R.len, R.dr, ⟨fun h => R.drP.1 (R.sp _ h), R.drP.2.sub R.sp⟩, R.tb⟩
end
def rLcO (t : Tg) (rt : RunT) (ri1 : RunI) (t1 : Tg) (rt1 : RunT) (re : Run) (vs vs1 : List Nat) : List D → En → List D → T (List D × En)
  | [], en, acc => .ret (acc, en)
  | d :: ds, en, acc => (T.ofOpt (t d en)).bind fun en1 => (rt en1).bind fun b => if b.1 then (ri1 b.2).bind fun a => (if acc.length + a.1.length ≤ 4096 then (rLcL t1 rt1 re vs1 a.1 (wip a.2 vs1) acc).bind fun r => rLcO t rt ri1 t1 rt1 re vs vs1 ds (wip r.2 vs) r.1 else .fail)
      else rLcO t rt ri1 t1 rt1 re vs vs1 ds (wip b.2 vs) acc
def rLc2 (ri : RunI) (l : Option Nat) (t : Tg) (rt : RunT) (ri1 : RunI) (t1 : Tg) (rt1 : RunT) (re : Run) (vs vs1 : List Nat) : Run := fun en => (ri en).bind fun a => (rLcO t rt ri1 t1 rt1 re vs vs1 a.1 (wip a.2 vs) []).bind fun r => .ret (.fr (.lst r.1), unl l (back r.2 a.2 vs))
section
variable {W : Wd} {X : Cx} {pos : Pos} {ri ri1 : RunI} {l : Option Nat} {g g1 : TG} {t t1 : Tg} {is is1 : List Nat} {rt rt1 : RunT} {re : Run}
theorem Ext.drop {S1 P1 S5 P5 : Addr → Prop} {H1 H5 : Hp} {Da : Addr} (pwd : ∀ a, P1 a → a ≠ Da) (e : Ext S1 P1 H1 S5 P5 H5) (u : HO) : Ext S1 P1 H1 S5 (fun a => P5 a ∧ a ≠ Da) (upd H5 Da u) :=
  ⟨e.s, fun a h => ⟨e.p a h, pwd a h⟩, fun a h => (upd_ne (pwd a h)).trans (e.h a h), e.n⟩
theorem Free.wipe {P : Addr → Prop} {en : En} {σ σ0 : L2.St} {Da : Addr} {vs is : List Nat} (f : Free W P en σ Da) (his : ∀ i ∈ is, i ∈ vs) (ha : ∀ j, j ∉ is → σ[j]? = (L2.wipe σ0 vs)[j]?) : Free W P (wip en vs) (L2.wipe σ0 vs) Da := by
  refine ⟨f.1, f.2.1, f.2.2.1, fun j g d e nf hv => ?_⟩
  obtain ⟨hj, e'⟩ := wip_get e
  rw [← ha j fun z => hj (his j z)] at hv
  exact f.2.2.2 j g d e' nf hv
theorem Free.wipe0 {P : Addr → Prop} {en : En} {σ : L2.St} {Da : Addr} (f : Free W P en σ Da) (vs : List Nat) : Free W P (wip en vs) (L2.wipe σ vs) Da := by
  refine ⟨f.1, f.2.1, f.2.2.1, fun j g d e nf hv => ?_⟩
  obtain ⟨hj, e'⟩ := wip_get e
  rw [wipe_at hj] at hv
  exact f.2.2.2 j g d e' nf hv
theorem rlcO_sub {vs vs1 : List Nat} [h : ShTg t is] [h1 : ShTst rt] [g2 : ShIt ri1 none] [k : ShTg t1 is1] [k1 : ShTst rt1] [h2 : ShRun re] : ∀ (ds : List D) (en : En) (acc : List D), (rLcO t rt ri1 t1 rt1 re vs vs1 ds en acc).all fun b => LkSub b.2 en
  | [], en, acc => LkSub.refl _
  | d :: ds, en, acc => all_of fun e1 q => T.all_bind (T.all_mono (h1.sh e1) fun b hb => by
      have h0 := (h.sh d en e1 q).1
      split
      · refine T.all_bind (T.all_mono (g2.sh b.2) fun a ha => ?_)
        have ha := ha a.2 (LkSub.refl _)
        show T.all (if _ then _ else _) _
        split
        · exact T.all_bind (T.all_mono (lcl_sub (t := t1) (rt := rt1) (re := re) _ _ _) fun o ho => T.all_mono (rlcO_sub ds _ _) fun c hc => hc.trans ((wip_sub vs).trans (ho.trans ((wip_sub vs1).trans (ha.trans (hb.trans h0))))))
        · trivial
      · exact T.all_mono (rlcO_sub ds _ _) fun c hc => hc.trans ((wip_sub vs).trans (hb.trans h0)))
instance {vs vs1 : List Nat} [h0 : ShIt ri l] [h : ShTg t is] [h1 : ShTst rt] [g2 : ShIt ri1 none] [k : ShTg t1 is1] [k1 : ShTst rt1] [h2 : ShRun re] : ShRun (rLc2 ri l t rt ri1 t1 rt1 re vs vs1) := ⟨fun en => T.all_bind (T.all_mono (h0.sh en) fun a ha => T.all_bind (T.all_mono (rlcO_sub a.1 (wip a.2 vs) []) fun r hr => ha _ ((back_sub vs).trans (hr.trans (wip_sub vs)))))⟩
end
end Sx
set_option Elab.async false
set_option linter.all false
set_option maxRecDepth 100000
set_option maxHeartbeats 4000000
set_option autoImplicit false
namespace PyProof.Rows
open PySem
section
variable {prog : Program} {w : World} {A : Around} {E : Value → Shared → Prop} {s : Shared}
/-- the items of a tuple as they are collected for sorted -/
theorem collectT {l : Addr} {vs : List Value} {Q : List Value → Shared → Prop} (hl : s.heap.IsTuple l vs.toArray) (hsz : vs.length ≤ sizeLine)
    (h : Q vs { s with heap := (s.heap.push (seqObj "list" #[] 0)).update s.heap.objs.size (Obj.mapSeq (· ++ vs.toArray)) }) : wpAny (model prog w) A (collect (.ref l)) Q E s := by
  obtain ⟨o, ho, hc, n, hd⟩ := id hl
  have ho' : (s.heap.push (seqObj "list" #[] 0)).get? l = some o := Heap.get?_push_of_some _ ho
  have sz : (#[] ++ vs.toArray).size ≤ sizeLine + 1 := by
    simp only [Array.size_append, List.size_toArray, List.size_toArray, List.length_nil]
    omega
  have fin : wpAny (model prog w) A (do let o ← load s.heap.objs.size; match o.data with | .seq xs _ => pure xs.toList | _ => unsupported "internal:collect") Q E { s with heap := (s.heap.push (seqObj "list" #[] 0)).update s.heap.objs.size (Obj.mapSeq (· ++ vs.toArray)) } := by
    refine wpAny_bind (wpAny_load (get?_update_seq (Heap.get?_push_size _ rfl) _) (show wpAny _ _ (pure ((#[] : Array Value) ++ vs.toArray).toList) Q E _ from ?_))
    rw [show ((#[] : Array Value) ++ vs.toArray).toList = vs by simp]
    exact wpAny_pure h
  have ext : ∀ (A' : Around) (E' : Value → Shared → Prop), wpAny (model prog w) A' (Builtin.List.listExtendWith (.ref s.heap.objs.size) (.ref l) (.ref s.heap.objs.size)) (fun f s' => f = .done (.ret (.ref s.heap.objs.size)) ∧ s' = { s with heap := (s.heap.push (seqObj "list" #[] 0)).update s.heap.objs.size (Obj.mapSeq (· ++ vs.toArray)) }) E' { s with heap := s.heap.push (seqObj "list" #[] 0) } := fun A' E' => by
    unfold Builtin.List.listExtendWith
    refine wpAny_bind (wpAny_typeOf (T := "tuple") ⟨o, ho', hc⟩ ?_)
    rw [if_pos (by rw [show (Value.type "tuple" == Value.type "tuple") = true from rfl]; simp)]
    refine wpAny_bind (listItems_at ho' hd (wpAny_bind (listItems_at (xs := #[]) (n := 0) (Heap.get?_push_size _ rfl) rfl ?_)))
    rw [if_neg (by simp)]
    exact wpAny_bind (listUpdate_at (xs := #[]) (n := 0) (Heap.get?_push_size _ rfl) rfl (wpAny_pure ⟨rfl, rfl⟩) (Nat.zero_le _) sz)
  unfold collect
  refine wpAny_bind (wpAny_runValue (codeAny_builtin entry_proto_collect' (wpAny_bind (wpAny_newList (wpAny_pure ⟨Code.quiet_builtin _ (by decide +kernel), codeAny_builtin entry_list_iadd' ?_⟩)))))
  refine wpAny_mono (ext _ _) (fun f s' hf => ?_) fun _ _ e => e
  obtain ⟨rfl, rfl⟩ := hf
  exact fin
end
end PyProof.Rows
namespace PySem.W
open PySem PySem.Spec PySem.Calls PyProof.Rows
section
variable {prog : Program} {w : World} {A : Around} {E : Value → Shared → Prop} {s : Shared} {β : Type} {vs : List Value} {bs : List β} {enc : β → PyData} {R : Value → β → Prop}
theorem sortedT_of_sort {l : Addr} {Q : Value → Shared → Prop} (hl : s.heap.IsTuple l vs.toArray) (hL : vs.length ≤ sizeLine)
    (body : ∀ E' : Value → Shared → Prop, wpAny (model prog w) A.in1.in1 (Builtin.«list.sort» ⟨[.ref (s.heap.objs.size + 1)], []⟩) (fun f s' => f = .done (.ret .none) ∧ Q (.ref (s.heap.objs.size + 1)) s') E' { s with heap := copyHeap s.heap vs }) :
    wpAny (model prog w) A (call (.builtin "sorted") [.ref l] []) Q E s := by
  refine call_function_entry_kw kind_sorted plain_sorted entry_sorted (args_sorted1 _) ?_
  unfold Builtin.«sorted»
  refine wpAny_bind (m := checkCount "sorted" 1 1 _) (wpAny_pure (wpAny_bind (collectT hl hL (wpAny_bind (wpAny_newList ?_ hL)))))
  have hsz : ((s.heap.push (seqObj "list" #[] 0)).update s.heap.objs.size (Obj.mapSeq (· ++ vs.toArray))).objs.size = s.heap.objs.size + 1 := (Heap.size_update _ _ _).trans (size_push' _ _)
  show wpAny _ _ _ _ _ { s with heap := copyHeap s.heap vs }
  rw [hsz]
  refine wpAny_bind (wpAny_holding (wpAny_call_entry_kw slot_list_sort ⟨_, copyHeap_at s.heap vs, rfl⟩ entry_list_sort (wpAny_mono (body _) (fun f s' hf => ?_) fun _ _ e => e) (args_list_sort _)))
  obtain ⟨e, hq⟩ := hf
  subst e
  exact ⟨_, rfl, wpAny_pure ⟨_, rfl, hq⟩⟩
theorem sortedT_data {l : Addr} {Q : Value → Shared → Prop} (hl : s.heap.IsTuple l vs.toArray) (e : EachIs R vs bs) (er : EachIs (fun v b => ∃ as, Reads s.heap v (enc b) as) vs bs) (hal : AllAlike (bs.map enc)) (hk : Sortable (bs.map enc)) (hL : bs.length ≤ sizeLine)
    (hu : ∀ b, b ∈ bs → A.units + 2 + (enc b).depth < cLine) (h : ∀ out, out.length = bs.length → EachIs R out (bs.mergeSort (dataLe false enc)) → Q (.ref (s.heap.objs.size + 1)) { s with heap := sortedAll s.heap vs (List.toArray out) }) :
    wpAny (model prog w) A (call (.builtin "sorted") [.ref l]) Q E s := by
  have er2 : EachIs (fun v b => ∃ as, Reads (sortingHeap (copyHeap s.heap vs) (s.heap.objs.size + 1) vs) v (enc b) as) vs bs := er.mono fun _ _ z => let ⟨as, r⟩ := z; ⟨as, PyProof.Rows.Reads.keeps (fun _ _ => sorting_copy_old) r⟩
  have lv : vs.length ≤ sizeLine := by rw [e.length]; exact hL
  refine sortedT_of_sort hl lv fun _ => list_sort_vals (s := { s with heap := copyHeap s.heap vs }) (copyHeap_at s.heap vs) (SortsAt.data (s := { s with heap := sortingHeap (copyHeap s.heap vs) (s.heap.objs.size + 1) vs }) (each_map (R := fun v d => ∃ as, Reads (sortingHeap (copyHeap s.heap vs) (s.heap.objs.size + 1) vs) v d as) enc er2) hal hk (bound_map hu)) lv ⟨rfl, ?_⟩
  exact h _ ((sortVals_length false rfl).trans e.length) (sortVals_data false e er2 hal)
end
end PySem.W
namespace Sx
open PySem L2 PyProof.Rows
open PySem.W (EachIs dataLe dataLt alike AllAlike Sortable)
section
variable {W : Wd} {S P : Addr → Prop} {H : Hp} {X : Cx} {Q : VK} {v : V} {d : D} {en : En} {σ : L2.St}
/-! ### sorted of a tuple; of a list, a tuple or a dict -/
def rSortT (K : PySem.W.Frag) : List V → Hp → VK → Prop := fun vs H Q => ∃ (a : Addr) (xs : List V) (ps : List PyData), vs = [.ref a] ∧ SqT K H a xs ∧ DpAll K H xs ps ∧ AllAlike ps ∧ Sortable ps ∧ (∀ p ∈ ps, p.depth ≤ 50) ∧
  ∀ q, H q = none → Q (.ref q) (upd H q (.lst (((xs.zip ps).mergeSort (dataLe false fun z : V × PyData => z.2)).map (·.1))))
theorem cr_sortT (hu : X.A.units + 64 < cLine) : CallR X (.builtin "sorted") (rSortT X.K) := by
  intro pins s σ H vs us Q I r h
  obtain ⟨a, xs, ps, rfl, hs, dp, hal, hk, hdp, q⟩ := h
  obtain ⟨u, rfl, ru⟩ := vals1 r
  cases ru
  obtain ⟨its, rv, pl, hz⟩ := I.tuple hs
  obtain ⟨as, ra⟩ := Dp.readsAll I ps xs its dp rv
  have e0 := each_reads ra
  have hlen : xs.length = ps.length := by rw [rv.length, e0.length]
  have e1 := each_zip rv e0 hlen
  have hsnd : (xs.zip ps).map (fun z : V × PyData => z.2) = ps := List.map_snd_zip (l₁ := xs) (l₂ := ps) (by omega)
  refine PySem.W.sortedT_data (vs := its) (bs := xs.zip ps) (enc := fun z => z.2) (R := fun u z => RelV z.1 u) (show s.heap.IsTuple a its.toArray from pl) (e1.mono fun _ _ h => h.1) (e1.mono fun _ _ h => h.2) (by rw [hsnd]; exact hal) (by rw [hsnd]; exact hk) (by rw [List.length_zip]; omega) (fun b hb => ?_) fun out hl he => ?_
  · have := hdp _ (hsnd ▸ List.mem_map.mpr ⟨b, hb, rfl⟩ : b.2 ∈ ps)
    show X.A.units + 2 + b.2.depth < cLine
    omega
  · obtain ⟨e, hat⟩ := PyProof.Rows.sortedAll_at s.heap its out.toArray
    have hle : s.heap.objs.size ≤ s.heap.objs.size + 1 := Nat.le_succ _
    refine ⟨.ref (s.heap.objs.size + 1), _, I.laid (t' := s.toks) (a := s.heap.objs.size + 1) (o := .lst (((xs.zip ps).mergeSort (dataLe false fun z : V × PyData => z.2)).map (·.1))) (fun b o h => PyProof.Rows.sortedAll_old h) hle ⟨?_, out, e, each_vals he, hat⟩, rfl, q _ (I.hok.fresh hle)⟩
    rw [List.length_map, List.length_mergeSort, List.length_zip]; omega
def fSortU (ds : List D) : Option (Bool × D) := match ds with
  | [.tup xs] => fSorted [.lst xs]
  | [.dK kvs] => fSortedD [.dK kvs]
  | _ => fSorted ds
def rSortU (K : PySem.W.Frag) : List V → Hp → VK → Prop := fun vs H Q => rSortP K vs H Q ∨ rSortT K vs H Q ∨ rSortD vs H Q
theorem cr_sortU (hc : X.calm = true) (hu : X.A.units + 64 < cLine) : CallR X (.builtin "sorted") (rSortU X.K) := fun pins s σ H vs us Q I r h => by
  rcases h with h | h | h
  · exact cr_sortP hu pins s σ H vs us Q I r h
  · exact cr_sortT hu pins s σ H vs us Q I r h
  · exact call_sortedD hc pins s σ H vs us Q I r h
theorem sort_core {vs : List V} {xs : List Sx.D} {ps : List PyData} (dl : DvL W S H vs xs) (e1 : pyL xs = some ps) : DvL W S H (((vs.zip ps).mergeSort (dataLe false fun z : V × PyData => z.2)).map (·.1)) (xs.mergeSort leD) := by
  obtain ⟨zs, z1, z2, hz⟩ := dl.both
  have hps := pyL_key e1
  have hzip : vs.zip ps = zs.map fun z => (z.1, keyD z.2) := by
    rw [hps, ← z2, ← z1, List.map_map, List.zip_map']
    rfl
  have m1 : (zs.map fun z => (z.1, keyD z.2)).mergeSort (dataLe false fun z : V × PyData => z.2) = (zs.mergeSort fun a b => leD a.2 b.2).map fun z => (z.1, keyD z.2) :=
    (List.map_mergeSort (f := fun z : V × Sx.D => (z.1, keyD z.2)) (r := fun a b => leD a.2 b.2) (s := dataLe false fun z : V × PyData => z.2) fun a _ b _ => rfl).symm
  have m2 : (zs.mergeSort fun a b => leD a.2 b.2).map (·.2) = xs.mergeSort leD := by
    rw [List.map_mergeSort (f := fun z : V × Sx.D => z.2) (r := fun a b => leD a.2 b.2) (s := leD) fun a _ b _ => rfl, z2]
  rw [hzip, m1, List.map_map, ← m2]
  exact DvL.ofBoth fun z hz' => hz z ((List.mergeSort_perm zs _).mem_iff.mp hz')
theorem p_sortT {xs : List Sx.D} {c : Bool × Sx.D} (hd : DomS S H) {vs : List V} (h : DvA W S H vs [.tup xs]) (hf : fSorted [.lst xs] = some c) (r : PRes W S H c Q) : rSortT W.K vs H Q := by
  unfold fSorted at hf
  simp only at hf
  obtain ⟨v, rfl, dv⟩ := h.one
  obtain ⟨ps, e1, e2⟩ := Option.bind_eq_some_iff.mp hf
  split at e2
  · rename_i hok
    cases e2
    simp only [Bool.and_eq_true, decide_eq_true_eq] at hok
    obtain ⟨s1, s2, s3⟩ := sortOk_to hok.1
    obtain ⟨a, ys, rfl, ha, dl⟩ := dv.tup_at
    exact ⟨_, _, ps, rfl, ha, dl.dp e1, s1, s2, s3, PRes.lst hd (sort_core dl e1) r⟩
  · cases e2
theorem p_sortU : PureN W (rSortU W.K) fSortU := by
  intro S H vs ds c Q hd h hf r
  unfold fSortU at hf
  split at hf
  · exact .inr (.inl (p_sortT hd h hf r))
  · exact .inr (.inr (p_sortD S H vs _ c Q hd h hf r))
  · exact .inl (p_sorted S H vs ds c Q hd h hf r)
end
/-! ### defs with lambdas: the code object is known -/
section
variable {Pr : Program} {w : World} {K : PySem.W.Frag} {mg : Str → Option Value} {base : Heap} {CX : CXT} {k : Nat} {f : Addr} {fd : FuncData} {ps N : List Str} {sp : Sp} {cls : CT}
end
end Sx
set_option Elab.async false
set_option linter.all false
set_option maxRecDepth 100000
set_option maxHeartbeats 4000000
set_option autoImplicit false
namespace Sx
open PySem L2 PyProof.Rows
/-! one keyword -/
def sw0 {α : Type} (us ws : List α) : List α := match us, ws with
  | [], [a] => [a]
  | _, _ => []
theorem pm0 {W : Wd} : PermOk W 1 sw0 sw0 := by
  intro S H vs ds ws es h g
  cases h with
  | cons => exact .nil
  | nil =>
    match g with
    | .nil => exact .nil
    | .cons t1 d1 .nil => exact .cons t1 d1 .nil
    | .cons _ _ (.cons _ _ _) => exact .nil
theorem q0_len {rs : Runs} (h : LenR rs 1) : ∀ en : En, (rs en).all fun b => ∀ ds, onlyV b.1 = some ds → (sw0 [] ds).length = 1 := fun en => T.all_mono (h en) fun a ha ds e => by
  have := (onlyV_len e).trans ha
  match ds, this with
  | [a], _ => rfl
theorem kb0 {K : PySem.W.Frag} {x qual p1 : Str} {st : Stmt} {f : Addr} {fd : FuncData} (F : Fun K x qual st f fd)
    (h : ∀ (kV doc pm : Value) (an : Option Addr) (cdv ct a : Value), bindArgs (PySem.W.fnOf x qual (defArgs st) (defBody st) (defScope st) .none kV doc pm an cdv ct) ⟨[], [(p1, a)]⟩ = pure [(p1, a)]) : KBinds K fd [p1] [p1] sw0 sw0 := by
  obtain ⟨oc, od, kV, doc, pm, an, cdv, ct, osl, rfl, lk, hcd⟩ := F.ex
  refine ⟨fun s us ws kin hl => ?_, fun {vs us zs ws} r q => ?_⟩
  · match us, ws, hl with
    | [], [a], _ => exact .of_eq (h kV doc pm an cdv ct a)
  · cases r with
    | cons => exact .nil
    | nil =>
      match q with
      | .nil => exact .nil
      | .cons t1 .nil => exact .cons t1 .nil
      | .cons _ (.cons _ _) => exact .nil
/-! two keywords, in order -/
theorem _root_.L2.Room.u1 {k : Nat} {A : Around} (h : Room k A) : A.units + 1 < cLine := by
  have := h.units
  omega
theorem bt_max : bootBuiltins "max" = some (.builtin "max") := by decide +kernel
theorem tabs_nil {H : Hp} : LamX.Tabs [] H := fun x hx => by cases hx
theorem none_nil {a : Addr} : ∀ x ∈ ([] : List (Addr × Str)), x.1 ≠ a := fun x hx => by cases hx
end Sx
set_option Elab.async false
set_option linter.all false
set_option maxRecDepth 100000
set_option maxHeartbeats 4000000
set_option autoImplicit false
namespace Sx
open PySem L2 PyProof.Rows
/-! ### sorted(xs, key=f) where f is def f(x): return (len(x), x) -/
structure KeyDef (x qual : Str) (st : Stmt) : Prop where
  sc : FnScope [x] [x] (defScope st)
  cell : ∀ y ∈ (defScope st).names, y.2 ≠ .cell
  loc : (defScope st).names.lookup x = some .local
  len : (defScope st).names.lookup ("len" : Str) = some NameKind.globalImplicit
  form : ∃ p0 p1 p2 p3 p4 p5 k, defBody st = [.Return (some (.Tuple [.Call (.Name "len" p1) [.Name x p2] [] p3, .Name x p4] k p5)) p0]
  db : (x == ("__debug__" : Str)) = false
section
variable {prog : Program} {w : World} {A : Around} {E : Value → Shared → Prop} {s : Shared}
end
section
variable {W : Wd} {σ : L2.St} {H : Hp} {X : Cx}
/-! ### a written tuple without items, under a module's name -/
end
end Sx
set_option Elab.async false
set_option linter.all false
set_option maxRecDepth 100000
set_option maxHeartbeats 4000000
set_option autoImplicit false
namespace Sx
open PySem L2 PyProof.Rows
/-! ### sets of texts that can be walked: sorted(set(texts)) -/
def keyT (e : Int × Value) : Str := match e.2 with
  | .str k _ => k
  | _ => Str.empty
def GoodT (P : Program) (w : World) (e : Int × Value) : Prop := ∃ (k : Str) (tk : Tok), e.2 = Value.str k tk ∧ e.1 = (strKind P w).hash k
def SetRT (P : Program) (w : World) (h : Heap) (a : Addr) (S : Str → Bool) (n : Nat) : Prop :=
  ∃ (o : Obj) (es : Array (Int × Value)) (ep : Nat) (t : SetTable), h.get? a = some o ∧ o.ExactSet ∧ o.data = .set es ep t ∧ (∀ e ∈ es.toList, GoodT P w e) ∧ (es.toList.map keyT).Nodup ∧ (∀ k, S k = true ↔ k ∈ es.toList.map keyT) ∧
    es.size < scanBound ∧ t.fits es.size = true ∧ es.size = n ∧ Ris t.place.toList ∧ (w.params.followText "set-order" = true ∨ t.led = true)
section
variable {P : Program} {w : World} {h h' : Heap} {a : Addr} {S : Str → Bool} {n : Nat}
theorem SetRT.at (R : SetRT P w h a S n) (kp : ∀ o, h.get? a = some o → h'.get? a = some o) : SetRT P w h' a S n := by
  obtain ⟨o, es, ep, t, go, rr⟩ := R
  exact ⟨o, es, ep, t, kp o go, rr⟩
theorem goodT_elems {l : List (Int × Value)} (g : ∀ e ∈ l, GoodT P w e) : ElemsOf (strKind P w) l := fun e he => by
  obtain ⟨k, tk, q1, q2⟩ := g e he
  exact ⟨⟨k, by rw [q1]; exact strKind_is P w k tk, q2⟩, by rw [q1] <;> rfl⟩
theorem goodT_is {e : Int × Value} (g : GoodT P w e) (k : Str) : (strKind P w).is k e.2 = true ↔ keyT e = k := by
  obtain ⟨k0, tk, q1, _⟩ := g
  unfold keyT
  rw [q1]
  show ((k0 == k) = true) ↔ k0 = k
  exact beq_iff_eq
theorem goodT_mem {l : List (Int × Value)} (g : ∀ e ∈ l, GoodT P w e) (k : Str) : k ∈ l.map keyT ↔ ∃ e ∈ l, (strKind P w).is k e.2 = true := by
  rw [List.mem_map]
  constructor
  · rintro ⟨e, he, q⟩
    exact ⟨e, he, (goodT_is (g e he) k).2 q⟩
  · rintro ⟨e, he, q⟩
    exact ⟨e, he, (goodT_is (g e he) k).1 q⟩
theorem SetRT.setOf (R : SetRT P w h a S n) : h.SetOf (strKind P w) a S n := by
  obtain ⟨o, es, ep, t, go, gx, gd, g, nd, gm, gb, gf, gn, _⟩ := R
  exact ⟨o, es, ep, t, go, gx, gd, goodT_elems g, fun k => (gm k).trans (goodT_mem g k), gb, gf, gn⟩
end
section
variable {P : Program} {w : World} {A : Around} {E : Value → Shared → Prop} {s : Shared} {a : Addr} {S : Str → Bool} {n : Nat}
theorem SetRT.congr {h : Heap} {S' : Str → Bool} {m : Nat} (R : SetRT P w h a S n) (e : ∀ k, S' k = S k) (en : m = n) : SetRT P w h a S' m := by
  obtain rfl : S' = S := funext e
  rw [en]
  exact R
end
section
variable {Pr : Program} {w : World} {A : Around} {R : Result → Shared → Prop} {I : Addr} {fp wr : List Addr} {G : Array GenState → Array GenState → Prop} {n : Nat} {Pv : Nat → Value → Prop} {St : Nat → Shared → Prop}
end
section
variable {Pr : Program} {w : World} {A : Around} {E : Value → Shared → Prop} {s : Shared}
end
end Sx
set_option Elab.async false
set_option linter.all false
set_option maxRecDepth 100000
set_option maxHeartbeats 4000000
set_option autoImplicit false
namespace Sx
open PySem L2 PyProof.Rows
open PySem.W (EachIs dataLe dataLt alike AllAlike Sortable SortsAt each_map bound_map sortVals_data list_sort_vals)
section
variable {P : Program} {w : World} {A : Around} {E : Value → Shared → Prop} {s : Shared} {a : Addr} {S : Str → Bool} {n : Nat}
end
section
variable {X : Cx} {W : Wd} {ra : Run}
end
end Sx
set_option Elab.async false
set_option linter.all false
set_option maxRecDepth 100000
set_option maxHeartbeats 4000000
set_option autoImplicit false
namespace Sx
open PySem L2 PyProof.Rows HT
/-! ### t[::-1] of a tuple -/
theorem fm_congr {α β : Type} {f g : α → Option β} : ∀ {l : List α}, (∀ x ∈ l, f x = g x) → l.filterMap f = l.filterMap g
  | [], _ => rfl
  | x :: l, h => by
    rw [List.filterMap_cons, List.filterMap_cons, h x List.mem_cons_self, fm_congr fun y hy => h y (List.mem_cons_of_mem _ hy)]
section
variable {prog : Program} {w : World} {A : Around} {E : Value → Shared → Prop} {s : Shared}
theorem adjust_rev (n : Nat) : Builtin.Slice.sliceAdjust none none (-1) (n : Int) = ((n : Int) - 1, -1) := by
  unfold Builtin.Slice.sliceAdjust
  simp
theorem places_rev (n : Nat) : Builtin.Slice.slicePlaces ((n : Int) - 1) (-1) (-1) = n := by
  unfold Builtin.Slice.slicePlaces
  have h1 : ¬ ((-1 : Int) > 0) := by omega
  simp only [h1, if_false]
  have h2 : -(-1 : Int) = 1 := by omega
  rw [h2, Int.ediv_one]
  split <;> omega
theorem applied_rev {sl : Addr} {vs : Value} {n : Nat} {Q : Int × Int × Nat → Shared → Prop} (hs : s.heap.IsSliceOf sl .none .none vs) (ps : IsPart vs (some (-1))) (h : Q ((n : Int) - 1, -1, n) s) : wpAny (model prog w) A (Builtin.Slice.sliceApplied (.ref sl) (pure (n : Int))) Q E s := by
  obtain ⟨os, hos, hcs, hds⟩ := id hs
  unfold Builtin.Slice.sliceApplied Builtin.Slice.sliceFields
  refine wpAny_bind (wpAny_bind (wpAny_field hos hds (x := .none) rfl (wpAny_bind (wpAny_field hos hds (x := .none) rfl (wpAny_bind (wpAny_field hos hds (x := vs) rfl (wpAny_pure ?_)))))))
  refine wpAny_bind (slicePart_ ps ?_)
  show wpAny _ _ (if ((-1 : Int) == 0) = true then _ else _) _ _ s
  rw [if_neg (by decide)]
  refine wpAny_bind (slicePart_ .none (wpAny_bind (slicePart_ .none (wpAny_bind (wpAny_pure ?_)))))
  show wpAny _ _ (match Builtin.Slice.sliceAdjust none none (-1) (n : Int) with | (lo, hi) => pure (lo, (-1 : Int), Builtin.Slice.slicePlaces lo hi (-1))) _ _ s
  rw [adjust_rev n]
  show wpAny _ _ (pure ((n : Int) - 1, (-1 : Int), Builtin.Slice.slicePlaces ((n : Int) - 1) (-1) (-1))) _ _ s
  rw [places_rev]
  exact wpAny_pure h
theorem pick_rev (xs : Array Value) : ((List.range xs.size).filterMap fun (m : Nat) => xs[(((xs.size : Int) - 1) + (m : Int) * (-1)).toNat]?).toArray = xs.toList.reverse.toArray := by
  have e := PySem.W.krv_pick xs
  unfold slicePick at e
  rw [PySem.W.krv_bounds] at e
  have e2 : ((sliceRange ((xs.size : Int) - 1) (-1) (-1)).filterMap (xs[·]?)).toArray = xs.toList.reverse.toArray := e
  rw [PySem.W.krv_sliceRange, List.filterMap_map] at e2
  rw [← e2]
  congr 1
  refine fm_congr fun m hm => ?_
  have := List.mem_range.mp hm
  have e3 : (((xs.size : Int) - 1) + (m : Int) * (-1)).toNat = xs.size - 1 - m := by omega
  rw [e3]
  rfl
theorem item_tuple_rev {t sl : Addr} {items : Array Value} {vs : Value} {Q : Value → Shared → Prop} (ht : IsTup s.heap t items) (hs : s.heap.IsSliceOf sl .none .none vs) (ps : IsPart vs (some (-1)))
    (h : Q (.ref s.heap.objs.size) { s with heap := s.heap.push { cls := .type "tuple", data := .seq items.toList.reverse.toArray } })
    (hsz : items.size ≤ sizeLine) : wpAny (model prog w) A (getItem (.ref t) (.ref sl)) Q E s := by
  have htake : sizeOk (.seq items.toList.reverse.toArray) := by
    show items.toList.reverse.toArray.size ≤ sizeLine
    rw [List.size_toArray, List.length_reverse, Array.length_toList]
    exact hsz
  obtain ⟨os, hos, hcs, hds⟩ := id hs
  have hTs : s.TypeIs (.ref sl) "slice" := ⟨os, hos, hcs⟩
  unfold getItem
  try with_reducible refine wpAny_holding ?_
  first | refine wpAny_bind (wpAny_pure ?_) | skip
  refine wpAny_bind (wpAny_sequenceKey ht.typeIs (by decide) ?_)
  refine wpAny_bind (wpAny_callSpecial?_slot (name := Str.ofString "__getitem__") ht.typeIs PyProof.Rows.slot_tuple_getitem
    (wpAny_call_entry PyProof.Rows.slot_tuple_getitem ht.typeIs entry_tuple_getitem (show wpAny _ _ (Builtin.Tuple.tupleItemsOf (.ref t) >>= _) _ _ s from ?_) (args_tuple_getitem _ _)))
  refine wpAny_bind (tupleItemsOf_ ht (wpAny_bind (wpAny_typeOf hTs ?_)))
  rw [if_pos (by decide)]
  refine wpAny_bind (applied_rev hs ps ?_)
  have hno : ¬ ((((items.size : Int) - 1) == 0 && (-1 : Int) == 1 && items.size == items.size) = true) := by
    intro q
    rw [Bool.and_eq_true, Bool.and_eq_true] at q
    exact absurd q.1.2 (by decide)
  show wpAny _ _ (if (((items.size : Int) - 1) == 0 && (-1 : Int) == 1 && items.size == items.size) = true then _ else _) _ _ s
  rw [if_neg hno, pick_rev]
  first
    | exact wpAny_bind (m := Builtin.Tuple.tupleExact _) (wpAny_newObj_type (wpAny_pure ⟨_, rfl, wpAny_pure h⟩) htake)
    | exact wpAny_bind (m := Builtin.Tuple.tupleExact _) (wpAny_newObj_type (wpAny_bind (wpAny_pure (wpAny_pure ⟨_, rfl, wpAny_pure h⟩))) htake)
    | exact wpAny_bind (wpAny_bind (m := Builtin.Tuple.tupleExact _) (wpAny_newObj_type (wpAny_pure (wpAny_pure ⟨_, rfl, wpAny_pure h⟩)) htake))
    | exact wpAny_bind (wpAny_bind (m := Builtin.Tuple.tupleExact _) (wpAny_newObj_type (wpAny_pure ⟨_, rfl, wpAny_pure h⟩) htake))
end
section
variable {X : Cx} {W : Wd}
def tRevX (K : PySem.W.Frag) (te : TE) : TE := fun σ H Q => te σ H fun x H1 => ∃ a xs, x = .ref a ∧ ((SqL K H1 a xs ∧ ∀ p, H1 p = none → Q (.ref p) (upd H1 p (.lst xs.reverse))) ∨ (SqT K H1 a xs ∧ ∀ p, H1 p = none → Q (.ref p) (upd H1 p (.tup xs.reverse))))
theorem pe_revX {e : Expr} {te : TE} {k : Nat} {p1 p2 p3 pos : Pos} (he : PE X e te) : PE X (.Subscript e (.Slice none none (some (.UnaryOp .USub (.Constant (.int 1) k p1) p2)) p3) pos) (tRevX X.K te) := by
  refine ⟨fun pins s σ H Q I h => ?_⟩
  refine Subscript_ (thn (he.run pins s σ H _ I h) fun v s1 ⟨x, H1, I1, r1, a, xs, ex, q⟩ => ?_)
  subst ex
  cases r1
  have hst : PO X (some (.UnaryOp .USub (.Constant (.int 1) k p1) p2)) (tPart (tUn (rU fun i => .int (-i)) (tC (.int 1)))) := po_some (pe_un un_neg pe_int)
  refine wpAny_Slice (thn (po_none.run pins s1 σ H1 (fun o H2 => o = none ∧ H2 = H1) I1 ⟨rfl, rfl⟩) fun vl s2 ⟨l, H2, I2, pl, el, e2⟩ => ?_)
  subst el e2
  refine thn (po_none.run pins s2 σ H2 (fun o H3 => o = none ∧ H3 = H2) I2 ⟨rfl, rfl⟩) fun vu s3 ⟨u, H3, I3, pu, eu, e3⟩ => ?_
  subst eu e3
  refine thn (hst.run pins s3 σ H3 (fun o H4 => o = some (-1) ∧ H4 = H3) I3 ⟨1, rfl, -1, rfl, rfl, rfl⟩) fun vs s4 ⟨o, H4, I4, ps, eo, e4⟩ => ?_
  subst eo e4
  have I5 : Inv X pins σ H4 { s4 with heap := s4.heap.push { cls := .type "slice", data := .fields #[vl, vu, vs] } } := I4.kept (t' := s4.toks) fun b ob q => Heap.get?_push_of_some _ q
  show wpAny (model X.prog X.w) X.A (subscriptTail e (.Slice none none (some (.UnaryOp .USub (.Constant (.int 1) k p1) p2)) p3) (.ref a) (.ref s4.heap.objs.size)) (EP X pins σ Q) X.xe { s4 with heap := s4.heap.push { cls := .type "slice", data := .fields #[vl, vu, vs] } }
  rcases q with ⟨hx, q⟩ | ⟨hx, q⟩
  · obtain ⟨its, r, ht, hz⟩ := I5.list hx
    have hlen := r.length
    refine tail_any (ops := [.ref a, .ref s4.heap.objs.size]) ht.isList.typeIs (PySem.slot_list_getitem.lookup) ?_ (by with_unfolding_all rfl)
    refine wpAny_getItem_list_slice ht.isList (Heap.IsSliceOf.new _ vl vu vs) pl pu ps (by decide) ?_ (by rw [List.size_toArray]; omega)
    rw [PySem.W.krv_pick]
    refine ⟨.ref _, _, I5.laid (t' := s4.toks) (o := .lst xs.reverse) (fun b ob q => Heap.get?_push_of_some _ q) (Nat.le_refl _) ?_, rfl, q _ (I5.hok.fresh (Nat.le_refl _))⟩
    exact ⟨by rw [List.length_reverse]; exact hz, _, 0, r.reverse, Heap.get?_push_size _ rfl⟩
  · obtain ⟨its, r, ht, hz⟩ := I5.tuple hx
    have hlen := r.length
    cases pl
    cases pu
    refine tail_any (ops := [.ref a, .ref s4.heap.objs.size]) ht.typeIs (PyProof.Rows.slot_tuple_getitem.lookup) ?_ (by with_unfolding_all rfl)
    refine item_tuple_rev ht (Heap.IsSliceOf.new _ .none .none vs) ps ?_ (by rw [List.size_toArray]; omega)
    refine ⟨.ref _, _, I5.laid (t' := s4.toks) (o := .tup xs.reverse) (fun b ob q => Heap.get?_push_of_some _ q) (Nat.le_refl _) ?_, rfl, q _ (I5.hok.fresh (Nat.le_refl _))⟩
    exact ⟨by rw [List.length_reverse]; exact hz, its.reverse, r.reverse, IsTup.new _ _⟩
def fRevX (x : D) : Option (Bool × D) := match x with
  | .lst ds => some1 (.lst ds.reverse)
  | .tup ds => some0 (.tup ds.reverse)
  | _ => none
theorem e_revX {e : Expr} {ra : Run} {k : Nat} {p1 p2 p3 pos : Pos} (hK : X.K = W.K) (he : PE X e (TV W ra)) : PE X (.Subscript e (.Slice none none (some (.UnaryOp .USub (.Constant (.int 1) k p1) p2)) p3) pos) (TV W (run1 ra fRevX)) := by
  refine pe_weak (pe_revX he) fun σ H Q h => tv1 (r := fun x H1 Q => ∃ a xs, x = .ref a ∧ ((SqL X.K H1 a xs ∧ ∀ p, H1 p = none → Q (.ref p) (upd H1 p (.lst xs.reverse))) ∨ (SqT X.K H1 a xs ∧ ∀ p, H1 p = none → Q (.ref p) (upd H1 p (.tup xs.reverse))))) (f := fRevX) ?_ h
  intro S H x d c Q hd hx hf r
  unfold fRevX at hf
  split at hf
  · cases hf
    cases hx with
    | lst ha dl => exact ⟨_, _, rfl, .inl ⟨by rw [hK]; exact SqL.of ha, PRes.lst hd dl.rev r⟩⟩
  · cases hf
    cases hx with
    | tup ha dl => exact ⟨_, _, rfl, .inr ⟨by rw [hK]; exact tup_sq ha, PRes.tup hd dl.rev r⟩⟩
  · cases hf
/-! ### x[i] = e of a name's own list -/
theorem DvL.set {S : Addr → Prop} {H : Hp} {vs : List V} {ds : List D} (n : Nat) {v : V} {d : D} (h : DvL W S H vs ds) (dz : Dz W S H v d) : DvL W S H (vs.set n v) (ds.set n d) := by
  induction n generalizing vs ds with
  | zero => cases h with
    | nil => exact .nil
    | cons _ _ r => exact .cons dz.1 dz.2 r
  | succ n ih => cases h with
    | nil => exact .nil
    | cons t dv r => exact .cons t dv (ih r)
end
end Sx
set_option Elab.async false
set_option linter.all false
set_option maxRecDepth 100000
set_option maxHeartbeats 4000000
set_option autoImplicit false
namespace Sx
open PySem L2 PyProof.Rows
/-! ### repr of lists that hold dicts at any depth -/
mutual
inductive Dg (K : PySem.W.Frag) (H : Hp) : V → PyData → Prop
  | leaf {v : V} {p : PyData} : Dp K H v p → p.hasDict = false → Dg K H v p
  | lst {a : Addr} {xs : List V} {ps : List PyData} : SqL K H a xs → DgL K H xs ps → Dg K H (.ref a) (.list ps)
  | tup {a : Addr} {xs : List V} {ps : List PyData} : SqT K H a xs → DgL K H xs ps → Dg K H (.ref a) (.tuple ps)
  | dct {a : Addr} {kvs : List (Key × V)} {ks : List Str} {ps : List PyData} : Rd H a (.dK kvs) → kvs.map (·.1) = ks.map Sum.inr → DgL K H (kvs.map (·.2)) ps → Dg K H (.ref a) (.dict ((ks.map PyData.str).zip ps))
inductive DgL (K : PySem.W.Frag) (H : Hp) : List V → List PyData → Prop
  | nil : DgL K H [] []
  | cons {v : V} {p : PyData} {vs : List V} {ps : List PyData} : Dg K H v p → DgL K H vs ps → DgL K H (v :: vs) (p :: ps)
end
theorem DgL.len {K : PySem.W.Frag} {H : Hp} : ∀ {vs : List V} {ps : List PyData}, DgL K H vs ps → vs.length = ps.length
  | _, _, .nil => rfl
  | _, _, .cons _ r => by rw [List.length_cons, List.length_cons, DgL.len r]
section
variable {X : Cx} {pins : List (Addr × Obj)} {σ : L2.St} {H : Hp} {s : Shared}
theorem strs_nodict : ∀ xs : List Str, PyData.hasDictAll (xs.map PyData.str) = false
  | [] => by simp [PyData.hasDictAll]
  | x :: xs => by rw [List.map_cons, PyData.hasDictAll, strs_nodict xs, PyData.hasDict]; rfl
theorem dict_rows {P : Program} {w : World} : ∀ {es : List DictEntry} {vs : List (Key × Value)} {kvs : List (Key × V)} {ks : List Str}, Pairs (mixKind P w) es vs → KV kvs vs → kvs.map (·.1) = ks.map Sum.inr → Vals (ks.map V.str) (es.map (·.key)) ∧ Vals (kvs.map (·.2)) (es.map (·.val))
  | _, _, kvs, ks, .nil, kv, e => by
    cases kv
    cases ks with
    | nil => exact ⟨.nil, .nil⟩
    | cons _ _ => cases e
  | _, _, _, ks, .cons h1 h2 r, kv, e => by
    cases kv with | cons q1 q2 =>
    cases ks with
    | nil => cases e
    | cons k ks =>
      rw [List.map_cons, List.map_cons] at e
      injection e with e1 e2
      obtain ⟨i1, i2⟩ := dict_rows r q2 e2
      refine ⟨.cons ?_ i1, .cons ?_ i2⟩
      · rw [← q1.1, e1, mixKind_is] at h1
        rcases keyIs_shape h1 with ⟨i, t, z, _⟩ | ⟨x, t, z, z2⟩
        · cases z
        · cases z
          exact ⟨t, z2⟩
      · have z := q1.2
        rw [← h2] at z
        exact z
mutual
theorem Dg.shows (I : Inv X pins σ H s) : ∀ {v : V} {p : PyData} {u : Value}, Dg X.K H v p → RelV v u → p.showable = true → p.shown.length ≤ sizeLine → ∃ as bs, Reads s.heap u p as ∧ ReadAtMost s.heap p.depth bs ∧ ReprK X.prog X.w bs s.heap p.depth u p.shown
  | _, _, _, .leaf dp nd, r, sh, sz => by
    obtain ⟨as, rs⟩ := Dp.reads I _ _ _ dp r
    obtain ⟨bs, m, k⟩ := ReprK.of_reads (prog := X.prog) (w := X.w) rs sh (PyData.noDict_hsm nd) sz
    exact ⟨as, bs, rs, m, k⟩
  | _, _, u, .lst (a := a) (xs := xs) (ps := ps) sq dl, r, sh, sz => by
    cases (show u = Value.ref a from r)
    have sz2 : (listText (PyData.shownAll ps)).length ≤ sizeLine := by simpa only [PyData.shown] using sz
    obtain ⟨its, rv, pl, _⟩ := I.list sq
    obtain ⟨o, ho, hc, n, hd⟩ := pl.isList
    obtain ⟨as, bs, ra, rm, rk⟩ := DgL.shows I dl rv (by simpa [PyData.showable] using sh) fun t ht => Nat.le_trans (listText_mem_le ht) sz2
    have rd : Reads s.heap (.ref a) (.list ps) _ := .list ho hc hd (by simpa using ra)
    have nin : a ∉ bs := not_mem_of_deeper rd (by simp only [PyData.depth]; omega) rm
    refine ⟨_, a :: bs, rd, ReadAtMost.cons rd (by simp only [PyData.depth]; omega) rm, ?_⟩
    simp only [PyData.depth, PyData.shown]
    cases its with
    | nil =>
      cases ra
      simp only [PyData.shownAll, listText_nil]
      exact ReprK.listEmpty ho hc hd
    | cons y l => exact ReprK.list ho hc hd nin (by simpa using rk.length_eq) fun i z e => rk.item i z (by simpa using e)
  | _, _, u, .tup (a := a) (xs := xs) (ps := ps) sq dl, r, sh, sz => by
    cases (show u = Value.ref a from r)
    have sz2 : (tupleText (PyData.shownAll ps)).length ≤ sizeLine := by simpa only [PyData.shown] using sz
    obtain ⟨its, rv, pl, _⟩ := I.tuple sq
    obtain ⟨o, ho, hc, n, hd⟩ := pl
    obtain ⟨as, bs, ra, rm, rk⟩ := DgL.shows I dl rv (by simpa [PyData.showable] using sh) fun t ht => Nat.le_trans (tupleText_mem_le ht) sz2
    have rd : Reads s.heap (.ref a) (.tuple ps) _ := .tuple ho hc hd (by simpa using ra)
    have nin : a ∉ bs := not_mem_of_deeper rd (by simp only [PyData.depth]; omega) rm
    refine ⟨_, a :: bs, rd, ReadAtMost.cons rd (by simp only [PyData.depth]; omega) rm, ?_⟩
    simp only [PyData.depth, PyData.shown]
    exact ReprK.tuple ho hc hd nin (by simpa using rk)
  | _, _, u, .dct (a := a) (kvs := kvs) (ks := ks) (ps := ps) rd0 ek dl, r, sh, sz => by
    cases (show u = Value.ref a from r)
    have sz2 : (dictText (PyData.shownKv ((ks.map PyData.str).zip ps))).length ≤ sizeLine := by simpa only [PyData.shown] using sz
    obtain ⟨_, low, vs, kv, o, es, ep, h1, h2, h3, _, h5, _⟩ := dk_rd I.hok rd0
    obtain ⟨vk, vv⟩ := dict_rows h5 kv ek
    have lk : ks.length = ps.length := by
      have := congrArg List.length ek
      rw [List.length_map, List.length_map] at this
      rw [← this, ← dl.len, List.length_map]
    have e1 : ((ks.map PyData.str).zip ps).map (·.1) = ks.map PyData.str := List.map_fst_zip (by rw [List.length_map]; omega)
    have e2 : ((ks.map PyData.str).zip ps).map (·.2) = ps := List.map_snd_zip (by rw [List.length_map]; omega)
    obtain ⟨s1, s2⟩ := PyData.showableKv_split _ (by simpa [PyData.showable] using sh)
    have k0 : ReadsAll s.heap (es.toList.map (·.key)) (ks.map PyData.str) [] := reads_strs vk
    have z1 : ∀ t ∈ PyData.shownAll (((ks.map PyData.str).zip ps).map (·.1)), t.length ≤ sizeLine := fun t ht => let ⟨p, hp, hl⟩ := PyData.shownKv_key_le _ t ht; Nat.le_trans hl (Nat.le_trans (dictText_mem_le hp) sz2)
    have z2 : ∀ t ∈ PyData.shownAll (((ks.map PyData.str).zip ps).map (·.2)), t.length ≤ sizeLine := fun t ht => let ⟨p, hp, hl⟩ := PyData.shownKv_val_le _ t ht; Nat.le_trans hl (Nat.le_trans (dictText_mem_le hp) sz2)
    rw [e1] at z1 s1
    rw [e2] at z2 s2
    obtain ⟨b1, m1, k1⟩ := ReprAllK.of_readsAll (prog := X.prog) (w := X.w) k0 s1 (fun z => by rw [strs_nodict] at z; cases z) z1
    obtain ⟨as, b2, ra, m2, k2⟩ := DgL.shows I dl vv s2 z2
    have rd : Reads s.heap (.ref a) (.dict ((ks.map PyData.str).zip ps)) _ := .dict h1 h2.1 h3 (by rw [e1]; exact k0) (by rw [e2]; exact ra)
    have d1 := PyData.depthAll_keys_le ((ks.map PyData.str).zip ps)
    have d2 := PyData.depthAll_vals_le ((ks.map PyData.str).zip ps)
    rw [e1] at d1
    rw [e2] at d2
    have mm : ReadAtMost s.heap (PyData.depthKv ((ks.map PyData.str).zip ps)) (b1 ++ b2) := (m1.mono d1).append (m2.mono d2)
    have nin : a ∉ b1 ++ b2 := not_mem_of_deeper rd (by simp only [PyData.depth]; omega) mm
    refine ⟨_, a :: (b1 ++ b2), rd, ReadAtMost.cons rd (by simp only [PyData.depth]; omega) mm, ?_⟩
    simp only [PyData.depth, PyData.shown, PyData.shownKv_eq]
    rw [e1, e2]
    exact ReprK.dict h1 h2.1 h3 low nin (ReprEntriesK.of_two es.toList _ _ (k1.more_le (fun b hb => List.mem_append_left _ hb) d1) (k2.more_le (fun b hb => List.mem_append_right _ hb) d2))
theorem DgL.shows (I : Inv X pins σ H s) : ∀ {vs : List V} {ps : List PyData} {us : List Value}, DgL X.K H vs ps → Vals vs us → PyData.showableAll ps = true → (∀ t ∈ PyData.shownAll ps, t.length ≤ sizeLine) →
    ∃ as bs, ReadsAll s.heap us ps as ∧ ReadAtMost s.heap (PyData.depthAll ps) bs ∧ ReprAllK X.prog X.w bs s.heap (PyData.depthAll ps) us (PyData.shownAll ps)
  | _, _, _, .nil, .nil, _, _ => ⟨[], [], .nil, (fun _ h => nomatch h), by rw [PyData.shownAll]; exact .nil⟩
  | _, _, _, .cons (p := p) (ps := ps) h t, .cons r rs, sh, sz => by
    have sh : p.showable = true ∧ PyData.showableAll ps = true := by simpa [PyData.showableAll] using sh
    obtain ⟨a1, b1, r1, m1, k1⟩ := Dg.shows I h r sh.1 (sz _ (by rw [PyData.shownAll]; exact List.mem_cons_self))
    obtain ⟨a2, b2, r2, m2, k2⟩ := DgL.shows I t rs sh.2 fun t ht => sz t (by rw [PyData.shownAll]; exact List.mem_cons_of_mem _ ht)
    have d1 : p.depth ≤ PyData.depthAll (p :: ps) := by rw [PyData.depthAll]; omega
    have d2 : PyData.depthAll ps ≤ PyData.depthAll (p :: ps) := by rw [PyData.depthAll]; omega
    refine ⟨a1 ++ a2, b1 ++ b2, .cons r1 r2, (m1.mono d1).append (m2.mono d2), ?_⟩
    rw [PyData.shownAll]
    exact .cons ((k1.more fun b hb => List.mem_append_left _ hb).level_le d1) (k2.more_le (fun b hb => List.mem_append_right _ hb) d2)
end
/-! the rule: a list that is not empty -/
end
section
variable {W : Wd} {S : Addr → Prop} {H : Hp}
end
end Sx
set_option Elab.async false
set_option linter.all false
set_option maxRecDepth 100000
set_option maxHeartbeats 4000000
set_option autoImplicit false
namespace Sx
open PySem L2 PyProof.Rows
/-! ### a, b, c = x, y, z: the first two become shared, the last may be owned -/
section
variable {W : Wd} {σ : L2.St} {H : Hp} {X : Cx} {ra rb rc : Run} {Dn : Ends} {pos : Pos}
end
end Sx
set_option Elab.async false
set_option linter.all false
set_option maxRecDepth 100000
set_option maxHeartbeats 4000000
set_option autoImplicit false
namespace Sx
open PySem L2 PyProof.Rows
/-! ### range(a, b); a written empty tuple; three keywords in the order 2 3 1 -/
section
variable {W : Wd} {S P : Addr → Prop} {H : Hp} {X : Cx} {en : En} {σ : L2.St}
end
section
variable {K : PySem.W.Frag}
end
end Sx
set_option Elab.async false
set_option linter.all false
set_option maxRecDepth 100000
set_option maxHeartbeats 4000000
set_option autoImplicit false
namespace Sx
open PySem L2 PyProof.Rows
/-! ### xs != [], xs == []: the items may be anything -/
def rNilL (K : PySem.W.Frag) (f : Bool → Bool) : R2 := fun x y H Q => ∃ a b xs, x = .ref a ∧ y = .ref b ∧ SqL K H a xs ∧ SqL K H b [] ∧ Q (.bl (f xs.isEmpty)) H
section
variable {X : Cx} {W : Wd}
theorem op_neN (hu : X.A.units + 64 < cLine) : OpR X (compareOp .NotEq) (rNilL X.K not) := by
  intro pins s σ H x y v u Q I rx ry h
  obtain ⟨a, b, xs, rfl, rfl, ha, hb, k⟩ := h
  cases rx
  cases ry
  obtain ⟨its, r1, p1, _⟩ := I.list ha
  obtain ⟨its2, r2, p2, _⟩ := I.list hb
  cases r2
  cases r1 with
  | nil => exact SeqAt.RcNeAt.lists (e := fun _ => true) p1.isList p2.isList rfl (by omega) (fun j h1 _ => absurd h1 (Nat.not_lt_zero j)) X.prog X.w _ _ ⟨.bl _, H, I, rfl, k⟩
  | cons r rs => exact SeqAt.RcNeAt.lists_lengths p1.isList p2.isList rfl (by omega) X.prog X.w _ _ ⟨.bl _, H, I, rfl, k⟩
def fNilG (f : Bool → Bool) (x y : D) : Option (Bool × D) := match x, y with
  | .lst xs, .lst [] => some0 (.bl (f xs.isEmpty))
  | _, _ => none
theorem p_nil (f : Bool → Bool) : Pure2 W (rNilL W.K f) (fNilG f) := by
  intro S H v u x y c Q hd hx hy h r
  unfold fNilG at h
  split at h
  · cases h
    cases hx with
    | lst ha dl =>
      cases hy with
      | lst hb dl2 =>
        cases dl2
        refine ⟨_, _, _, rfl, rfl, SqL.of ha, SqL.of hb, ?_⟩
        cases dl <;> exact r.bl hd
  · cases h
variable {k : Nat} {a b : Expr} {ra rb : Run} {pos : Pos}
theorem t_neN (hK : X.K = W.K) (hr : Room k X.A) (ha : PE X a (TV W ra)) (hb : PE X b (TV W rb)) (hm : behindInMarks .NotEq b = false := by rfl) : PT X (.Compare a [.NotEq] [b] pos) (TVT W (toT (run2 ra rb (fNilG not)))) := t_cmp (by rw [← hK]; exact op_neN hr.units) (p_nil not) ha hb hm
end
end Sx
set_option Elab.async false
set_option linter.all false
set_option maxRecDepth 100000
set_option maxHeartbeats 4000000
set_option autoImplicit false
namespace Sx
open PySem PySem.W PySem.Calls PyProof.Rows PySem.HandSPX
/-! ### own errors whose __init__ says super().__init__("..") -/
structure ErK (P : Program) (K : Frag) (mg : Str → Option Value) (C fI cc cda : Addr) : Prop where
  cls : ∃ nm q N bs bm sn sub ab col dd k0 k1 k2 k3 k5, K.lookup C = some (excClassObj nm q C N bs bm true sn sub ab col dd k0 k1 k2 k3 k5 "ValueError.__new__") ∧ refsVE bm = true ∧ alongIn K "__init__" bm = some (some (.builtin "ValueError.__init__"))
  sa : findIn K (.ref C) "__setattr__" = some (some (.builtin "object.__setattr__"))
  iC : findIn K (.ref C) "__init__" = some (some (.ref fI))
  tC : typeIn K (.ref fI) = some (.type "function")
  kC : keepIn K (.ref C) = true
  exC : subIn K (.ref C) (.type "BaseException") = some true
  vC : subIn K (.ref C) (.type "ValueError") = some true
  sC : mroIn K C (.ref C) = some true
  tyC : typeIn K (.ref C) = some (.type "type")
  op : nsIn K cStatics "thirdparty.any" = some none
  cell : ∃ cl cld csl, K.lookup cc = some ⟨cl, cld, .cell (some (.ref C)), csl⟩
  code : ∃ ccl cdd vs ccs file tf, K.lookup cda = some ⟨ccl, cdd, .fields vs, ccs⟩ ∧ vs[2]? = some (.str file tf) ∧ ((P.main.file : Str) == file) = true
  top : (P.main.scope.names.lookup ("super" : Str)).isSome = false
  sup : mg "super" = none
section
variable {prog : Program} {w : World} {A : Around} {E : Value → Shared → Prop} {K : Frag} {mg mb : Str → Option Value} {C fI cc cda : Addr}
end
end Sx
set_option Elab.async false
set_option linter.all false
set_option maxRecDepth 100000
set_option maxHeartbeats 4000000
set_option autoImplicit false
namespace Sx
open PySem PySem.W PySem.Calls PyProof.Rows PySem.HandSPX
/-! ### such an error, made -/
/-- its dict -/
def ErD (h h' : Heap) (x : Addr) (fl : Option (Str × Value)) (dv : Option Addr) : Prop := match fl with
  | none => dv = none
  | some p => ∃ d, dv = some d ∧ h.objs.size ≤ d ∧ d ≠ x ∧ h'.Ns1 d (fun y => if y = p.1 then some p.2 else none)
structure ErEnd (h h' : Heap) (x C : Addr) (fl : Option (Str × Value)) (dv : Option Addr) : Prop where
  keep : ∀ b o, b ≠ x → h.get? b = some o → h'.get? b = some o
  obj : ∃ t1, h'.get? x = some { cls := .ref C, dict := dv, data := .fields #[.ref t1, .none, .none, .none, .bool false, .none] }
  dic : ErD h h' x fl dv
/-- the def __init__ of the class -/
structure ErF (K : Frag) (fI cc cda : Addr) (q : Str) (params : Arguments) (body : List Stmt) (scope : Scope) : Prop where
  lk : ∃ oc od kV doc pm an ct osl, K.lookup fI = some ⟨oc, od, .func (ksFn "__init__" q params body scope .none kV doc pm an (.ref cda) ct cc), osl⟩
  cd : codeIn K (.ref cda) q = true
  hks : scope.names.lookup ("super" : Str) = some .globalImplicit
  hkc : scope.names.lookup ("__class__" : Str) = some .free
  self : scope.names.lookup ("self" : Str) = some .local
  kind : scope.kind = .function
  co : scope.isCoroutine = false
  gen : scope.isGenerator = false
  cell : ∀ x ∈ scope.names, x.2 ≠ .cell
  hd : ∃ ar, (params.posonlyargs ++ params.args).head? = some ar ∧ ar.arg = "self"
section
variable {prog : Program} {w : World} {A : Around} {E : Value → Shared → Prop} {R : Result → Shared → Prop} {s : Shared} {K : Frag} {mg mb : Str → Option Value} {C fI cc cda : Addr} {q : Str} {params : Arguments} {body : List Stmt} {scope : Scope}
end
end Sx
set_option Elab.async false
set_option linter.all false
set_option maxRecDepth 100000
set_option maxHeartbeats 4000000
set_option autoImplicit false
namespace Sx
section
open PySem PySem.W PySem.Calls PyProof.Rows PySem.HandSPX
structure ErMade (h h' : Heap) (e C : Addr) (fl : Option (Str × Value)) (dv : Option Addr) : Prop where
  keep : ∀ b o, h.get? b = some o → h'.get? b = some o
  new : h.objs.size ≤ e
  obj : ∃ oe vs, h'.get? e = some oe ∧ oe.cls = .ref C ∧ oe.dict = dv ∧ oe.data = .fields vs ∧ vs[1]? = some .none
  dic : ErD h h' e fl dv
variable {prog : Program} {w : World} {A : Around} {E : Value → Shared → Prop} {R : Result → Shared → Prop} {s : Shared} {K : Frag} {mg mb : Str → Option Value} {C fI cc cda : Addr} {rest : List Value} {fl : Option (Str × Value)}
end
end Sx
namespace Sx
open PySem L2 PySem.Spec PyProof.Rows
section
variable {X : Cx} {C fI cc cda : Addr}
end
end Sx
set_option Elab.async false
set_option linter.all false
set_option maxRecDepth 100000
set_option maxHeartbeats 4000000
set_option autoImplicit false
namespace Sx
open PySem L2 PyProof.Rows
/-! ### runs that may raise an own error -/
inductive Fx where
  | fl (f : Fl) | ex (c : Nat) (fs : List (Str × D))
abbrev RunX := En → T (Fx × En)
abbrev Exn := Nat × List (Str × D)
/-- the error's dict holds these fields -/
def ErrD (W : Wd) (S : Addr → Prop) (H : Hp) (dv : Option Addr) (fs : List (Str × D)) : Prop := (fs = [] ∧ dv = none) ∨ ∃ dd kvs, dv = some dd ∧ S dd ∧ H dd = some (.xd kvs) ∧ DvP W S H kvs fs
def ExQ (W : Wd) (E : XK) (S P : Addr → Prop) (H : Hp) (x : Exn) : Prop := ∀ H' S' P' dv, Ext S P H S' P' H' → RetOk W S' P' H' → ErrD W S' H' dv x.2 → E (.ref (W.cls x.1)) dv H'
def PostX (W : Wd) (D : Ends) (E : XK) (S P : Addr → Prop) (H : Hp) (r : Fx × En) : Prop := match r.1 with
  | .fl f => Post W D S P H (f, r.2)
  | .ex c fs => ExQ W E S P H (c, fs)
/-- expressions that may raise: at the end of all else -/
abbrev RunE := En → T ((Op ⊕ Exn) × En)
section
variable {W : Wd} {S P S' P' : Addr → Prop} {en : En} {σ : L2.St} {H H' : Hp} {X : Cx} {D : Ends} {E : XK} {st : Stmt} {sts : List Stmt} {pos : Pos} {ra : Run} {re : RunE} {rs : RunS} {ru rt : RunX} {e : Expr}
theorem ExQ.ext {x : Exn} (h : ExQ W E S P H x) (y : Ext S P H S' P' H') : ExQ W E S' P' H' x := fun H2 S2 P2 dv e2 ro er => h H2 S2 P2 dv (y.trans e2) ro er
theorem PostX.ext {r : Fx × En} (h : PostX W D E S P H r) (x : Ext S P H S' P' H') : PostX W D E S' P' H' r := by
  obtain ⟨f, en'⟩ := r
  cases f with
  | fl f => exact Post.ext (r := (f, en')) h x
  | ex c fs => exact ExQ.ext h x
theorem Rel.ret (R : Rel W S P en σ H) : RetOk W S P H := ⟨R.sp, R.dom, R.dr, R.drP, R.tb⟩
end
end Sx
set_option Elab.async false
set_option linter.all false
set_option maxRecDepth 100000
set_option maxHeartbeats 4000000
set_option autoImplicit false
namespace Sx
open PySem L2 PyProof.Rows
/-! ### defs that may raise an own error -/
abbrev Out := (Bool × D) ⊕ Exn
abbrev FnE := List D → T Out
section
variable {W : Wd} {S P S' P' : Addr → Prop} {en : En} {σ : L2.St} {H H' : Hp} {X : Cx} {v : V} {c : Bool × D} {E : XK}
variable {k n c0 : Nat} {f : Addr} {fd : FuncData} {ps : List Str} {fn : FnE} {cls : CT} {x m : Str} {q pos apos : Pos} {e o : Expr} {es : List Expr} {ro : Run} {rs : Runs}
end
section
variable {Pr : Program} {w : World} {K : PySem.W.Frag} {mg : Str → Option Value} {base : Heap} {cls : CT}
end
end Sx
set_option Elab.async false
set_option linter.all false
set_option maxRecDepth 100000
set_option maxHeartbeats 4000000
set_option autoImplicit false
namespace Sx
open PySem L2 PySem.Spec PyProof.Rows
/-! ### a caught error becomes a known object -/
section
variable {X : Cx} {pins : List (Addr × Obj)} {σ : L2.St} {H : Hp} {s : Shared}
end
end Sx
set_option Elab.async false
set_option linter.all false
set_option maxRecDepth 100000
set_option maxHeartbeats 4000000
set_option autoImplicit false
namespace Sx
open PySem L2 PySem.Spec PyProof.Rows
section
variable {X : Cx} {pins : List (Addr × Obj)} {σ : L2.St} {H : Hp} {s : Shared}
end
/-! ### data -/
section
variable {W : Wd} {S P S' P' : Addr → Prop} {en : En} {σ : L2.St} {H H' : Hp}
/-- all names hold shared data -/
def AllFz (en : En) : Prop := ∀ (i : Nat) (f : Fg) (d : D), en[i]? = some (some (f, d)) → f = .fz
end
/-! ### told(lambda: ..) -/
def setE (j : Option Nat) (en : En) (d : D) : En := match j with
  | none => en
  | some j => en.set j (some (.fz, d))
/-- what the def does with what the call has told: its statements behind the try -/
structure ToldF (N : Nat) (ie jc : Nat) (jf : Option Nat) (known : Nat → Bool) (rpre rrest : RunS) (enA : Addr → En) (tf : D ⊕ Exn → T (Bool × D)) : Prop where
  pre : ∀ f, rpre (en0 N [.adr f]) = .ret (.nx, enA f)
  fz : ∀ f, AllFz (enA f)
  arg : ∀ f, (enA f)[0]? = some (some (.fz, .adr f))
  lens : ∀ f, ie < (enA f).length ∧ jc < (enA f).length ∧ ∀ j, jf = some j → j < (enA f).length
  fine : ∀ f d, ((rrest (setE jf (enA f) d)).bind fun r => T.ofOpt (flOf r.1)) = tf (.inl d)
  err : ∀ f c fs, known c = true → ((rrest (((enA f).set jc (some (.fz, .exc c fs))).set ie none)).bind fun r => T.ofOpt (flOf r.1)) = tf (.inr (c, fs))
end Sx
set_option Elab.async false
set_option linter.all false
set_option maxRecDepth 100000
set_option maxHeartbeats 4000000
set_option autoImplicit false
namespace Sx
open PySem L2 PySem.Spec PyProof.Rows
section
variable {X : Cx} {W : Wd}
end
end Sx
set_option Elab.async false
set_option linter.all false
set_option maxRecDepth 100000
set_option maxHeartbeats 4000000
set_option autoImplicit false
namespace Sx
open PySem L2 PySem.Spec PyProof.Rows
/-! ### what is asked of a caught error: isinstance, its field -/
section
variable {X : Cx} {W : Wd} {pins : List (Addr × Obj)} {σ : L2.St} {H : Hp} {s : Shared} {S P : Addr → Prop}
/-! data -/
def clV (cls : Nat → Addr) : D → Option Value
  | .cl c => some (.ref (cls c))
  | .ty n => some (.type n)
  | _ => none
structure TabOk (K : PySem.W.Frag) (cls : Nat → Addr) (tab : Option Nat → D → Option Bool) : Prop where
  exc : ∀ c t b, tab (some c) t = some b → ExcC K (cls c) ∧ ∃ v, clV cls t = some v ∧ PySem.W.kitOne K (.ref (cls c)) v = some b
  non : ∀ t b, tab none t = some b → ∃ v, clV cls t = some v ∧ PySem.W.kitOne K (.type "NoneType") v = some b
variable {e a b : Expr} {re : Run} {rs : Runs} {pos p : Pos}
end
end Sx
set_option Elab.async false
set_option linter.all false
set_option maxRecDepth 100000
set_option maxHeartbeats 4000000
set_option autoImplicit false
namespace Sx
open PySem L2 PyProof.Rows
section
variable {W : Wd} {S P S' P' : Addr → Prop} {en : En} {σ : L2.St} {H H' : Hp} {X : Cx} {E : XK} {k n c0 : Nat} {f : Addr} {fd : FuncData} {ps ks : List Str} {fn : FnE} {cls : CT} {x m : Str} {p pos apos : Pos} {e o : Expr} {es : List Expr} {kws : List Keyword} {ro : Run} {rs rs2 : Runs}
/-! ### calls by keyword that may raise -/
/-! ### the call of what was handed in -/
end
section
variable {Pr : Program} {w : World} {K : PySem.W.Frag} {mg : Str → Option Value} {base : Heap} {cls : CT}
end
/-- the addresses of the classes: Table, then the errors -/
def clsL (l : List Addr) (i : Nat) : Addr := l.getD i 0
end Sx
set_option Elab.async false
set_option linter.all false
set_option maxRecDepth 100000
set_option maxHeartbeats 4000000
set_option autoImplicit false
namespace Sx
open PySem L2 PyProof.Rows
section
variable {K : PySem.W.Frag}
end
end Sx
set_option Elab.async false
set_option linter.all false
set_option maxRecDepth 100000
set_option maxHeartbeats 4000000
set_option autoImplicit false
namespace Sx
open PySem L2 PyProof.Rows
/-! ### repr of lists and tuples of anything, None, truth values -/
section
variable {X : Cx} {W : Wd} {S : Addr → Prop} {H : Hp}
end
end Sx
set_option Elab.async false
set_option linter.all false
set_option maxRecDepth 100000
set_option maxHeartbeats 4000000
set_option autoImplicit false
namespace Sx
open PySem L2 PySem.Spec PyProof.Rows
section
variable {X : Cx} {W : Wd} {pins : List (Addr × Obj)} {σ : L2.St} {H : Hp} {s : Shared} {S P : Addr → Prop} {E : XK} {re : RunE} {e a b : Expr} {rs : Runs} {pos p : Pos}
/-! ### CALL is None, the call may raise -/
/-! ### isinstance(e, (C1, C2)) -/
end
end Sx
set_option Elab.async false
set_option linter.all false
set_option maxRecDepth 100000
set_option maxHeartbeats 4000000
set_option autoImplicit false
/-! an own error made with keywords: the kit's road for arguments by position, turned to keywords -/
namespace Sx
open PySem PySem.HandSPX
section
variable {M : Model} {prog : Program} {w : World} {A : Around} {E : Value → Shared → Prop} {R : Result → Shared → Prop} {hp : Heap} {gs : Array GenState} {dr : Drawn} {tk : Nat} {os : OsState}
variable {nm qn : Str} {C N : Addr} {bs bm bmB : List Value} {hd : Bool} {sn : List Str} {sub : List Value} {ab : Bool} {col : Option Bool} {dd : Option Addr} {k0 k1 k2 k3 k5 : Option Value} {B newId initId : String} {rest : List Value} {kw : List (Str × Value)}
end
end Sx
set_option Elab.async false
set_option linter.all false
set_option maxRecDepth 100000
set_option maxHeartbeats 4000000
set_option autoImplicit false
namespace Sx
section
open PySem PySem.W PySem.Calls PyProof.Rows PySem.HandSPX
section
variable {prog : Program} {w : World} {A : Around} {E : Value → Shared → Prop} {R : Result → Shared → Prop} {s : Shared} {K : Frag} {mg mb : Str → Option Value} {C fI cc cda : Addr} {q : Str} {params : Arguments} {body : List Stmt} {scope : Scope}
end
section
variable {prog : Program} {w : World} {A : Around} {E : Value → Shared → Prop} {R : Result → Shared → Prop} {s : Shared} {K : Frag} {mg mb : Str → Option Value} {C fI cc cda : Addr} {rest : List Value} {kw : List (Str × Value)} {fl : Option (Str × Value)}
end
end
end Sx
namespace Sx
open PySem L2 PySem.Spec PyProof.Rows
section
variable {X : Cx} {C fI cc cda : Addr}
/-! ### such an error as a value -/
end
/-! ### by data -/
section
variable {X : Cx} {W : Wd} {σ : L2.St} {H : Hp} {Q : VK} {rs : Runs} {c : Nat} {f : Str}
variable {fI cc cda : Addr} {x : Str} {a : Expr} {p pos kpos : Pos} {k : Nat} {ra : Run}
end
end Sx
set_option Elab.async false
set_option linter.all false
set_option maxRecDepth 100000
set_option maxHeartbeats 4000000
set_option autoImplicit false
namespace Sx
open PySem L2 PySem.Spec PyProof.Rows
section
variable {X : Cx} {W : Wd}
/-! list * int -/
end
end Sx
set_option Elab.async false
set_option linter.all false
set_option maxRecDepth 100000
set_option maxHeartbeats 4000000
set_option autoImplicit false
namespace Sx
open PySem L2 PyProof.Rows
/-! ### dicts whose keys are tuples of texts and whole numbers -/
def tD (ks : List Key) : D := .tup (ks.map kD)
section
variable {W : Wd} {S P S' P' : Addr → Prop} {H H' : Hp} {en : En} {σ : L2.St} {v : V} {d : D} {X : Cx}
/-! in, not in, d[k] -/
/-! a new one -/
/-! a tracked tuple, as any tuple -/
/-! d[k] = v of a name's own dict -/
/-! list(d) -/
/-! d.clear() of a name's own dict -/
end
section
variable {W : Wd} {X : Cx} {k : Nat} {a b : Expr} {ra rb : Run} {pos : Pos}
end
end Sx
set_option Elab.async false
set_option linter.all false
set_option maxRecDepth 100000
set_option maxHeartbeats 4000000
set_option autoImplicit false
namespace Sx
open PySem L2 PyProof.Rows
/-! ### sorted(d, key=f) of a dict whose keys are tuples of texts; def f(x): return (len(x), x) -/
section
variable {H : Hp}
end
def kS (l : List Str) : D := .tk (l.map Sum.inr)
section
variable {W : Wd} {S P : Addr → Prop} {σ : L2.St} {H : Hp} {X : Cx}
end
end Sx
set_option Elab.async false
set_option linter.all false
set_option maxRecDepth 100000
set_option maxHeartbeats 4000000
set_option autoImplicit false
namespace Sx
open PySem L2 PyProof.Rows
/-! ### dict comprehensions whose keys are tracked tuples -/
section
variable {X : Cx}
section
variable {kx vx tg iter : Expr} {ifs : List Expr} {scope : Scope} {own : List (Str × Nat)} {pos ppos : Pos} {wi : TI} {g : TG} {tt : TT} {tk tv : TE}
end
end
end Sx
set_option Elab.async false
set_option linter.all false
set_option maxRecDepth 100000
set_option maxHeartbeats 4000000
set_option autoImplicit false
namespace Sx
open PySem L2
/-! ### dict comprehensions whose keys are tracked tuples: their runs -/
section
variable {W : Wd} {X : Cx} {pos : Pos} {ri : RunI} {l : Option Nat} {g : TG} {t : Tg} {is : List Nat} {rt : RunT} {rk re : Run}
end
end Sx
set_option Elab.async false
set_option linter.all false
set_option maxRecDepth 100000
set_option maxHeartbeats 4000000
set_option autoImplicit false
namespace Sx
open PySem L2 PyProof.Rows
/-! ### list(d.items()) -/
section
variable {prog : Program} {w : World} {A : Around} {E : Value → Shared → Prop} {st : Shared} {v d : Addr} {es : Array DictEntry} {ep : Nat}
end
section
variable {W : Wd} {S P : Addr → Prop} {σ : L2.St} {H H' : Hp} {X : Cx}
end
end Sx
set_option Elab.async false
set_option linter.all false
set_option maxRecDepth 100000
set_option maxHeartbeats 4000000
set_option autoImplicit false
namespace Sx
open PySem L2 PyProof.Rows
/-! ### != of two own objects whose class has an own __eq__ and no own __ne__ -/
section
variable {prog : Program} {w : World} {A : Around} {E : Value → Shared → Prop} {s : Shared} {K : PySem.W.Frag} {a b C f : Addr} {oa : Obj} {da : Option Obj}
theorem ifB_obj {name : Str} {id : String} {args : List Value} {Q : Option Value → Shared → Prop} (S : PySem.Slot "object" name id) (X : K.In s.heap) (I : PySem.W.InstAt s.heap a oa C da) (hf : PySem.W.findIn K (.ref C) name = some (some (.builtin id)))
    (hc : wpAny (model prog w) A (call (.builtin id) (.ref a :: args)) (fun v s' => Q (some v) s') E s) : wpAny (model prog w) A (callSpecialIfBound? (.ref a) name args) Q E s := by
  simp only [callSpecialIfBound?, bindSpecialIfBound?]
  refine wpAny_holding (wpAny_bind (wpAny_bind (wpAny_bind (I.type.here ((PySem.W.looks_findIn X hf).here ?_)))))
  refine wpAny_bind (wpAny_askSetting (wpAny_ite ?_))
  have fin : wpAny (model prog w) A (call (.builtin id) ([.ref a] ++ args) >>= fun v => pure (some v)) Q E s := wpAny_bind (wpAny_mono hc (fun _ _ z => wpAny_pure z) fun _ _ z => z)
  rw [S.bind]
  split
  · exact wpAny_bind (wpAny_pure (wpAny_pure (by exact fin)))
  · exact wpAny_tryCatch (wpAny_bind (wpAny_pure (wpAny_pure (by exact fin))))
theorem entryNe {Q : Fin → Shared → Prop} (hu : A.units < cLine) (X : K.In s.heap) (I : PySem.W.InstAt s.heap a oa C da) (he : PySem.W.findIn K (.ref C) "__eq__" = some (some (.ref f))) (hfn : PySem.W.isFn K (.ref f) = true)
    (h : wpAny (model prog w) A (call (.ref f) [.ref a, .ref b]) (fun v s' => ∃ t, v = .bool t ∧ Q (.done (.ret (.bool (!t)))) s') E s) : wpAny (model prog w) A (Builtin.«object.__ne__» ⟨[.ref a, .ref b], []⟩) Q E s := by
  unfold Builtin.«object.__ne__»
  repeat (first
    | with_reducible refine wpAny_cRoomFor hu ?_
    | (refine wpAny_bind (m := callSpecialIfBound? (.ref a) (Str.ofString "__eq__") [.ref b]) (PySem.W.ifBound_K X I he hfn (wpAny_mono h (fun v s' z => by
        obtain ⟨t, rfl, q⟩ := z
        repeat (first | exact q | exact wpAny_pure q | exact wpAny_truthy_bool q | (refine wpAny_bind (m := truthy (.bool _)) (wpAny_truthy_bool ?_)) | wp_step)) fun _ _ z => z)))
    | wp_step)
theorem objNe {Q : Value → Shared → Prop} (hu : A.units + 1 < cLine) (X : K.In s.heap) (I : PySem.W.InstAt s.heap a oa C da) (hob : PySem.W.mroIn K C (.type "object") = some true) (he : PySem.W.findIn K (.ref C) "__eq__" = some (some (.ref f))) (hfn : PySem.W.isFn K (.ref f) = true)
    (h : wpAny (model prog w) A.in1 (call (.ref f) [.ref a, .ref b]) (fun v s' => ∃ t, v = .bool t ∧ Q (.bool (!t)) s') E s) : wpAny (model prog w) A (call (.builtin "object.__ne__") [.ref a, .ref b]) Q E s := by
  have hi : PySem.W.Looks (model prog w) s.heap (isInstance (.ref a) (.type "object")) true := I.type.andThen (PySem.W.looks_mroIn X hob)
  refine wpAny_call (codeAny_call_builtin PySem.F.slot_object_ne.plain F.cmpEntry_ne (PySem.W.check_slot F.cmpKind_ne F.cmpSplit_ne hi (F.cmpArgs_ne _ _) (wpAny_mono (entryNe (Q := fun fin s' => ∃ v, fin = .done (.ret v) ∧ Q v s') (A := A.in1) hu X I he hfn (wpAny_mono h (fun v s' z => ?_) fun _ _ z => z)) (fun fin s' z => ?_) fun _ _ z => z)))
  · obtain ⟨t, rfl, q⟩ := z
    exact ⟨t, rfl, _, rfl, q⟩
  · obtain ⟨v, rfl, q⟩ := z
    exact q
theorem cmpNe {b' : Addr} {ob : Obj} {db : Option Obj} {Q : Value → Shared → Prop} (hu : A.units + 1 < cLine) (X : K.In s.heap) (I : PySem.W.InstAt s.heap a oa C da) (J : PySem.W.InstAt s.heap b ob C db) (hob : PySem.W.mroIn K C (.type "object") = some true) (he : PySem.W.findIn K (.ref C) "__eq__" = some (some (.ref f))) (hfn : PySem.W.isFn K (.ref f) = true)
    (hne : PySem.W.findIn K (.ref C) "__ne__" = some (some (.builtin "object.__ne__")))
    (h : wpAny (model prog w) A.in1 (call (.ref f) [.ref a, .ref b]) (fun v s' => ∃ t, v = .bool t ∧ Q (.bool (!t)) s') E s) : wpAny (model prog w) A (richCompare .NotEq (.ref a) (.ref b)) Q E s := by
  have one : wpAny (model prog w) A (tryCompare (.ref a) "__ne__" (.ref b)) (fun r s' => ∃ t, r = some (.bool (!t)) ∧ Q (.bool (!t)) s') E s := by
    unfold tryCompare
    refine wpAny_bind (ifB_obj PySem.F.slot_object_ne X I hne (objNe hu X I hob he hfn (wpAny_mono h (fun v s' z => ?_) fun _ _ z => z)))
    obtain ⟨t, rfl, q⟩ := z
    exact ⟨t, rfl, wpAny_pure ⟨t, rfl, q⟩⟩
  unfold richCompare
  simp only [oneThing_ref]
  refine wpAny_holding (wpAny_bind (wpAny_cRoomFor (Nat.lt_of_succ_lt hu) ?_))
  rw [cmpInfo_NotEq]
  refine wpAny_bind (I.type.here (wpAny_bind (J.type.here ?_)))
  rw [show (Value.ref C != Value.ref C) = false from by simp]
  simp only [Bool.false_eq_true, if_false]
  refine wpAny_bind (wpAny_pure ?_)
  simp only [Bool.false_eq_true, if_false]
  refine wpAny_bind (wpAny_mono one (fun r s' z => ?_) fun _ _ z => z)
  obtain ⟨t, rfl, q⟩ := z
  exact wpAny_pure q
end
def rNeI (C : Addr) (sp : Sp) : R2 := fun x y H Q => ∃ a b dx dy fs gs, x = .ref a ∧ y = .ref b ∧ H a = some (.ins C dx fs) ∧ H b = some (.ins C dy gs) ∧ sp [.ref a, .ref b] H (fun v H' => (∃ b, v = .bl b) ∧ ∀ t, v = .bl t → Q (.bl (!t)) H') E0
section
variable {X : Cx} {k : Nat} {C f : Addr} {fd : FuncData} {ps : List Str}
theorem op_neI {sp : Sp} (hs : PySem.W.findIn X.K (.ref C) "__eq__" = some (some (.ref f))) (hne : PySem.W.findIn X.K (.ref C) "__ne__" = some (some (.builtin "object.__ne__"))) (hob : PySem.W.mroIn X.K C (.type "object") = some true) (hf : PySem.W.isFn X.K (.ref f) = true) (F : FnG X.prog X.w X.K X.mg X.base CX0 k f fd ps sp) (hr : Room (k + 1) X.A) (hg : NoG X.A) (hb : Binds X.K fd ps []) : OpR X (compareOp .NotEq) (rNeI C sp) := by
  intro pins s σ H x y v u Q I rx ry h
  obtain ⟨a, b, dx, dy, fs, gs, rfl, rfl, ha, hb', w⟩ := h
  cases (show v = Value.ref a from rx)
  cases (show u = Value.ref b from ry)
  obtain ⟨mA, O, _⟩ := ins_get I.hok ha
  obtain ⟨mB, O2, _⟩ := ins_get I.hok hb'
  obtain ⟨od, J, _⟩ := O.look
  obtain ⟨od2, J2, _⟩ := O2.look
  show wpAny (model X.prog X.w) X.A (richCompare .NotEq (.ref a) (.ref b)) (EP X pins σ Q) X.xe s
  refine cmpNe (b' := b) (hu_of hr) I.kIn J J2 hob hs hf hne (wpAny_call ?_)
  have hl := F.len _ _ _ _ w
  have bd := hb s [.ref a, .ref b] I.kIn (by simpa using hl)
  refine codeAny_mono (F.go (A := X.A.in1) (vs := [V.ref a, V.ref b]) (us := [Value.ref a, Value.ref b]) hr.in1 hg I.env0.in1 bd (.cons rfl (.cons rfl .nil)) w) fun fl s' z => ?_
  cases fl with
  | error er => exact z.elim
  | ok fl => cases fl with
    | ret u =>
      obtain ⟨v, H', I3, rv, ⟨t, ev⟩, w3⟩ := I.after z
      subst ev
      cases (show u = Value.bool t from rv)
      exact ⟨t, rfl, .bl (!t), H', I3, rfl, w3 t rfl⟩
    | _ => exact False.elim z
end
def rNeU (c0 : Nat) (fn : Fn) (ra rb : Run) : Run := fun en => (ra en).bind fun a => (rb a.2).bind fun b => match a.1.fz, b.1.fz with
  | .v (.obj c fs), .v (.obj c' gs) => if c = c0 ∧ c' = c0 then (fn [.obj c fs, .obj c' gs]).bind fun r => (match r.2 with
      | .bl k => T.ret (Op.v (.bl (!k)), b.2)
      | _ => .fail) else .fail
  | _, _ => .fail
section
variable {W : Wd} {X : Cx} {k : Nat} {a b : Expr} {ra rb : Run} {pos : Pos}
theorem tv_neU {c0 : Nat} {fn : Fn} {cls : CT} {σ : L2.St} {H : Hp} {Q : VK} (hcl : W.cls = cls) (h : TV W (rNeU c0 fn ra rb) σ H Q) : TV W ra σ H fun x H1 => TV W rb σ H1 fun y H2 => rNeI (cls c0) (spR W.K cls 2 fn) x y H2 Q := by
  obtain ⟨S, P, en, R, w⟩ := h
  refine TV.use R w fun c v H1 S1 P1 e1 R1 p1 q => ?_
  refine TV.use R1 q fun c2 u H2 S2 P2 e2 R2 p2 q2 => ?_
  have p1 := p1.ext R1 e2
  have q3 : ((match c.1.fz, c2.1.fz with
      | .v (.obj c fs), .v (.obj c' gs) => if c = c0 ∧ c' = c0 then (fn [.obj c fs, .obj c' gs]).bind fun r => (match r.2 with
          | .bl k => T.ret (Op.v (.bl (!k)), c2.2)
          | _ => .fail) else .fail
      | _, _ => .fail) : T (Op × En)).wp _ := q2
  split at q3
  · rename_i i fs j gs h1 h2
    rw [h1] at p1
    rw [h2] at p2
    split at q3
    · rename_i hc
      obtain ⟨rfl, rfl⟩ := hc
      subst hcl
      obtain ⟨a, dx, fv, rfl, ha, dp⟩ := p1.2.obj_at
      obtain ⟨b, dy, gv, rfl, hb, dq⟩ := p2.2.obj_at
      refine ⟨a, b, dx, dy, fv, gv, rfl, rfl, ha, hb, rfl, W, S2, [.obj j fs, .obj j gs], rfl, rfl, R2.dr, R2.tb, R2.dom, fun w => R2.drP.1 (R2.sp _ w), R2.drP.2.sub R2.sp, .cons p1.1 p1.2 (.cons p2.1 p2.2 .nil), T.wp_mono ((T.wp_bind _ _ _).mp q3) fun r q v H' S' P' e ro ok => ?_⟩
      obtain ⟨e5, R5, ok5⟩ := R2.call e ro ok
      obtain ⟨fl, d⟩ := r
      cases d with
      | bl k =>
        have dv := ok.1
        cases dv
        refine ⟨⟨k, rfl⟩, fun t et => ?_⟩
        cases et
        exact q _ H' S' _ (e1.trans (e2.trans e5)) R5 ⟨trivial, .bl _⟩
      | _ => exact q.elim
    · exact q3.elim
  · exact q3.elim
theorem t_neU {c0 : Nat} {f : Addr} {fd : FuncData} {ps : List Str} {fn : Fn} {cls : CT} (F : FnG X.prog X.w X.K X.mg X.base CX0 k f fd ps (spR X.K cls 2 fn)) (hs : PySem.W.findIn X.K (.ref (cls c0)) "__eq__" = some (some (.ref f))) (hne : PySem.W.findIn X.K (.ref (cls c0)) "__ne__" = some (some (.builtin "object.__ne__"))) (hob : PySem.W.mroIn X.K (cls c0) (.type "object") = some true)
    (hf : PySem.W.isFn X.K (.ref f) = true) (hcl : W.cls = cls) (hK : X.K = W.K) (hr : Room (k + 1) X.A) (hg : NoG X.A) (hb : Binds X.K fd ps []) (ha : PE X a (TV W ra)) (hbb : PE X b (TV W rb)) (hm : behindInMarks .NotEq b = false := by rfl) : PT X (.Compare a [.NotEq] [b] pos) (TVT W (toT (rNeU c0 fn ra rb))) :=
  pt_weak (pt_cmpR (op_neI hs hne hob hf F hr hg hb) ha hbb hm) fun _ _ _ h => by rw [hK]; exact tv_neU hcl (tvt_tB h)
end
/-! ### tuple(xs) as a tracked tuple -/
section
variable {W : Wd} {S P : Addr → Prop} {H : Hp}
theorem PRes.tk {ks : List Key} {Q : VK} (hd : DomS S H) (r : PRes W S H (false, .tk ks) Q) : ∀ p, H p = none → Q (.ref p) (L2.upd H p (.tup (ks.map kV))) := fun p hp =>
  r (.ref p) _ (add S p) (upd_keeps hp) (fun _ h => .inl h) (fun _ h => h.imp id fun e => by rw [e]; exact hp)
    (fun a h => h.elim (fun h => by obtain ⟨o, q⟩ := hd a h; exact ⟨o, upd_keeps hp a o q⟩) fun e => by subst e; exact ⟨_, upd_same⟩) (tup_new (.inr rfl)) (.tk upd_same) (fun _ => .inr rfl) fun z => by cases z
end
end Sx
set_option Elab.async false
set_option linter.all false
set_option maxRecDepth 100000
set_option maxHeartbeats 4000000
set_option autoImplicit false
namespace Sx
open PySem L2 PyProof.Rows
/-! ### an `__init__` that may raise an own error -/
section
variable {W : Wd} {S P S' P' : Addr → Prop} {H H' : Hp} {en : En} {σ : L2.St} {v : V} {d : D} {X : Cx} {E : XK}
def KQ (W : Wd) (D : Ends) (E : XK) (σ : L2.St) (S P : Addr → Prop) (H : Hp) (r : En ⊕ Exn) : Prop := match r with
  | .inl e => ∀ H' S' P', Ext S P H S' P' H' → Rel W S' P' e σ H' → D.nx σ H'
  | .inr x => ExQ W E S P H x
theorem KQ.ext {D : Ends} {r : En ⊕ Exn} (h : KQ W D E σ S P H r) (x : Ext S P H S' P' H') : KQ W D E σ S' P' H' r := by
  cases r with
  | inl e => exact fun H2 S2 P2 e2 R2 => h H2 S2 P2 (x.trans e2) R2
  | inr y => exact ExQ.ext h x
end
end Sx
set_option Elab.async false
set_option linter.all false
set_option maxRecDepth 100000
set_option maxHeartbeats 4000000
set_option autoImplicit false
namespace Sx
open PySem L2 PyProof.Rows
/-! ### for over a dict as a statement -/
section
variable {W : Wd} {X : Cx} {pos : Pos} {rs : RunS} {ri : RunI} {g : TG} {t : Tg} {is : List Nat} {td : TE} {pa : L2.St → Hp → Option Addr} {pth : Pth}
end
/-! ### methods called by keyword that may raise -/
section
variable {W : Wd} {S P S' P' : Addr → Prop} {en : En} {σ : L2.St} {H H' : Hp} {X : Cx} {E : XK} {CX : CXT} {k n c0 : Nat} {f C : Addr} {fd : FuncData} {ps ks : List Str} {sp : Sp} {fn : FnE} {cls : CT} {m : Str} {pos apos : Pos} {o : Expr} {kws : List Keyword} {ro : Run} {rs2 : Runs} {g : List Value → List Value → List Value} {gV : List V → List V → List V} {ta : TE} {tk : TA}
end
/-! the object, then keywords -/
section
variable {K : PySem.W.Frag}
end
end Sx
set_option Elab.async false
set_option linter.all false
set_option maxRecDepth 100000
set_option maxHeartbeats 4000000
set_option autoImplicit false
namespace Sx
open PySem L2 PyProof.Rows
/-! ### the way to a dict that stands in a name's tuple: x[1] -/
structure PathU (X : Cx) (W : Wd) (td : TE) (gd : L2.St → Hp → Addr → Prop) (pth : Pth) : Prop where
  ok : ∀ {S P : Addr → Prop} {en en1 : En} {σ : L2.St} {H : Hp} {kvs : List (Key × D)}, Rel W S P en σ H → pth en = some (en1, kvs) → ∃ S1 P1 d vs, Ext S P H S1 P1 H ∧ Rel W S1 P1 en1 σ H ∧ S1 d ∧ gd σ H d ∧ Rd H d (.dK vs) ∧ DvP W S1 H vs kvs
  td : ∀ {σ : L2.St} {H : Hp} {d : Addr} {Q : VK}, gd σ H d → Q (.ref d) H → td σ H Q
  kp : ∀ {σ : L2.St} {H H' : Hp} {d : Addr}, Keeps H H' → gd σ H d → gd σ H' d
  bk : ∀ {σ : L2.St} {H : Hp} {d d' : Addr} {o : Obj} {vs : List (Key × V)}, H d = some (.dK vs) → gd σ (upd H d (.frz o (.dK vs))) d' → gd σ H d'
  un : ∀ {pins : List (Addr × Obj)} {σ : L2.St} {H : Hp} {s : Shared} {d d' : Addr}, Inv X pins σ H s → gd σ H d → gd σ H d' → d = d'
section
variable {W : Wd} {S P S' P' : Addr → Prop} {en en1 : En} {σ : L2.St} {H H' : Hp} {v : V} {X : Cx} {td : TE} {gd : L2.St → Hp → Addr → Prop} {pth : Pth} {pos : Pos}
def pthI (i : Nat) (k : Int) : Pth := fun en => match en[i]? with
  | some (some (.fz, .tup ds)) => (match atI ds k with
    | some (.dK kvs) => some (en, kvs)
    | _ => none)
  | _ => none
instance (i : Nat) (k : Int) : ShPth (pthI i k) := ⟨fun en en1 kvs h => by
  unfold pthI at h
  split at h
  · split at h
    · cases h; exact LkSub.refl _
    · cases h
  · cases h⟩
end
end Sx
set_option Elab.async false
set_option linter.all false
set_option maxRecDepth 100000
set_option maxHeartbeats 4000000
set_option autoImplicit false
namespace Sx
open PySem L2 PyProof.Rows
/-! ### repr of texts, numbers and the empty dict as well -/
section
variable {X : Cx} {W : Wd} {S : Addr → Prop} {H : Hp}
end
end Sx
set_option Elab.async false
set_option linter.all false
set_option maxRecDepth 100000
set_option maxHeartbeats 4000000
set_option autoImplicit false
namespace Sx
open PySem L2 PyProof.Rows
/-! ### y = [.. for k in d ..] -/
section
variable {W : Wd} {X : Cx} {pos : Pos} {td : TE} {pa : L2.St → Hp → Option Addr} {pth : Pth}
end
end Sx
set_option Elab.async false
set_option linter.all false
set_option maxRecDepth 100000
set_option maxHeartbeats 4000000
set_option autoImplicit false
namespace Sx
open PySem L2 PyProof.Rows
/-! ### {**d, k: v} -/
section
variable {prog : Program} {w : World} {A : Around} {E : Value → Shared → Prop} {s : Shared} {d o : Addr} {kvs more : List (Key × Value)}
end
end Sx
set_option Elab.async false
set_option linter.all false
set_option maxRecDepth 100000
set_option maxHeartbeats 4000000
set_option autoImplicit false
namespace Sx
open PySem L2 PyProof.Rows
section
variable {X : Cx} {e k v : Expr} {td tk tv : TE} {pos : Pos}
end
def fzD (en : En) (i : Nat) : Option D := match en[i]? with
  | some (some (.fz, d)) => some d
  | _ => none
def rDspU (pth : Pth) (i j : Nat) : Run := fun en => (T.ofOpt (pth en)).bind fun r => (T.ofOpt ((fzD r.1 i).bind keyOf)).bind fun k => (T.ofOpt (fzD r.1 j)).bind fun d =>
  if r.2.length + 1 ≤ 4096 then .ret (.fr (.dK (putD (mergeD [] r.2) k d)), r.1) else .fail
section
variable {W : Wd} {S P S' P' : Addr → Prop} {en : En} {σ : L2.St} {H : Hp} {X : Cx} {td : TE} {pa : L2.St → Hp → Option Addr} {pth : Pth} {Q : VK}
end
instance {pth : Pth} {i j : Nat} [h : ShPth pth] : ShRun (rDspU pth i j) := ⟨fun en => T.all_bind (T.all_ofOpt fun r hr => T.all_bind (T.all_ofOpt fun k _ => T.all_bind (T.all_ofOpt fun d _ => by
  split
  · exact h.sh en r.1 r.2 hr
  · trivial)))⟩
end Sx
set_option Elab.async false
set_option linter.all false
set_option maxRecDepth 100000
set_option maxHeartbeats 4000000
set_option autoImplicit false
namespace Sx
open PySem L2 PyProof.Rows
/-! ### != of two dicts with plain values -/
section
variable {prog : Program} {w : World} {A : Around} {s : Shared}
end
section
variable {X : Cx} {pins : List (Addr × Obj)} {σ : L2.St} {H : Hp} {s : Shared}
end
section
variable {W : Wd} {S P S' P' : Addr → Prop} {en : En} {σ : L2.St} {H : Hp} {X : Cx} {Q : VK}
/-! ### d.get(k, x) -/
def dkOf : D → Option (List (Key × D))
  | .dK ds => some ds
  | _ => none
def rGet (ra rb rc : Run) : Run := fun en => (ra en).bind fun a => (T.ofOpt ((frc a.2 a.1.fz).bind dkOf)).bind fun _ => (rb a.2).bind fun b => (rc b.2).bind fun c => (T.ofOpt (valO c.1)).bind fun z =>
  (T.ofOpt ((frc c.2 a.1.fz).bind dkOf)).bind fun ds => (T.ofOpt ((frc c.2 b.1.fz).bind keyOf)).bind fun k => .ret (.v ((valD ds k).getD z), c.2)
/-! ### d[k] = v of a name's own dict with keys texts and numbers -/
end
end Sx
set_option Elab.async false
set_option linter.all false
set_option maxRecDepth 100000
set_option maxHeartbeats 4000000
set_option autoImplicit false
namespace Sx
open PySem L2 PyProof.Rows
/-! ### a name's own dict or list while it is built: guarded, its content told beside the names -/
inductive Kd where
  | l
  | d
/-- flat; or own lists or dicts in a list or a dict -/
inductive Md where
  | fl
  | ns (o i : Kd)
def InC (i : Kd) (W : Wd) (S : Addr → Prop) (H : Hp) (g : Addr) (c : D) : Prop := match i with
  | .l => ∃ vs ds, c = .lst ds ∧ H g = some (.lst vs) ∧ DvL W S H vs ds
  | .d => ∃ vs ds, c = .dK ds ∧ H g = some (.dK vs) ∧ DvP W S H vs ds
def InL (i : Kd) (W : Wd) (S : Addr → Prop) (H : Hp) : List Addr → List D → Prop
  | [], [] => True
  | g :: G, c :: cs => InC i W S H g c ∧ InL i W S H G cs
  | _, _ => False
def OutC (o : Kd) (H : Hp) (a : Addr) (G : List Addr) (cs : List D) (c : D) : Prop := match o with
  | .l => c = .lst cs ∧ H a = some (.lst (G.map .ref))
  | .d => ∃ ks : List Key, ks.length = G.length ∧ c = .dK (ks.zip cs) ∧ H a = some (.dK (ks.zip (G.map .ref)))
section
variable {i o : Kd} {W : Wd} {S S' : Addr → Prop} {H H' : Hp} {g a : Addr} {c : D} {G : List Addr} {cs : List D}
theorem InC.ext (h : InC i W S H g c) (hg : H' g = H g) (hS : ∀ a, S a → S' a) (hH : ∀ a, S a → H' a = H a) : InC i W S' H' g c := by
  cases i with
  | l => obtain ⟨vs, ds, e, h1, h2⟩ := h; exact ⟨vs, ds, e, hg.trans h1, h2.mono hS hH⟩
  | d => obtain ⟨vs, ds, e, h1, h2⟩ := h; exact ⟨vs, ds, e, hg.trans h1, h2.mono hS hH⟩
theorem InC.at (h : InC i W S H g c) : ∃ o, H g = some o ∧ NX o := by
  cases i with
  | l => obtain ⟨vs, ds, e, h1, h2⟩ := h; exact ⟨_, h1, nx_lst _⟩
  | d => obtain ⟨vs, ds, e, h1, h2⟩ := h; exact ⟨_, h1, nx_dK _⟩
theorem InC.dv (h : InC i W S H g c) (hS : ∀ a, S a → S' a) (hg : S' g) : Dz W S' H (.ref g) c := by
  cases i with
  | l => obtain ⟨vs, ds, rfl, h1, h2⟩ := h; exact ⟨hg, .lst h1 (h2.mono hS fun _ _ => rfl)⟩
  | d => obtain ⟨vs, ds, rfl, h1, h2⟩ := h; exact ⟨hg, .dK (.inl h1) (h2.mono hS fun _ _ => rfl)⟩
theorem InL.len : ∀ {G : List Addr} {cs : List D}, InL i W S H G cs → G.length = cs.length
  | [], [], _ => rfl
  | g :: G, c :: cs, h => by rw [List.length_cons, List.length_cons, InL.len h.2]
  | [], _ :: _, h => h.elim
  | _ :: _, [], h => h.elim
theorem InL.map {S' : Addr → Prop} {H' : Hp} : ∀ {G : List Addr} {cs : List D}, (∀ g ∈ G, ∀ c, InC i W S H g c → InC i W S' H' g c) → InL i W S H G cs → InL i W S' H' G cs
  | [], [], _, _ => trivial
  | g :: G, c :: cs, f, h => ⟨f g List.mem_cons_self c h.1, InL.map (fun g hg => f g (List.mem_cons_of_mem _ hg)) h.2⟩
  | [], _ :: _, _, h => h.elim
  | _ :: _, [], _, h => h.elim
theorem InL.mem : ∀ {G : List Addr} {cs : List D}, InL i W S H G cs → ∀ g ∈ G, ∃ c, InC i W S H g c
  | g :: G, c :: cs, h, x, hx => by
    rcases List.mem_cons.mp hx with rfl | hx
    · exact ⟨c, h.1⟩
    · exact InL.mem h.2 x hx
  | [], _, _, x, hx => by simp at hx
  | _ :: _, [], h, _, _ => h.elim
theorem InL.at : ∀ {G : List Addr} {cs : List D} {k : Nat} {c : D}, InL i W S H G cs → cs[k]? = some c → ∃ g, G[k]? = some g ∧ InC i W S H g c
  | g :: G, d :: cs, 0, c, h, e => by cases e; exact ⟨g, rfl, h.1⟩
  | g :: G, d :: cs, k + 1, c, h, e => by
    obtain ⟨x, h1, h2⟩ := InL.at (k := k) h.2 (by simpa using e)
    exact ⟨x, by simpa using h1, h2⟩
  | [], [], _, _, _, e => by simp at e
  | [], _ :: _, _, _, h, _ => h.elim
  | _ :: _, [], _, _, h, _ => h.elim
theorem InL.dvL (hS : ∀ a, S a → S' a) : ∀ {G : List Addr} {cs : List D}, InL i W S H G cs → (∀ g ∈ G, S' g) → DvL W S' H (G.map .ref) cs
  | [], [], _, _ => .nil
  | g :: G, c :: cs, h, hG => by
    have dz := h.1.dv hS (hG g List.mem_cons_self)
    exact .cons dz.1 dz.2 (InL.dvL hS h.2 fun g hg => hG g (List.mem_cons_of_mem _ hg))
  | [], _ :: _, h, _ => h.elim
  | _ :: _, [], h, _ => h.elim
theorem InL.dvP (hS : ∀ a, S a → S' a) : ∀ {G : List Addr} {cs : List D} (ks : List Key), InL i W S H G cs → (∀ g ∈ G, S' g) → DvP W S' H (ks.zip (G.map .ref)) (ks.zip cs)
  | [], [], ks, _, _ => by rw [List.map_nil, List.zip_nil_right, List.zip_nil_right]; exact .nil
  | g :: G, c :: cs, [], h, hG => .nil
  | g :: G, c :: cs, k :: ks, h, hG => by
    have dz := h.1.dv hS (hG g List.mem_cons_self)
    exact .cons dz.1 dz.2 (InL.dvP hS ks h.2 fun g hg => hG g (List.mem_cons_of_mem _ hg))
  | [], _ :: _, _, h, _ => h.elim
  | _ :: _, [], _, h, _ => h.elim
/-- one inner object is another one -/
theorem InL.set {H' : Hp} {g : Addr} {c' : D} : ∀ {G : List Addr} {cs : List D} {k : Nat}, InL i W S H G cs → G.Nodup → G[k]? = some g → (∀ x ∈ G, x ≠ g → ∀ c, InC i W S H x c → InC i W S H' x c) → InC i W S H' g c' → InL i W S H' G (cs.set k c')
  | x :: G, d :: cs, 0, h, nd, e, f, hc => by
    cases e
    refine ⟨hc, InL.map (fun y hy => f y (List.mem_cons_of_mem _ hy) fun z => ?_) h.2⟩
    exact (List.nodup_cons.mp nd).1 (z ▸ hy)
  | x :: G, d :: cs, k + 1, h, nd, e, f, hc => by
    have nd := List.nodup_cons.mp nd
    have e : G[k]? = some g := by simpa using e
    refine ⟨f x List.mem_cons_self (fun z => nd.1 (z ▸ List.mem_of_getElem? e)) _ h.1, InL.set h.2 nd.2 e (fun y hy => f y (List.mem_cons_of_mem _ hy)) hc⟩
  | [], _, _, _, _, e, _, _ => by simp at e
  | _ :: _, [], _, h, _, _, _, _ => h.elim
theorem InL.snoc {c : D} (hc : InC i W S H g c) : ∀ {G : List Addr} {cs : List D}, InL i W S H G cs → InL i W S H (G ++ [g]) (cs ++ [c])
  | [], [], _ => ⟨hc, trivial⟩
  | _ :: _, _ :: _, h => ⟨h.1, InL.snoc hc h.2⟩
  | [], _ :: _, h => h.elim
  | _ :: _, [], h => h.elim
theorem OutC.ext (h : OutC o H a G cs c) (ha : H' a = H a) : OutC o H' a G cs c := by
  cases o with
  | l => exact ⟨h.1, ha.trans h.2⟩
  | d => obtain ⟨ks, l, e, q⟩ := h; exact ⟨ks, l, e, ha.trans q⟩
theorem OutC.at (h : OutC o H a G cs c) : ∃ o, H a = some o ∧ NX o := by
  cases o with
  | l => exact ⟨_, h.2, nx_lst _⟩
  | d => obtain ⟨ks, l, e, q⟩ := h; exact ⟨_, q, nx_dK _⟩
/-- the whole as data, where the inner objects are shared -/
theorem OutC.dv (h : OutC o H a G cs c) (hi : InL i W S H G cs) (hS : ∀ a, S a → S' a) (hG : ∀ g ∈ G, S' g) : Dv W S' H (.ref a) c := by
  cases o with
  | l => obtain ⟨rfl, q⟩ := h; exact .lst q (hi.dvL hS hG)
  | d => obtain ⟨ks, l, rfl, q⟩ := h; exact .dK (.inl q) (hi.dvP hS ks hG)
theorem OutC.tin (h : OutC o H a G cs c) (ha : S' a) : Tin S' (.ref a) c := by
  cases o with
  | l => obtain ⟨rfl, q⟩ := h; exact ha
  | d => obtain ⟨ks, l, rfl, q⟩ := h; exact ha
end
/-- what stands at a, with the inner objects G -/
def Cont (md : Md) (W : Wd) (S : Addr → Prop) (H : Hp) (a : Addr) (G : List Addr) (c : D) : Prop := match md with
  | .fl => G = [] ∧ ∃ vs ds, c = .dK ds ∧ H a = some (.dK vs) ∧ DvP W S H vs ds
  | .ns o i => (a :: G).Nodup ∧ ∃ cs, InL i W S H G cs ∧ OutC o H a G cs c
def gP (P : Addr → Prop) (a : Addr) (G : List Addr) : Addr → Prop := fun x => P x ∨ x ∈ a :: G
def NLk (en : En) : Prop := ∀ (i : Nat) (d : D), en[i]? ≠ some (some (.lk, d))
structure RelG (md : Md) (W : Wd) (S P : Addr → Prop) (a : Addr) (G : List Addr) (j : Nat) (en : En) (c : D) (σ : L2.St) (H : Hp) : Prop where
  r : Rel W S (gP P a G) en σ H
  nP : ∀ g ∈ a :: G, ¬ P g
  nS : ∀ g ∈ a :: G, ¬ S g
  sj : σ[j]? = some (some (.ref a))
  ct : Cont md W S H a G c
  nl : NLk en
section
variable {md : Md} {W : Wd} {S P S' P' : Addr → Prop} {a g : Addr} {G : List Addr} {j : Nat} {en en' : En} {c d : D} {σ σ' : L2.St} {H H' : Hp} {X : Cx} {v : V} {Q : VK}
theorem NLk.sub (h : NLk en) (s : LkSub en' en) : NLk en' := fun i d e => by obtain ⟨d', q⟩ := s i d e; exact h i d' q
theorem Cont.ext (h : Cont md W S H a G c) (hg : ∀ g ∈ a :: G, H' g = H g) (hS : ∀ a, S a → S' a) (hH : ∀ a, S a → H' a = H a) : Cont md W S' H' a G c := by
  cases md with
  | fl =>
    obtain ⟨rfl, vs, ds, rfl, h1, h2⟩ := h
    exact ⟨rfl, vs, ds, rfl, (hg a List.mem_cons_self).trans h1, h2.mono hS hH⟩
  | ns o i =>
    obtain ⟨nd, cs, h1, h2⟩ := h
    exact ⟨nd, cs, InL.map (fun g hG c hc => hc.ext (hg g (List.mem_cons_of_mem _ hG)) hS hH) h1, h2.ext (hg a List.mem_cons_self)⟩
theorem Cont.at (h : Cont md W S H a G c) : ∀ g ∈ a :: G, ∃ o, H g = some o ∧ NX o := by
  cases md with
  | fl =>
    obtain ⟨rfl, vs, ds, rfl, h1, h2⟩ := h
    intro g hg
    rw [List.mem_singleton.mp hg]
    exact ⟨_, h1, nx_dK _⟩
  | ns o i =>
    obtain ⟨nd, cs, h1, h2⟩ := h
    intro g hg
    rcases List.mem_cons.mp hg with rfl | hg
    · exact h2.at
    · obtain ⟨c, hc⟩ := h1.mem g hg
      exact hc.at
/-- the content as data, where the objects are shared -/
theorem Cont.dv (h : Cont md W S H a G c) (hS : ∀ a, S a → S' a) (hG : ∀ g ∈ a :: G, S' g) : Dz W S' H (.ref a) c := by
  cases md with
  | fl =>
    obtain ⟨rfl, vs, ds, rfl, h1, h2⟩ := h
    exact ⟨hG a List.mem_cons_self, .dK (.inl h1) (h2.mono hS fun _ _ => rfl)⟩
  | ns o i =>
    obtain ⟨nd, cs, h1, h2⟩ := h
    exact ⟨h2.tin (hG a List.mem_cons_self), h2.dv h1 hS fun g hg => hG g (List.mem_cons_of_mem _ hg)⟩
/-- behind what keeps the guarded -/
theorem RelG.ext (R : RelG md W S P a G j en c σ H) (e : Ext S (gP P a G) H S' P' H') (R' : Rel W S' P' en' σ' H') (hj : σ'[j]? = σ[j]?) (lk : LkSub en' en) : ∃ P2, P' = gP P2 a G ∧ Ext S P H S' P2 H' ∧ RelG md W S' P2 a G j en' c σ' H' := by
  have nS' : ∀ g ∈ a :: G, ¬ S' g := fun g hg h => (e.n g h).elim (R.nS g hg) fun z => z (.inr hg)
  have eq : P' = gP (fun x => P' x ∧ x ∉ a :: G) a G := by
    funext x
    refine propext ⟨fun h => ?_, fun h => h.elim And.left fun hx => e.p x (.inr hx)⟩
    by_cases hx : x ∈ a :: G
    · exact .inr hx
    · exact .inl ⟨h, hx⟩
  refine ⟨fun x => P' x ∧ x ∉ a :: G, eq, ⟨e.s, fun x h => ⟨e.p x (.inl h), fun hx => R.nP x hx h⟩, fun x h => e.h x (.inl h), fun x h => (e.n x h).imp id fun z w => z (.inl w)⟩, ⟨?_, fun g hg h => h.2 hg, nS', hj.trans R.sj, R.ct.ext (fun g hg => e.h g (.inr hg)) e.s (fun b h => e.h b (R.r.sp b h)), R.nl.sub lk⟩⟩
  rw [← eq]
  exact R'
/-- an expression that does not see it -/
theorem RelG.use {ra : Run} {Φ : Op × En → Prop} [sh : ShRun ra] (R : RelG md W S P a G j en c σ H) (w : (ra en).wp Φ)
    (k : ∀ r v H' S' P', Ext S P H S' P' H' → RelG md W S' P' a G j r.2 c σ H' → OpOk W S' (gP P' a G) r.2 σ H' v r.1 → Φ r → Q v H') : TV W ra σ H Q := by
  refine ⟨S, gP P a G, en, R.r, T.wp_mono (T.wp_all w (sh.sh en)) fun r ⟨q, lk⟩ v H' S' P' e R' ok => ?_⟩
  obtain ⟨P2, rfl, e2, R2⟩ := R.ext e R' rfl lk
  exact k r v H' S' P2 e2 R2 ok q
/-! ### what sees it: expressions whose result is plain -/
def fzE (en : En) : En := en.map fun s => match s with
  | some (.fz, d) => some (.fz, d)
  | _ => none
def cln : D → Bool
  | .tup ds => ds.all flat
  | d => flat d
def ldG (j : Nat) (ra : Run) (s : En × D) : T D := (ra ((fzE s.1).set j (some (.fz, s.2)))).bind fun r => T.ofOpt ((valO r.1).bind fun d => if cln d then some d else none)
theorem fzE_get {i : Nat} {f : Fg} {d : D} (h : (fzE en)[i]? = some (some (f, d))) : f = .fz ∧ en[i]? = some (some (.fz, d)) := by
  unfold fzE at h
  rw [List.getElem?_map] at h
  cases e : en[i]? with
  | none => rw [e] at h; cases h
  | some s =>
    rw [e] at h
    cases s with
    | none => cases h
    | some fd =>
      obtain ⟨f', d'⟩ := fd
      cases f' with
      | fz => cases h; exact ⟨rfl, rfl⟩
      | ow => cases h
      | lk => cases h
theorem cln_dz {S2 : Addr → Prop} (h : cln d = true) (dv : Dv W S2 H v d) (ht : ∀ a xs, H a = some (.tup xs) → S a) : Dz W S H v d := by
  have fl : ∀ {vs : List V} {ds : List D}, DvL W S2 H vs ds → (∀ d ∈ ds, flat d = true) → DvL W S H vs ds := by
    intro vs ds dl
    induction ds generalizing vs with
    | nil => intro _; cases dl; exact .nil
    | cons d ds ih =>
      intro hf
      cases dl with
      | cons t x r =>
        have z : Dz W S H _ d := flat_tin (hf d List.mem_cons_self) x
        exact .cons z.1 z.2 (ih r fun y hy => hf y (List.mem_cons_of_mem _ hy))
  cases d with
  | tup ds =>
    have h : ds.all flat = true := h
    rw [List.all_eq_true] at h
    cases dv with
    | tup hs dl => exact ⟨trivial, .tup (hs.imp (fun ⟨_, q⟩ => ⟨ht _ _ q, q⟩) id) (fl dl h)⟩
  | _ => exact flat_tin h dv
theorem RelG.look {ra : Run} {Φ : D → Prop} (R : RelG md W S P a G j en c σ H) (w : (ldG j ra (en, c)).wp Φ)
    (k : ∀ d v H' S' P', Ext S P H S' P' H' → RelG md W S' P' a G j en c σ H' → Dz W S' H' v d → Φ d → Q v H') : TV W ra σ H Q := by
  let S2 : Addr → Prop := fun x => S x ∨ x ∈ a :: G
  have sP : ∀ x, S2 x → Pall W H x := fun x h => h.elim (fun h => ⟨R.r.dom x h, fun z => R.r.drP.1 (R.r.sp _ (z ▸ h)), R.r.drP.2.nb (R.r.sp _ h)⟩) fun h => ⟨R.r.pd x (.inr h), fun z => R.r.drP.1 (z ▸ .inr h), R.r.drP.2.nb (.inr h)⟩
  have R2 : Rel W S2 (Pall W H) ((fzE en).set j (some (.fz, c))) σ H := by
    refine ⟨sP, fun x h => h.1, fun i f d e => ?_, fun i k f g d e v h1 h2 h3 => ?_, ?_, R.r.dr, ⟨fun h => h.2.1 rfl, ⟨fun h => h.2.2.1 rfl, fun x hx h => h.2.2.2 x hx rfl⟩⟩, R.r.tb.sub fun x h => .inl h⟩
    · rcases set_get e with ⟨rfl, q⟩ | ⟨ne, q⟩
      · cases q
        have dz := R.ct.dv (S' := S2) (fun _ h => .inl h) fun g hg => .inr hg
        exact ⟨.ref a, R.sj, dz.2, fun _ => dz.1, fun z => absurd rfl z⟩
      · obtain ⟨rfl, q2⟩ := fzE_get q
        obtain ⟨v, hv, dv, t, _⟩ := R.r.slot i .fz d q2
        exact ⟨v, hv, dv.mono (fun _ h => .inl h) (fun _ _ => rfl) (by cases v <;> cases d <;> first | exact trivial | exact rfl), fun z => (t z).mono fun _ h => .inl h, fun z => absurd rfl z⟩
    · rcases set_get h1 with ⟨_, q⟩ | ⟨_, q⟩
      · cases q; exact absurd rfl h3
      · exact absurd (fzE_get q).1 h3
    · rw [List.length_set]
      unfold fzE
      rw [List.length_map]
      exact R.r.len
  refine ⟨S2, Pall W H, _, R2, T.wp_mono ((T.wp_bind _ _ _).mp w) fun r q v H' S' P' e R' ok => ?_⟩
  obtain ⟨d, hd, q⟩ := T.wp_ofOpt q
  obtain ⟨d', hv, hd⟩ := Option.bind_eq_some_iff.mp hd
  split at hd
  · rename_i hc
    cases hd
    obtain ⟨S4, P4, e4, R4, dz⟩ := ok.valz R' hv
    obtain ⟨S3, P3, e3, R3⟩ := R.r.widen (fun x o n1 n2 h => by rw [e.h x ⟨⟨o, h⟩, n1, n2⟩]; exact h) R'.dr R'.tb.1
    obtain ⟨P2, rfl, e5, R5⟩ := R.ext e3 R3 rfl (LkSub.refl _)
    exact k d v H' S3 P2 e5 R5 (cln_dz hc dz.2 R3.tb.2) q
  · cases hd
/-- a guarded object is changed -/
theorem RelG.mut {u o : HO} (R : RelG md W S P a G j en c σ H) (hg : g ∈ a :: G) (ho : H g = some o) (nx : NX o) (nu : ∀ xs, u ≠ .tup xs := by intro _ z; cases z) : Ext S P H S P (upd H g u) ∧ Rel W S (gP P a G) en σ (upd H g u) := by
  have pg : gP P a G g := .inr hg
  obtain ⟨R2, f2⟩ := R.r.turn (u := u) pg (R.nS g hg) (fun i d e => absurd e (R.nl i d)) (Tabs.upd R.r.tb ho nx nu)
  have R3 := R2.guard f2 (u := u) upd_same
  have eq : add (fun x => gP P a G x ∧ x ≠ g) g = gP P a G := by
    funext x
    refine propext ⟨fun h => h.elim And.left fun z => z ▸ pg, fun h => ?_⟩
    by_cases z : x = g
    · exact .inr z
    · exact .inl ⟨h, z⟩
  rw [eq] at R3
  exact ⟨⟨fun _ h => h, fun _ h => h, fun x h => upd_ne fun z => R.nP g hg (z ▸ h), fun _ h => .inl h⟩, R3⟩
end
end Sx
set_option Elab.async false
set_option linter.all false
set_option maxRecDepth 100000
set_option maxHeartbeats 4000000
set_option autoImplicit false
namespace Sx
open PySem L2 PyProof.Rows
abbrev RunD := En × D → T (En × D)
def PostD (md : Md) (W : Wd) (j : Nat) (D : Ends) (S P : Addr → Prop) (H : Hp) (r : En × Sx.D) : Prop := ∀ σ' H' S' P' a G, Ext S P H S' P' H' → RelG md W S' P' a G j r.1 r.2 σ' H' → D.nx σ' H'
def TVSD (md : Md) (W : Wd) (j : Nat) (run : RunD) : TS := fun D σ H => ∃ S P a G en c, RelG md W S P a G j en c σ H ∧ (run (en, c)).wp (PostD md W j D S P H)
def dNx : RunD := fun s => .ret s
def dSeq (ra rb : RunD) : RunD := fun s => (ra s).bind rb
def dSet (i : Nat) (ra : Run) : RunD := fun s => (ra s.1).bind fun r => (T.ofOpt (putO i r)).bind fun e => .ret (e, s.2)
def dForL (t : Tg) (rb : RunD) : List D → RunD
  | [] => fun s => .ret s
  | d :: ds => fun s => (T.ofOpt (t d s.1)).bind fun en => (rb (en, s.2)).bind fun r => dForL t rb ds r
def dFor (ri : RunI) (t : Tg) (rb : RunD) : RunD := fun s => (ri s.1).bind fun a => dForL t rb a.1 (a.2, s.2)
/-- a walk whose objects are shared -/
def TVIS (W : Wd) (run : RunI) : TI := fun σ H R => ∃ S P en, Rel W S P en σ H ∧ (run en).wp fun r => ∀ J H' S' P', Ext S P H S' P' H' → Rel W S' P' r.2 σ H' → Walks W S' S' H' J r.1 → R J H'
section
variable {md : Md} {W : Wd} {S P S' P' : Addr → Prop} {a g0 : Addr} {G : List Addr} {j : Nat} {en en' : En} {c d : D} {σ σ' : L2.St} {H H' : Hp} {X : Cx} {v : V} {Q : VK} {Dn : Ends} {st : Stmt} {sts : List Stmt} {ra rb : RunD} {e : Expr} {pos p' : Pos} {x : Str} {re : Run}
theorem RelG.sp (R : RelG md W S P a G j en c σ H) : ∀ x, S x → P x := fun x h => (R.r.sp x h).elim id fun z => absurd h (R.nS x z)
theorem PostD.ext {r : En × D} (h : PostD md W j Dn S P H r) (x : Ext S P H S' P' H') : PostD md W j Dn S' P' H' r := fun σ' H2 S2 P2 a G e2 R2 => h σ' H2 S2 P2 a G (x.trans e2) R2
theorem zd_nil : PSs X [] (TVSD md W j dNx) := pss_weak pss_nil fun D σ H h => by
  obtain ⟨S, P, a, G, en, c, R, w⟩ := h
  exact w σ H S P a G .refl R
theorem zd_cons (h1 : PS X st (TVSD md W j ra)) (h2 : PSs X sts (TVSD md W j rb)) : PSs X (st :: sts) (TVSD md W j (dSeq ra rb)) := pss_weak (pss_cons h1 h2) fun D σ H h => by
  obtain ⟨S, P, a, G, en, c, R, w⟩ := h
  have w := (T.wp_bind _ _ _).mp w
  exact ⟨S, P, a, G, en, c, R, T.wp_mono w fun r q σ' H' S' P' a' G' e R' => ⟨S', P', a', G', r.1, r.2, R', T.wp_mono q fun r q => q.ext e⟩⟩
theorem putO_lk {i : Nat} {r : Op × En} {e : En} (h : putO i r = some e) : LkSub e r.2 := by
  obtain ⟨o, en⟩ := r
  unfold putO at h
  split at h
  · cases o with
    | v d => cases h; exact LkSub.set (fun d z => by cases z)
    | fr d => cases h; exact LkSub.set (fun d z => by cases z)
    | b i => cases h
  · cases h
theorem zd_set (i : Nat) [sh : ShRun re] (hij : i ≠ j) (hNd : X.N.Nodup) (he : PE X e (TV W re)) (hN : X.N[i]? = some x := by rfl) (hx : Loc X.env.scope x := by first | exact Or.inl rfl | exact Or.inr rfl) (hs : swapsWith e (some (.Name x p')) pos.line X.env = pure false := by rfl)
    (hf : X.fn x = true ∨ X.env.scope.names.lookup x = some .local := by exact Or.inl rfl) : PS X (.Assign [.Name x p'] e pos) (TVSD md W j (dSet i re)) := ps_weak (ps_set hNd hN hx he hs hf) fun D σ H h => by
  obtain ⟨S, P, a, G, en, c, R, w⟩ := h
  refine ⟨S, gP P a G, en, R.r, T.wp_mono (T.wp_all ((T.wp_bind _ _ _).mp w) (sh.sh en)) fun r ⟨q, lk⟩ v H' S' P' e R' ok => ?_⟩
  obtain ⟨e', he, q⟩ := T.wp_ofOpt ((T.wp_bind _ _ _).mp q)
  obtain ⟨P2, rfl, e2, R2⟩ := R.ext e (ok.put R' he) (List.getElem?_set_ne hij) ((putO_lk he).trans lk)
  exact q _ H' S' P2 a G e2 R2
end
/-! ### for -/
section
variable {md : Md} {W : Wd} {S P S' P' : Addr → Prop} {a : Addr} {G : List Addr} {j : Nat} {en en' : En} {c d : D} {σ σ' : L2.St} {H H' : Hp} {X : Cx} {v : V} {Q : VK} {ri : RunI} {rb : RunD} {g : TG} {t : Tg} {is : List Nat} {td : TE} {pa : L2.St → Hp → Option Addr} {pth : Pth}
theorem tv_forG [si : ShIt ri none] [st : ShTg t is] (gk : GOk W g t is) (hj : j ∉ is) {Dd : Ends} (h : TVSD md W j (dFor ri t rb) Dd σ H) : tFor (TVIS W ri) g (TVSD md W j rb) Dd σ H := by
  obtain ⟨S, P, a, G, en, c, R, w⟩ := h
  refine ⟨S, gP P a G, en, R.r, T.wp_mono (T.wp_all ((T.wp_bind _ _ _).mp w) (si.sh en)) fun r ⟨q, lk⟩ J H1 S1 P1 e1 R1 wk => ?_⟩
  have lk : LkSub r.2 en := lk r.2 (LkSub.refl _)
  obtain ⟨P1, rfl, f1, G1⟩ := R.ext e1 R1 rfl lk
  have q : (dForL t rb r.1 (r.2, c)).wp (PostD md W j Dd S P H) := q
  refine ⟨fun i m σ2 H2 => i ≤ r.1.length ∧ m = r.1.length - i ∧ ∃ S2 P2 a2 G2 en2 c2, Ext S1 P1 H1 S2 P2 H2 ∧ RelG md W S2 P2 a2 G2 j en2 c2 σ2 H2 ∧ (dForL t rb (r.1.drop i) (en2, c2)).wp (PostD md W j Dd S P H), ⟨_, Nat.zero_le _, rfl, S1, P1, a, G, r.2, c, .refl, G1, q⟩, ?_⟩
  rintro i m σ2 H2 ⟨hi, rfl, S2, P2, a2, G2, en2, c2, e2, R2, w2⟩
  have st1 : ∀ x, S1 x → H2 x = H1 x := fun x h => e2.h x (G1.sp x h)
  by_cases hlt : i < r.1.length
  · refine .inr ⟨wk.go i H2 st1 hlt, fun σ3 H3 => ∃ S3 P3 a3 G3 en3 c3, Ext S1 P1 H1 S3 P3 H3 ∧ RelG md W S3 P3 a3 G3 j en3 c3 σ3 H3 ∧ (dForL t rb (r.1.drop (i + 1)) (en3, c3)).wp (PostD md W j Dd S P H), fun σ3 H3 z => ⟨r.1.length - (i + 1), by omega, hlt, rfl, z⟩, fun x H3 y => ?_⟩
    obtain ⟨d, S3, P3, hd, e3, R3, dz⟩ := wk.turn R2.r e2.s (fun x h => ⟨.inl (R2.sp x (e2.s x h)), st1 x h⟩) hlt y
    have hdrop : r.1.drop i = d :: r.1.drop (i + 1) := by
      have z := List.getElem?_eq_getElem hlt
      rw [hd] at z
      rw [List.drop_eq_getElem_cons hlt, ← Option.some.inj z]
    rw [hdrop] at w2
    obtain ⟨en3, ht, w3⟩ := T.wp_ofOpt ((T.wp_bind _ _ _).mp w2)
    refine gk S3 P3 en2 en3 x d σ2 H3 _ R3 dz ht fun σ3 hσ _ R4 => ?_
    obtain ⟨P4, rfl, f4, G4⟩ := R2.ext e3 R4 (hσ j hj) (st.sh d en2 en3 ht).1
    refine ⟨S3, P4, a2, G2, en3, c2, G4, T.wp_mono ((T.wp_bind _ _ _).mp w3) fun r4 q4 σ5 H5 S5 P5 a5 G5 e5 R5 => ?_⟩
    exact ⟨S5, P5, a5, G5, r4.1, r4.2, e2.trans (f4.trans e5), R5, q4⟩
  · have ei : i = r.1.length := by omega
    subst ei
    rw [List.drop_length] at w2
    exact .inl ⟨wk.stop _ H2 st1 (Nat.le_refl _), w2 σ2 H2 S2 P2 a2 G2 (f1.trans e2) R2⟩
theorem zd_for {tg iter : Expr} {b : List Stmt} {pos : Pos} [si : ShIt ri none] [st : ShTg t is] (hj : j ∉ is) (hi : PI X tg iter (TVIS W ri)) (hg : PG X tg g) (gk : GOk W g t is) (hb : PSs X b (TVSD md W j rb)) (hp : PassesOwn (model X.prog X.w) X.A X.env X.xe := by exact PassesOwn.never) (hc : X.calm = true := by rfl) (hs : ∀ x, foldedSetIterable iter X.env x = pure x := by intro _; rfl) :
    PS X (.For tg iter b [] pos) (TVSD md W j (dFor ri t rb)) := ps_weak (ps_for hp hc hi hg hb (hs := hs)) fun Dd σ H h => tv_forG gk hj h
/-! what is walked: shared lists, tuples, texts; the keys of a dict -/
theorem Cont.keeps (k : Keeps H H') (h : Cont md W S H a G c) (hg : ∀ g ∈ a :: G, H' g = H g) : Cont md W S H' a G c := by
  cases md with
  | fl =>
    obtain ⟨rfl, vs, ds, rfl, h1, h2⟩ := h
    exact ⟨rfl, vs, ds, rfl, (hg a List.mem_cons_self).trans h1, DvP.keeps k h2⟩
  | ns o i =>
    obtain ⟨nd, cs, h1, h2⟩ := h
    refine ⟨nd, cs, InL.map (fun g hG c hc => ?_) h1, h2.ext (hg a List.mem_cons_self)⟩
    cases i with
    | l => obtain ⟨vs, ds, e, q1, q2⟩ := hc; exact ⟨vs, ds, e, (hg g (List.mem_cons_of_mem _ hG)).trans q1, DvL.keeps k q2⟩
    | d => obtain ⟨vs, ds, e, q1, q2⟩ := hc; exact ⟨vs, ds, e, (hg g (List.mem_cons_of_mem _ hG)).trans q1, DvP.keeps k q2⟩
theorem RelG.keeps (k : Keeps H H') (R : RelG md W S P a G j en c σ H) (hg : ∀ g ∈ a :: G, H' g = H g) : RelG md W S P a G j en c σ H' := ⟨R.r.keeps k, R.nP, R.nS, R.sj, R.ct.keeps k hg, R.nl⟩
end
/-! ### from the making to the end: the dict is the name's own -/
section
variable {W : Wd} {S P : Addr → Prop} {a : Addr} {G : List Addr} {j : Nat} {en : En} {c : D} {σ : L2.St} {H : Hp} {X : Cx} {body : RunD} {r2 : RunS} {s0 s1 : Stmt} {sts : List Stmt}
theorem RelG.close (R : RelG .fl W S P a G j en c σ H) : Rel W S P (en.set j (some (.ow, c))) σ H := by
  obtain ⟨rfl, vs, ds, rfl, h1, h2⟩ := R.ct
  have hH : upd H a (.dK vs) = H := by
    funext x
    by_cases z : x = a
    · rw [z, upd_same, h1]
    · rw [upd_ne z]
  obtain ⟨R2, f2⟩ := R.r.turn (p := a) (u := .dK vs) (.inr List.mem_cons_self) (R.nS a List.mem_cons_self) (fun i d e => absurd e (R.nl i d)) (by rw [hH]; exact R.r.tb)
  rw [hH] at R2
  have eq : (fun x => gP P a [] x ∧ x ≠ a) = P := by
    funext x
    refine propext ⟨fun ⟨h, n⟩ => h.elim id fun z => absurd (List.mem_singleton.mp z) n, fun h => ⟨.inl h, fun z => R.nP a List.mem_cons_self (z ▸ h)⟩⟩
  rw [eq] at R2 f2
  have hj : j < en.length := by rw [R.r.len]; exact lt_of_get R.sj
  have R3 := R2.take hj (.dK (.inl h1) h2) f2 h1
  rw [set_set_same R2 j _ R.sj] at R3
  exact R3
def sDeep (j : Nat) (body : RunD) : RunS := fun en => if j < en.length ∧ (en.all fun s => match s with | some (.lk, _) => false | _ => true) then (body (en.set j none, .dK [])).bind fun r => .ret (.nx, r.1.set j (some (.ow, r.2))) else .fail
theorem nlk_of {en : En} (h : (en.all fun s => match s with | some (.lk, _) => false | _ => true) = true) : NLk en := fun i d e => by
  have := List.all_eq_true.mp h _ (List.mem_of_getElem? e)
  cases this
end
end Sx
set_option Elab.async false
set_option linter.all false
set_option maxRecDepth 100000
set_option maxHeartbeats 4000000
set_option autoImplicit false
namespace Sx
open PySem L2 PyProof.Rows
/-! ### o[k] of an own object whose class has an own __getitem__ -/
section
variable {prog : Program} {w : World} {A : Around} {E : Value → Shared → Prop} {s : Shared} {K : PySem.W.Frag} {x C f : Addr} {ox : Obj} {od : Option Obj}
theorem sub_own {value slice : Expr} {i : Value} {Q : Value → Shared → Prop} (kin : K.In s.heap) (I : PySem.W.InstAt s.heap x ox C od) (hs : PySem.W.findIn K (.ref C) "__getitem__" = some (some (.ref f))) {o2 : Obj} {fd : FuncData} (hl : K.lookup f = some o2) (hd : o2.data = .func fd) (hfn : PySem.W.isFn K (.ref f) = true)
    (h : wpAny (model prog w) A.in1 (call (.ref f) [.ref x, i]) Q E s) (hsl : subscripted slice true (.ref x) i = runValue (.builtin "lifetime.subscript" ⟨[.ref x, i], []⟩)) : wpAny (model prog w) A (subscriptTail value slice (.ref x) i) Q E s := by
  unfold subscriptTail getitemInPython
  refine wpAny_bind (wpAny_bind (wpAny_bind (I.type.here ((PySem.W.looks_findIn kin hs).here ?_))))
  refine wpAny_bind (wpAny_load (kin _ _ hl) (wpAny_pure ?_))
  rw [hd]
  dsimp only
  rw [hsl]
  refine wpAny_bind (wpAny_runValue (codeAny_builtin PySem.W.entry_sub ?_))
  unfold Builtin.«lifetime.subscript»
  refine wpAny_bind (PySem.W.special_fn kin I hs (beq_iff_eq.mp hfn) (wpAny_mono h (fun v s' z => wpAny_pure ?_) fun _ _ z => z))
  exact wpAny_bind (wpAny_letTemporaryGo (wpAny_pure z))
end
def rIxI (C : Addr) (sp : Sp) : R2 := fun x y H Q => ∃ a dx fs, x = .ref a ∧ H a = some (.ins C dx fs) ∧ sp [.ref a, y] H Q E0
section
variable {X : Cx} {k : Nat} {C f : Addr} {fd : FuncData} {ps : List Str} {q qual : Str} {st : Stmt}
theorem pe_ixI {sp : Sp} {a b : Expr} {ta tb : TE} {pos : Pos} (Fu : Fun X.K q qual st f fd) (hs : PySem.W.findIn X.K (.ref C) "__getitem__" = some (some (.ref f))) (hf : PySem.W.isFn X.K (.ref f) = true) (F : FnG X.prog X.w X.K X.mg X.base CX0 k f fd ps sp) (hr : Room (k + 1) X.A) (hg : NoG X.A) (hb : Binds X.K fd ps [])
    (ha : PE X a ta) (hbb : PE X b tb) (hsl : ∀ v u, subscripted b true v u = runValue (.builtin "lifetime.subscript" ⟨[v, u], []⟩)) : PE X (.Subscript a b pos) (tOp (rIxI C sp) ta tb) := by
  refine ⟨fun pins s σ H Q I h => ?_⟩
  refine Subscript_ (binT ha hbb I h fun v u s2 x y H2 I2 rx ry q => ?_)
  obtain ⟨p, dx, fs, rfl, hp, w⟩ := q
  cases (show v = Value.ref p from rx)
  obtain ⟨mA, O, _⟩ := ins_get I2.hok hp
  obtain ⟨od, J, _⟩ := O.look
  obtain ⟨oc, odd, kV, doc, pm, an, cdv, ct, osl, rfl, lk, hcd⟩ := Fu.ex
  refine sub_own I2.kIn J hs lk rfl hf (wpAny_call ?_) (hsl _ _)
  have hl := F.len _ _ _ _ w
  have bd := hb s2 [.ref p, u] I2.kIn (by simpa using hl)
  refine codeAny_mono (F.go (A := X.A.in1) (vs := [V.ref p, y]) (us := [Value.ref p, u]) hr.in1 hg I2.env0.in1 bd (.cons rfl (.cons ry .nil)) w) fun fl s' z => ?_
  cases fl with
  | error er => exact z.elim
  | ok fl => cases fl with
    | ret u => exact I2.after z
    | _ => exact False.elim z
end
def rIxO (c0 : Nat) (fn : Fn) (ra rb : Run) : Run := fun en => (ra en).bind fun a => (rb a.2).bind fun b => match a.1.fz, b.1.fz with
  | .v (.obj c fs), .v d => if c = c0 then (fn [.obj c fs, d]).bind fun r => T.ret (mkO r, b.2) else .fail
  | _, _ => .fail
section
variable {W : Wd} {X : Cx} {k : Nat} {a b : Expr} {ra rb : Run} {pos : Pos} {q qual : Str} {st : Stmt}
theorem tv_ixO {c0 : Nat} {fn : Fn} {cls : CT} {σ : L2.St} {H : Hp} {Q : VK} (hcl : W.cls = cls) (h : TV W (rIxO c0 fn ra rb) σ H Q) : TV W ra σ H fun x H1 => TV W rb σ H1 fun y H2 => rIxI (cls c0) (spR W.K cls 2 fn) x y H2 Q := by
  obtain ⟨S, P, en, R, w⟩ := h
  refine TV.use R w fun c v H1 S1 P1 e1 R1 p1 q => ?_
  refine TV.use R1 q fun c2 u H2 S2 P2 e2 R2 p2 q2 => ?_
  have p1 := p1.ext R1 e2
  have q3 : ((match c.1.fz, c2.1.fz with
      | .v (.obj c fs), .v d => if c = c0 then (fn [.obj c fs, d]).bind fun r => T.ret (mkO r, c2.2) else .fail
      | _, _ => .fail) : T (Op × En)).wp _ := q2
  split at q3
  · rename_i i fs d h1 h2
    rw [h1] at p1
    rw [h2] at p2
    split at q3
    · rename_i hc
      subst hc
      subst hcl
      obtain ⟨p, dx, fv, rfl, ha, dp⟩ := p1.2.obj_at
      refine ⟨p, dx, fv, rfl, ha, rfl, W, S2, [.obj i fs, d], rfl, rfl, R2.dr, R2.tb, R2.dom, fun w => R2.drP.1 (R2.sp _ w), R2.drP.2.sub R2.sp, .cons p1.1 p1.2 (.cons p2.1 p2.2 .nil), T.wp_mono ((T.wp_bind _ _ _).mp q3) fun r q v H' S' P' e ro ok => ?_⟩
      obtain ⟨e5, R5, ok5⟩ := R2.call e ro ok
      exact q _ H' S' _ (e1.trans (e2.trans e5)) R5 ok5
    · exact q3.elim
  · exact q3.elim
theorem e_ixO {c0 : Nat} {f : Addr} {fd : FuncData} {ps : List Str} {fn : Fn} {cls : CT} (F : FnG X.prog X.w X.K X.mg X.base CX0 k f fd ps (spR X.K cls 2 fn)) (Fu : Fun X.K q qual st f fd) (hs : PySem.W.findIn X.K (.ref (cls c0)) "__getitem__" = some (some (.ref f))) (hf : PySem.W.isFn X.K (.ref f) = true)
    (hcl : W.cls = cls) (hK : X.K = W.K) (hr : Room (k + 1) X.A) (hg : NoG X.A) (hb : Binds X.K fd ps []) (ha : PE X a (TV W ra)) (hbb : PE X b (TV W rb)) (hsl : ∀ v u, subscripted b true v u = runValue (.builtin "lifetime.subscript" ⟨[v, u], []⟩) := by exact fun _ _ => rfl) : PE X (.Subscript a b pos) (TV W (rIxO c0 fn ra rb)) :=
  pe_weak (pe_ixI Fu hs hf F hr hg hb ha hbb hsl) fun _ _ _ h => by rw [hK]; exact tv_ixO hcl h
instance {c0 : Nat} {fn : Fn} [h : ShRun ra] [g : ShRun rb] : ShRun (rIxO c0 fn ra rb) := ⟨fun en => all_seq (h.sh en) fun a => all_seq (g.sh a.2) fun b => by
  split
  · split
    · exact T.all_bind (T.all_triv fun _ => LkSub.refl _)
    · trivial
  · trivial⟩
instance {rc : Run} [h : ShRun ra] [g : ShRun rb] [i : ShRun rc] : ShRun (rGet ra rb rc) := ⟨fun en => all_seq (h.sh en) fun a => T.all_bind (T.all_ofOpt fun _ _ => all_seq (g.sh a.2) fun b => all_seq (i.sh b.2) fun c => T.all_bind (T.all_ofOpt fun _ _ => T.all_bind (T.all_ofOpt fun _ _ => T.all_bind (T.all_ofOpt fun _ _ => LkSub.refl _))))⟩
end
end Sx
set_option Elab.async false
set_option linter.all false
set_option maxRecDepth 100000
set_option maxHeartbeats 4000000
set_option autoImplicit false
namespace Sx
open PySem L2 PyProof.Rows
/-! ### statements over a dict that stands in a name's tuple -/
section
variable {W : Wd} {X : Cx} {pos : Pos} {td : TE} {gd : L2.St → Hp → Addr → Prop} {pth : Pth}
end
/-! the same while a dict is built -/
section
variable {md : Md} {W : Wd} {S P S' P' : Addr → Prop} {j : Nat} {σ : L2.St} {H : Hp} {X : Cx} {pos : Pos} {td : TE} {gd : L2.St → Hp → Addr → Prop} {pth : Pth} {rb : RunD} {g : TG} {t : Tg} {is : List Nat}
end
end Sx
set_option Elab.async false
set_option linter.all false
set_option maxRecDepth 100000
set_option maxHeartbeats 4000000
set_option autoImplicit false
namespace L2
open PySem PySem.Spec PyProof.Rows
section
variable {X : Cx}
end
end L2
namespace Sx
open PySem L2
section
variable {W : Wd} {X : Cx} {pos : Pos} {td : TE} {pa : St → Hp → Option Addr} {pth : Pth} {ri : RunI} {l : Option Nat} {rk re : Run}
end
end Sx
set_option Elab.async false
set_option linter.all false
set_option maxRecDepth 100000
set_option maxHeartbeats 4000000
set_option autoImplicit false
namespace Sx
open PySem L2
/-! ### texts: split, startswith, str(x), int(text) -/
def fSplit (x : Str) (ds : List D) : Option (Bool × D) := match ds with
  | [.str b] => if (b.length == 0) = false ∧ x.length ≤ 65536 then some1 (.lst (Sl (Txt.split x b))) else none
  | _ => none
def fStarts (x : Str) (ds : List D) : Option (Bool × D) := match ds with
  | [.str b] => some0 (.bl (Txt.startswith x b))
  | _ => none
def fStr (ds : List D) : Option (Bool × D) := match ds with
  | [.int i] => if i.natAbs.log2 < 1920 then some0 (.str (toString i)) else none
  | [.str a] => some0 (.str a)
  | _ => none
def fIntS (ds : List D) : Option (Bool × D) := match ds with
  | [.str a] => if a.length ≤ 640 then (PySem.intText? a).bind fun n => some0 (.int n) else none
  | _ => none
section
variable {W : Wd} {S P : Addr → Prop} {en : En} {σ : L2.St} {H : Hp} {X : Cx} {ra re : Run} {o e : Expr} {apos pos : Pos}
theorem dvl_strs : ∀ l : List Str, DvL W S H (l.map V.str) (Sl l)
  | [] => .nil
  | x :: l => .cons trivial (.str x) (dvl_strs l)
theorem p_split (x : Str) : PureN W (fun vs H Q => ∃ a b, V.str x = .str a ∧ vs = [.str b] ∧ (b.length == 0) = false ∧ a.length + 2 ≤ sizeLine ∧ rNewStrs (Txt.split a b) H Q) (fSplit x) := by
  intro S H vs ds c Q hd h hf r
  unfold fSplit at hf
  split at hf
  · obtain ⟨v, rfl, dv⟩ := h.one
    split at hf
    · rename_i hl
      cases hf
      cases dv
      refine ⟨x, _, rfl, rfl, hl.1, ?_, PRes.lst hd (dvl_strs _) r⟩
      have := sizeLine_eq
      omega
    · cases hf
  · cases hf
theorem p_starts (x : Str) : PureN W (fun vs H Q => ∃ a b, V.str x = .str a ∧ vs = [.str b] ∧ Q (.bl (Txt.startswith a b)) H) (fStarts x) := by
  intro S H vs ds c Q hd h hf r
  unfold fStarts at hf
  split at hf
  · obtain ⟨v, rfl, dv⟩ := h.one
    cases hf
    cases dv
    exact ⟨x, _, rfl, rfl, r.bl hd⟩
  · cases hf
theorem m_split (hK : X.K = W.K) (ho : PE X o (TV W ra)) (he : PE X e (TV W re)) (hb : attributeBase o "split" X.env (eval o X.env) = eval o X.env := by rfl) (hf : few e X pos := by rfl) (hl : (apos.endLine == pos.line) = true := by rfl) (hs : starEach [e] X.env = (false, eval e X.env) :: starEach [] X.env := by rfl) (hp : (backTo pos (starEach [] X.env)).any (·.1) = false := by rfl) :
    PE X (.Call (.Attribute o "split" apos) [e] [] pos) (TV W (rStrM ra (rCons re rNil) fSplit)) :=
  pe_weak (pe_bm PySem.F.plainAttrs_str PySem.F.slot_str_split PySem.F.type_str_split mt_split ho (x_cons he x_nil hs) hb hf hl hs hp) fun _ _ _ h => by rw [hK]; exact tv_strM p_split h
theorem m_starts (hK : X.K = W.K) (ho : PE X o (TV W ra)) (he : PE X e (TV W re)) (hb : attributeBase o "startswith" X.env (eval o X.env) = eval o X.env := by rfl) (hf : few e X pos := by rfl) (hl : (apos.endLine == pos.line) = true := by rfl) (hs : starEach [e] X.env = (false, eval e X.env) :: starEach [] X.env := by rfl) (hp : (backTo pos (starEach [] X.env)).any (·.1) = false := by rfl) :
    PE X (.Call (.Attribute o "startswith" apos) [e] [] pos) (TV W (rStrM ra (rCons re rNil) fStarts)) :=
  pe_weak (pe_bm PySem.F.plainAttrs_str PySem.F.slot_str_startswith PySem.F.type_str_startswith mt_startswith ho (x_cons he x_nil hs) hb hf hl hs hp) fun _ _ _ h => by rw [hK]; exact tv_strM p_starts h
def rStrU : List V → Hp → VK → Prop := fun xs H Q => (∃ i, xs = [.int i] ∧ i.natAbs.log2 < 1920 ∧ Q (.str (toString i)) H) ∨ ∃ a, xs = [.str a] ∧ Q (.str a) H
theorem call_strU : CallR X (.type "str") rStrU := fun pins s σ H xs us Q I r h => h.elim (fun h => call_str_int pins s σ H xs us Q I r h) fun h => SkE.call_str_str pins s σ H xs us Q I r h
theorem p_str : PureN W rStrU fStr := by
  intro S H vs ds c Q hd h hf r
  unfold fStr at hf
  split at hf
  · obtain ⟨v, rfl, dv⟩ := h.one
    split at hf
    · rename_i hl
      cases hf
      cases dv
      exact .inl ⟨_, rfl, hl, r.str hd⟩
    · cases hf
  · obtain ⟨v, rfl, dv⟩ := h.one
    cases hf
    cases dv
    exact .inr ⟨_, rfl, r.str hd⟩
  · cases hf
theorem p_intS : PureN W (fun xs H Q => ∃ a n, xs = [.str a] ∧ PySem.intText? a = some n ∧ a.length ≤ 640 ∧ Q (.int n) H) fIntS := by
  intro S H vs ds c Q hd h hf r
  unfold fIntS at hf
  split at hf
  · obtain ⟨v, rfl, dv⟩ := h.one
    split at hf
    · rename_i hl
      obtain ⟨n, hn, hf⟩ := Option.bind_eq_some_iff.mp hf
      cases hf
      cases dv
      exact ⟨_, n, rfl, hn, hl, r.int hd⟩
    · cases hf
  · cases hf
end
end Sx
set_option Elab.async false
set_option linter.all false
set_option maxRecDepth 100000
set_option maxHeartbeats 4000000
set_option autoImplicit false
/-! ### *xs, y = a list -/
namespace Sx
open PySem PySem.W PySem.Spec PySem.Calls PyProof.Rows
section
variable {prog : Program} {w : World} {A : Around} {E : Value → Shared → Prop} {s : Shared} {env : Env}
/-- the items of a list, all but the last as a new list -/
theorem star_items {l : Addr} {items : Array Value} {Q : List Value → Shared → Prop} (hl : s.heap.IsList l items) (hh : A.handled = none) (h1 : 1 ≤ items.size) (hz : items.size ≤ 16384)
    (h : ∀ h' tk, (∀ b o, s.heap.get? b = some o → h'.get? b = some o) → wpAny (model prog w) A (newList (items.toList.take (items.size - 1)) >>= fun d => pure ([] ++ [d] ++ items.toList.drop (items.size - 1))) Q E { s with heap := h', toks := tk }) :
    wpAny (model prog w) A (unpackItems (.ref l) 2 (some 0)) Q E s := by
  have hlt : l ≠ s.heap.objs.size := by obtain ⟨o, ho, _⟩ := hl; exact Nat.ne_of_lt (Heap.lt_size ho)
  unfold unpackItems
  refine wpAny_bind ?_
  unfold notIterableAtAll
  refine wpAny_bind (wpAny_specialOf hl.typeIs slot_list_iter.lookup ?_)
  refine wpAny_pure ?_
  simp only [Bool.false_eq_true, if_false]
  refine wpAny_bind (wpAny_holding (wpAny_pyIter_list hl ?_))
  refine wpAny_bind (wpAny_holding (kun_draw hlt 0 0 _ _ ⟨_, Heap.get?_push_size _ rfl, rfl, rfl⟩ (hl.push _) (by omega) fun h₁ hit₁ hs₁ => ?_))
  have hl₁ : h₁.IsList l items := (hl.push _).extBut hs₁.extBut hlt
  rw [Nat.zero_add] at hit₁
  have hit₁' := hit₁
  obtain ⟨oi, hoi, _⟩ := hit₁'
  have hl₁' := hl₁
  obtain ⟨ol, hol, _⟩ := hl₁'
  rw [List.drop_zero, List.take_zero]
  rw [if_neg (show ¬ (([] : List Value).length < 0) by simp)]
  refine wpAny_bind (wpAny_holding (kun_collect (s := { s with heap := h₁ }) (T := "list_iterator") (.inr (.inr (.inl rfl))) (Walks.list (A := A.in1) hh s.heap.objs.size l hlt items) (fun j u st => st.1.typeIs) (k := 0) (by omega) ⟨hit₁, hl₁⟩ (Heap.lt_size hoi) (Heap.lt_size hol) (fun h₂ tk hk => ?_) (by rw [sizeLine_eq]; omega)))
  rw [List.drop_zero]
  have hrl : items.toList.length = items.size := Array.length_toList
  show wpAny _ _ (if items.toList.length < 2 - 1 - 0 then _ else _) _ _ _
  rw [if_neg (by rw [hrl]; omega)]
  show wpAny _ _ (newList (items.toList.take (items.toList.length - (2 - 1 - 0))) >>= fun d => pure ([] ++ [d] ++ items.toList.drop (items.toList.length - (2 - 1 - 0)))) _ _ _
  rw [hrl]
  exact h h₂ tk fun b o e => hk b o (Nat.ne_of_lt (Heap.lt_size e)) (hs₁.extBut b o (Nat.ne_of_lt (Heap.lt_size e)) (Heap.get?_push_of_some _ e))
end
open L2
section
variable {X : Cx}
def gStar (K : PySem.W.Frag) (t : TGs) : TG := fun v σ H Q => ∃ a xs, v = .ref a ∧ SqL K H a xs ∧ 1 ≤ xs.length ∧ xs.length ≤ 16384 ∧ ∀ p, H p = none → t (.ref p :: xs.drop (xs.length - 1)) σ (upd H p (.lst (xs.take (xs.length - 1)))) Q
theorem pg_star {a b : Expr} {t : TGs} {k : Nat} {pos sp : Pos} (hc : X.calm = true) (h : PGs X [a, b] t) (hn : (assignEach [.Starred a sp, b] X.env).length = 2 := by rfl) (hst : (assignEach [.Starred a sp, b] X.env).findIdx? (·.1) = some 0 := by rfl)
    (hm : (assignEach [.Starred a sp, b] X.env).map (·.2) = (assignEach [a, b] X.env).map (·.2) := by rfl) : PG X (.Tuple [.Starred a sp, b] k pos) (gStar X.K t) := by
  refine ⟨fun pins s σ H v u Q I r hw => ?_⟩
  obtain ⟨l, xs, e1, hq, h1, h2, hw⟩ := hw
  subst e1
  cases r
  obtain ⟨its, rv, pl, hz⟩ := I.list hq
  have el := rv.length
  rw [assign_Tuple]
  refine wpAny_bind (wpAny_standAt ?_)
  unfold unpack
  rw [hn, hst, hm]
  refine wpAny_bind (wpAny_holding (star_items pl.isList (I.ok.hd hc) (by rw [List.size_toArray]; omega) (by rw [List.size_toArray]; omega) fun h' tk hk => ?_))
  have I1 : Inv X pins σ H { s with heap := h', toks := tk } := I.kept hk
  have le : its.toArray.size - 1 = xs.length - 1 := by rw [List.size_toArray]; omega
  rw [le]
  refine wpAny_bind (wpAny_newList ?_ (by rw [List.length_take]; have := sizeLine_eq; omega))
  refine wpAny_pure ?_
  have hf : H h'.objs.size = none := I1.hok.fresh (Nat.le_refl _)
  have I2 : Inv X pins σ (upd H h'.objs.size (.lst (xs.take (xs.length - 1)))) { s with heap := h'.push { cls := .type "list", data := .seq (its.take (xs.length - 1)).toArray }, toks := tk } :=
    I1.laid (fun b u e => Heap.get?_push_of_some _ e) (Nat.le_refl _) ⟨by rw [List.length_take]; omega, its.take (xs.length - 1), 0, rv.take _, Heap.get?_push_size _ rfl⟩
  have rr : Vals (.ref h'.objs.size :: xs.drop (xs.length - 1)) (.ref h'.objs.size :: its.drop (xs.length - 1)) := .cons rfl (rv.drop _)
  exact h.run pins _ σ _ _ _ _ I2 rr (hw _ hf)
end
end Sx
set_option Elab.async false
set_option linter.all false
set_option maxRecDepth 100000
set_option maxHeartbeats 4000000
set_option autoImplicit false
namespace Sx
open PySem L2
/-! ### *xs, y = a list: as data -/
def starD (i j : Nat) (d : D) (en : En) : Option En := match d with
  | .lst ds => match ds.drop (ds.length - 1) with
    | [y] => if ds.length ≤ 4096 ∧ i < en.length ∧ j < en.length then some ((en.set i (some (.fz, .lst (ds.take (ds.length - 1))))).set j (some (.fz, y))) else none
    | _ => none
  | _ => none
def sStar (i j : Nat) (ra : Run) : RunS := fun en => (ra en).bind fun a => (T.ofOpt (valO a.1)).bind fun d => (T.ofOpt (starD i j d a.2)).bind fun e => .ret (.nx, e)
section
variable {W : Wd} {S P : Addr → Prop} {en : En} {σ : St} {H : Hp} {X : Cx} {Dn : Ends} {e : Expr} {ra : Run} {pos p1 p2 sp tp : Pos} {x y : Str} {i j k : Nat}
theorem dvl_drop : ∀ (n : Nat) {vs : List V} {ds : List D}, DvL W S H vs ds → DvL W S H (vs.drop n) (ds.drop n)
  | 0, _, _, h => h
  | n + 1, _, _, h => by
    cases h with
    | nil => exact .nil
    | cons t d r => exact dvl_drop n r
theorem tvs_star (h : TVS W (sStar i j ra) Dn σ H) : tAsg (TV W ra) (gStar W.K (gCons (gName i) (gCons (gName j) gNil))) Dn σ H := by
  obtain ⟨S, P, en, R, w⟩ := h
  have w := (T.wp_bind _ _ _).mp w
  refine ⟨S, P, en, R, T.wp_mono w fun r q v H' S' P' e R' ok => ?_⟩
  obtain ⟨d, hd, q⟩ := T.wp_ofOpt ((T.wp_bind _ _ _).mp q)
  obtain ⟨en2, ht, q⟩ := T.wp_ofOpt ((T.wp_bind _ _ _).mp q)
  obtain ⟨S2, P2, e2, R2, dz⟩ := ok.valz R' hd
  cases d with
  | lst ds =>
    unfold starD at ht
    dsimp only at ht
    split at ht
    · rename_i y hy
      split at ht
      · rename_i hl
        cases ht
        obtain ⟨_, dv⟩ := dz
        cases dv with
        | @lst a xs _ ha dl =>
          have el := dl.len
          have n1 : 1 ≤ ds.length := by
            rcases Nat.lt_or_ge 0 ds.length with h | h
            · exact h
            · have : ds = [] := List.length_eq_zero_iff.mp (by omega)
              subst this
              cases hy
          refine ⟨a, xs, rfl, SqL.of ha, by omega, by omega, fun p hp => ?_⟩
          rw [el]
          obtain ⟨R3, fr, e3, nS, nP⟩ := R2.born (u := .lst (xs.take (ds.length - 1))) hp
          have hd3 : DomS S2 H' := R2.dom
          have dl3 : DvL W S2 (upd H' p (.lst (xs.take (ds.length - 1)))) xs ds := dl.upd hd3 hp
          have ok3 : OpOk W S2 P2 r.2 σ (upd H' p (.lst (xs.take (ds.length - 1)))) (.ref p) (.fr (.lst (ds.take (ds.length - 1)))) := ⟨.lst upd_same (dl3.take _), p, _, rfl, fr, upd_same⟩
          obtain ⟨S4, P4, e4, R4, dz4⟩ := ok3.valz R3 rfl
          have dr := dvl_drop (ds.length - 1) dl3
          rw [hy] at dr
          cases hxs : xs.drop (ds.length - 1) with
          | nil =>
            rw [hxs] at dr
            cases dr
          | cons z zs =>
            rw [hxs] at dr
            cases dr with
            | cons t1 d1 r1 =>
              cases r1
              have dzy : Dz W S4 (upd H' p (.lst (xs.take (ds.length - 1)))) z y := R3.top e4 ⟨t1, d1⟩
              have R5 := R4.put hl.2.1 dz4
              have R6 := R5.put (i := j) (by rw [List.length_set]; exact hl.2.2) dzy
              refine ⟨_, _, rfl, _, _, rfl, rfl, ?_⟩
              exact q _ _ S4 P4 (e.trans (e2.trans (e3.trans e4))) R6
      · cases ht
    · cases ht
  | _ => cases ht
theorem s_star (i j : Nat) (hc : X.calm = true) (hK : X.K = W.K) (hN : X.N.Nodup) (he : PE X e (TV W ra)) (ga : PG X (.Name x p1) (gName i)) (gb : PG X (.Name y p2) (gName j)) (hs : swapsWithSole [.Tuple [.Starred (.Name x p1) sp, .Name y p2] k tp] e pos.line X.env = pure false := by rfl) (hw : swappedStores [.Tuple [.Starred (.Name x p1) sp, .Name y p2] k tp] e X.env = pure none := by rfl)
    (h1 : (assignEach [.Tuple [.Starred (.Name x p1) sp, .Name y p2] k tp] X.env).map (·.2) = [assign (.Tuple [.Starred (.Name x p1) sp, .Name y p2] k tp) X.env] := by rfl) :
    PS X (.Assign [.Tuple [.Starred (.Name x p1) sp, .Name y p2] k tp] e pos) (TVS W (sStar i j ra)) :=
  ps_weak (ps_asg he (pg_star hc (pgs_cons ga (pgs_cons gb pgs_nil))) hs hw h1) fun _ _ _ h => by rw [hK]; exact tvs_star h
end
end Sx
set_option Elab.async false
set_option linter.all false
set_option maxRecDepth 100000
set_option maxHeartbeats 4000000
set_option autoImplicit false
namespace Sx
open PySem L2
/-! ### a name's own dict, filled behind one more statement; targets and raises there -/
def dTgt (t : Tg) (re : Run) : RunD := fun s => (re s.1).bind fun a => (T.ofOpt (valO a.1)).bind fun d => (T.ofOpt (t d a.2)).bind fun e => .ret (e, s.2)
def dFail : RunD := fun _ => .fail
section
variable {W : Wd} {X : Cx} {md : Md} {j : Nat} {re : Run} {ra rb body : RunD} {r2 : RunS} {st s0 s1 s2 : Stmt} {sts : List Stmt} {t : Tg} {is : List Nat} {g : TG} {tg e : Expr} {pos : Pos}
theorem zd_never : PS X st (TVSD md W j dFail) := ps_weak ps_never fun D σ H h => by
  obtain ⟨S, P, a, G, en, c, R, w⟩ := h
  exact w.elim
theorem zd_tgt [sh : ShRun re] [sg : ShTg t is] (hj : j ∉ is) (he : PE X e (TV W re)) (hg : PG X tg g) (gk : GOk W g t is) (hs : swapsWithSole [tg] e pos.line X.env = pure false := by rfl) (hw : swappedStores [tg] e X.env = pure none := by rfl)
    (h1 : (assignEach [tg] X.env).map (·.2) = [assign tg X.env] := by rfl) : PS X (.Assign [tg] e pos) (TVSD md W j (dTgt t re)) := ps_weak (ps_asg he hg hs hw h1) fun D σ H h => by
  obtain ⟨S, P, a, G, en, c, R, w⟩ := h
  refine ⟨S, gP P a G, en, R.r, T.wp_mono (T.wp_all ((T.wp_bind _ _ _).mp w) (sh.sh en)) fun r ⟨q, lk⟩ v H' S' P' e R' ok => ?_⟩
  obtain ⟨d, hd, q⟩ := T.wp_ofOpt ((T.wp_bind _ _ _).mp q)
  obtain ⟨en2, ht, q⟩ := T.wp_ofOpt ((T.wp_bind _ _ _).mp q)
  obtain ⟨S2, P2, e2, R2, dz⟩ := ok.valz R' hd
  refine gk S2 P2 r.2 en2 v d σ H' _ R2 dz ht fun σ' hσ _ R3 => ?_
  obtain ⟨P4, rfl, f4, G4⟩ := R.ext (e.trans e2) R3 (hσ j hj) ((sg.sh d r.2 en2 ht).1.trans lk)
  exact q σ' H' S2 P4 a G f4 G4
theorem zd_dict2 (h0 : PS X s0 (tAsg tDNewK (gName j))) (h1 : PS X s1 (TVSD .fl W j ra)) (hb : PS X s2 (TVSD .fl W j rb)) (h2 : PSs X sts (TVS W r2)) : PSs X (s0 :: s1 :: s2 :: sts) (TVS W (sSeq (sDeep j (dSeq ra rb)) r2)) := pss_weak (pss_cons h0 (pss_cons h1 (pss_cons hb h2))) fun Dd σ H h => by
  obtain ⟨S, P, en, R, w⟩ := h
  have w := (T.wp_bind _ _ _).mp w
  unfold sDeep at w
  split at w
  · rename_i hc
    intro p hp
    obtain ⟨R0, fD, e0, nS, nP⟩ := R.born (u := .dK []) hp
    have Rg := (R0.drop j).guard (p := p) (u := .dK []) ⟨fD.1, fD.2.1, fD.2.2.1, fun i f d e nf => by
      rcases set_get e with ⟨_, q⟩ | ⟨_, q⟩
      · cases q
      · exact fD.2.2.2 i f d q nf⟩ upd_same
    have Rp := (Rg.put (i := j) (v := .ref p) (d := .adr p) (by rw [List.length_set]; exact hc.1) ⟨trivial, .adr p⟩).drop j
    rw [List.set_set, List.set_set] at Rp
    have eq : add P p = gP P p [] := by
      funext x
      exact propext ⟨fun h => h.imp id fun z => by rw [z]; exact List.mem_cons_self, fun h => h.imp id List.mem_singleton.mp⟩
    rw [eq] at Rp
    have hl : j < σ.length := by rw [← R.len]; exact hc.1
    have one : ∀ {Z : Addr → Prop}, ¬ Z p → ∀ g ∈ [p], ¬ Z g := fun n g hg => by rw [List.mem_singleton.mp hg]; exact n
    have G0 : RelG .fl W S P p [] j (en.set j none) (.dK []) (σ.set j (some (.ref p))) (upd H p (.dK [])) := ⟨Rp, one nP, one nS, List.getElem?_set_self hl, ⟨rfl, [], [], rfl, upd_same, .nil⟩, (nlk_of hc.2).sub (LkSub.set fun d z => by cases z)⟩
    have w1 := (T.wp_bind _ _ _).mp ((T.wp_bind _ _ _).mp w)
    refine ⟨S, P, p, [], _, _, G0, T.wp_mono w1 fun r q σ' H' S' P' a' G' e R' => ⟨S', P', a', G', r.1, r.2, R', T.wp_mono q fun r3 q3 σ3 H3 S3 P3 a3 G3 e3 R3 => ?_⟩⟩
    exact ⟨S3, P3, _, R3.close, T.wp_mono q3 fun r q => q.ext (e0.trans (e.trans e3))⟩
  · exact w.elim
theorem walks_enumS {S : Addr → Prop} {H : Hp} {a : Addr} {xs : List V} {ds : List D} (ha : S a) (h : H a = some (.lst xs)) (dl : DvL W S H xs ds) : Walks W S S H (Ite W.K a) (enumD ds) := by
  have hl : (enumD ds).length = ds.length := by simp [enumD]
  have at' : ∀ H2, (∀ b, S b → H2 b = H b) → SqL W.K H2 a xs := fun H2 q => SqL.of ((q a ha).trans h)
  refine ⟨fun i H2 q hi => ⟨xs, at' H2 q, by rw [dl.len]; omega⟩, fun i H2 q hi => ?_, fun i H2 x H3 q hi y => ?_⟩
  · have hi' : i < xs.length := by rw [dl.len]; omega
    exact ⟨xs, xs[i], at' H2 q, List.getElem?_eq_getElem hi'⟩
  · obtain ⟨T', x', rfl, hT, rfl, y⟩ := y
    obtain ⟨d, hd, dz⟩ := (dl.at (i := i)).1 x' (y xs (at' _ q))
    refine ⟨.tup [.int (i : Nat), d], ?_, .inr ⟨T', _, _, rfl, hT, rfl, rfl, .cons trivial (.int _) (.cons dz.1 (dz.2.mono (fun _ h => h) (fun b s => q b s) (dz.1.mono fun b s => q b s)) .nil)⟩⟩
    unfold enumD
    rw [List.getElem?_map, List.getElem?_zipIdx, hd]
    simp
theorem x_enumUS {e : Expr} {ra : Run} {p pos tpos : Pos} {elts : List Expr} {kk : Nat} (hK : X.K = W.K) (hg : Gl X "enumerate") (hm : X.mg "enumerate" = none) (ha : PE X e (TV W ra)) (hs : starEach [e] X.env = (false, eval e X.env) :: starEach [] X.env) :
    PI X (.Tuple elts kk tpos) (.Call (.Name "enumerate" p) [e] [] pos) (TVIS W (iEnumR (rCons ra rNil))) := by
  refine ⟨fun pins s σ H R I q => (pi_enum hg hm (x_cons ha x_nil hs) hs).run pins s σ H R I ?_⟩
  rw [hK]
  obtain ⟨S, P, en, Rl, w⟩ := q
  refine TVs.use Rl w fun c vs H1 S1 P1 e1 R1 p1 q => ?_
  obtain ⟨ds, hds, q⟩ := T.wp_ofOpt ((T.wp_bind _ _ _).mp q)
  split at hds
  · rename_i es hj
    cases hds
    cases p1.only hj with
    | cons t dv r =>
      cases r
      cases dv with
      | lst ha dl => exact ⟨_, _, rfl, SqL.of ha, q (Ite W.K _) H1 S1 P1 e1 R1 (walks_enumS t ha dl)⟩
  · cases hds
end
end Sx
set_option Elab.async false
set_option linter.all false
set_option maxRecDepth 100000
set_option maxHeartbeats 4000000
set_option autoImplicit false
namespace Sx
open PySem L2 PyProof.Rows
/-! ### for a, b in zip(xs, ys): two lists, two tuples -/
def iZipA (rs : Runs) : RunI := fun en => (rs en).bind fun a => (T.ofOpt (match onlyV a.1 with
  | some [.lst xs, .lst ys] => some (zipD xs ys)
  | some [.tup xs, .tup ys] => some (zipD xs ys)
  | _ => none)).bind fun ds => .ret (ds, a.2)
section
variable {W : Wd} {S P : Addr → Prop} {en : En} {σ : L2.St} {H : Hp} {X : Cx} {e : Expr} {ra rb : Run} {p pos : Pos}
theorem sqt_of {a : Addr} {xs : List V} (h : (S a ∧ H a = some (.tup xs)) ∨ Wr W a xs) : SqT W.K H a xs := by
  rcases h with ⟨_, h⟩ | (h | ⟨_, h⟩) | h
  · exact SqT.of h
  · cases h
  · cases h
  · exact .inr h
theorem walks_zipT {a b : Addr} {xs ys : List V} {ds es : List D} (R : Rel W S P en σ H) (h : (S a ∧ H a = some (.tup xs)) ∨ Wr W a xs) (g : (S b ∧ H b = some (.tup ys)) ∨ Wr W b ys) (dl : DvL W S H xs ds) (el : DvL W S H ys es) : Walks W S P H (RZ.ItzT W.K a b) (zipD ds es) := by
  have hl : (zipD ds es).length = min ds.length es.length := by simp [zipD]
  have mv : ∀ {c : Addr} {zs : List V} (H2 : Hp), (∀ c, P c → H2 c = H c) → ((S c ∧ H c = some (.tup zs)) ∨ Wr W c zs) → SqT W.K H2 c zs := fun H2 q h => sqt_of (S := S) (h.imp (fun ⟨s, e⟩ => ⟨s, (q _ (R.sp _ s)).trans e⟩) id)
  have l1 := dl.len
  have l2 := el.len
  refine ⟨fun i H2 q hi => ⟨xs, ys, mv H2 q h, mv H2 q g, by omega⟩, fun i H2 q hi => ?_, fun i H2 x H3 q hi y => ?_⟩
  · exact ⟨xs, ys, xs[i]'(by omega), ys[i]'(by omega), mv H2 q h, mv H2 q g, List.getElem?_eq_getElem (by omega), List.getElem?_eq_getElem (by omega)⟩
  · obtain ⟨T', x', y', rfl, hT, rfl, y1, y2⟩ := y
    obtain ⟨d, hd, dz⟩ := (dl.at (i := i)).1 x' (y1 xs (mv _ q h))
    obtain ⟨e, he, ez⟩ := (el.at (i := i)).1 y' (y2 ys (mv _ q g))
    have up : ∀ {u : V} {d : D}, Dz W S H u d → Dz W S H2 u d := fun z => z.mono (fun _ h => h) fun b s => q b (R.sp b s)
    refine ⟨.tup [d, e], ?_, .inr ⟨T', _, _, rfl, hT, rfl, rfl, .cons (up dz).1 (up dz).2 (.cons (up ez).1 (up ez).2 .nil)⟩⟩
    unfold zipD
    rw [List.getElem?_map, show (ds.zip es)[i]? = some (d, e) from List.getElem?_zip_eq_some.mpr ⟨hd, he⟩]
    rfl
theorem x_zipA {e2 : Expr} {tpos : Pos} {elts : List Expr} {kk : Nat} (hK : X.K = W.K) (hg : Gl X "zip") (hm : X.mg "zip" = none) (ha : PE X e (TV W ra)) (hb : PE X e2 (TV W rb)) (hs : starEach [e, e2] X.env = (false, eval e X.env) :: starEach [e2] X.env := by rfl) (hs2 : starEach [e2] X.env = (false, eval e2 X.env) :: starEach [] X.env := by rfl) (hpl : (backTo pos (starEach [e2] X.env)).any (·.1) = false := by rfl) :
    PI X (.Tuple elts kk tpos) (.Call (.Name "zip" p) [e, e2] [] pos) (TVI W (iZipA (rCons ra (rCons rb rNil))) none) := by
  refine ⟨fun pins s σ H R I q => (RZ.pi_zipA hg hm (x_cons ha (x_cons hb x_nil hs2) hs) hs hpl).run pins s σ H R I ?_⟩
  rw [hK]
  obtain ⟨S, P, en, Rl, w⟩ := q
  refine TVs.use Rl w fun c vs H1 S1 P1 e1 R1 p1 q => ?_
  obtain ⟨ds, hds, q⟩ := T.wp_ofOpt ((T.wp_bind _ _ _).mp q)
  have fin : ∀ J, Walks W S1 P1 H1 J ds → R J H1 := fun J wk => q J H1 S1 P1 P1 e1 R1 (fun _ h => h) (fun S3 P3 en3 σ3 H3 _ e3 R3 => ⟨P3, fun _ h => h, e3, R3⟩) (fun _ => rfl) wk
  split at hds
  · rename_i es gs hj
    cases hds
    cases p1.only hj with
    | cons t dv r =>
      cases r with
      | cons t2 dv2 r =>
        cases r
        cases dv with
        | lst ha dl => cases dv2 with
          | lst hb el => exact ⟨_, _, _, _, rfl, .inl ⟨SqL.of ha, SqL.of hb, fin _ (walks_zip R1 (R1.sp _ t) (R1.sp _ t2) ha hb dl el)⟩⟩
  · rename_i es gs hj
    cases hds
    cases p1.only hj with
    | cons t dv r =>
      cases r with
      | cons t2 dv2 r =>
        cases r
        cases dv with
        | tup ha dl => cases dv2 with
          | tup hb el => exact ⟨_, _, _, _, rfl, .inr ⟨sqt_of ha, sqt_of hb, fin _ (walks_zipT R1 ha hb dl el)⟩⟩
  · cases hds
instance {rs : Runs} [h : ShRuns rs] : ShIt (iZipA rs) none := ⟨fun en => T.all_mono (all_seq (h.sh en) fun _ => all_of fun _ _ => LkSub.refl _) fun _ h _ g => g.trans h⟩
end
end Sx
set_option Elab.async false
set_option linter.all false
set_option maxRecDepth 100000
set_option maxHeartbeats 4000000
set_option autoImplicit false
namespace Sx
open PySem L2 PyProof.Rows
/-! ### own lists and dicts within a list or a dict -/
section
variable {md : Md} {W : Wd} {S P S' P' : Addr → Prop} {a g : Addr} {G : List Addr} {i j : Nat} {en en' : En} {c d : D} {σ σ' : L2.St} {H H' : Hp} {X : Cx} {v : V} {Q : VK}
/-- an expression that does not see it, as data -/
theorem RelG.useV {β : Type} {ra : Run} {f : D × En → T β} {Φ : β → Prop} [sh : ShRun ra] (R : RelG md W S P a G j en c σ H) (w : ((ra en).bind fun r => (T.ofOpt (valO r.1)).bind fun d => f (d, r.2)).wp Φ)
    (k : ∀ d e v H' S' P', Ext S P H S' P' H' → RelG md W S' P' a G j e c σ H' → Dz W S' H' v d → (f (d, e)).wp Φ → Q v H') : TV W ra σ H Q :=
  R.use ((T.wp_bind _ _ _).mp w) fun r v H1 S1 P1 e1 R1 ok q => by
    obtain ⟨d, hd, q⟩ := T.wp_ofOpt ((T.wp_bind _ _ _).mp q)
    obtain ⟨S4, P4, e4, R4, dz⟩ := ok.valz R1.r hd
    obtain ⟨P2, rfl, e5, R5⟩ := R1.ext e4 R4 rfl (LkSub.refl _)
    exact k d r.2 v H1 S4 P2 (e1.trans e5) R5 dz q
end
/-! ### statements -/
def dIf (rc : RunT) (ra rb : RunD) : RunD := fun s => (rc s.1).bind fun r => if r.1 then ra (r.2, s.2) else rb (r.2, s.2)
section
variable {md : Md} {W : Wd} {S P S' P' : Addr → Prop} {a g : Addr} {G : List Addr} {i j : Nat} {en en' : En} {c d : D} {σ σ' : L2.St} {H H' : Hp} {X : Cx} {v : V} {Q : VK} {ra rb : RunD} {rc : RunT} {re rk ry : Run} {x : Str} {pos p' p1 : Pos}
theorem zd_if {c : Expr} {a b : List Stmt} [sh : ShTst rc] (hc : PT X c (TVT W rc)) (ha : PSs X a (TVSD md W j ra)) (hb : PSs X b (TVSD md W j rb)) : PS X (.If c a b pos) (TVSD md W j (dIf rc ra rb)) := ps_weak (ps_if hc ha hb) fun D σ H h => by
  obtain ⟨S, P, a, G, en, c, R, w⟩ := h
  refine ⟨S, gP P a G, en, R.r, T.wp_mono (T.wp_all ((T.wp_bind _ _ _).mp w) (sh.sh en)) fun r ⟨q, lk⟩ H' S' P' e R' => ?_⟩
  obtain ⟨P2, rfl, e2, R2⟩ := R.ext e R' rfl lk
  obtain ⟨b, en1⟩ := r
  cases b with
  | true => exact ⟨S', P2, a, G, en1, c, R2, T.wp_mono q fun r q => q.ext e2⟩
  | false => exact ⟨S', P2, a, G, en1, c, R2, T.wp_mono q fun r q => q.ext e2⟩
end
/-! ### from the making to the end -/
section
variable {o k : Kd} {W : Wd} {S P : Addr → Prop} {a : Addr} {G : List Addr} {j : Nat} {en : En} {c : D} {σ : L2.St} {H : Hp} {X : Cx} {body : RunD} {r2 : RunS} {s1 : Stmt} {sts : List Stmt}
end
end Sx
set_option Elab.async false
set_option linter.all false
set_option maxRecDepth 100000
set_option maxHeartbeats 4000000
set_option autoImplicit false
namespace Sx
open PySem L2 PyProof.Rows
/-! ### methods called by keyword; a comprehension that sees what is built -/
section
variable {W : Wd} {S P S' P' : Addr → Prop} {en : En} {σ : L2.St} {H H' : Hp} {X : Cx} {k n c0 : Nat} {f C : Addr} {fd : FuncData} {ps ks : List Str} {fn : Fn} {cls : CT} {m : Str} {pos apos : Pos} {o : Expr} {kws : List Keyword} {ro : Run} {rs2 : Runs} {g : List Value → List Value → List Value} {gV : List V → List V → List V}
end
section
variable {md : Md} {W : Wd} {j : Nat} {X : Cx} {re : Run} {pos : Pos}
end
end Sx
set_option Elab.async false
set_option linter.all false
set_option maxRecDepth 100000
set_option maxHeartbeats 4000000
set_option autoImplicit false
namespace Sx
open PySem L2 PyProof.Rows
/-! ### a dict of own dicts: x = dict([(n, {}) for n in E]), then a statement that fills it -/
section
variable {W : Wd} {S P S' P' : Addr → Prop} {en : En} {σ : L2.St} {H H' : Hp} {X : Cx} {v : V} {d : D}
end
section
variable {W : Wd} {S P S' P' : Addr → Prop} {en : En} {σ : L2.St} {H H' : Hp} {X : Cx} {v : V} {d : D} {j iX : Nat} {re : Run} {body : RunD} {r2 : RunS} {s0 s1 : Stmt} {sts : List Stmt}
end
end Sx
set_option Elab.async false
set_option linter.all false
set_option maxRecDepth 100000
set_option maxHeartbeats 4000000
set_option autoImplicit false
namespace Sx
open PySem L2 PyProof.Rows
/-! ### own dicts within a dict: cells = later[e]; cells[k] = v -/
/-- x[k] = v, neither sees x -/
def dPutVc (c v : D) (z : D × En) : T (En × D) := (T.ofOpt (keyOf z.1)).bind fun k => match c with
  | .dK ds => if ds.length < 4096 then .ret (z.2, .dK (putD ds k v)) else .fail
  | _ => .fail
def dPutVb (rk : Run) (c : D) (z : D × En) : T (En × D) := (rk z.2).bind fun r => (T.ofOpt (valO r.1)).bind fun kd => dPutVc c z.1 (kd, r.2)
def dPutV (rk rv : Run) : RunD := fun s => (rv s.1).bind fun r => (T.ofOpt (valO r.1)).bind fun d => dPutVb rk s.2 (d, r.2)
def kIx : List Key → Key → Nat
  | [], _ => 0
  | q :: ks, k => if q = k then 0 else kIx ks k + 1
section
variable {md : Md} {W : Wd} {S P S' P' : Addr → Prop} {a g : Addr} {G : List Addr} {i j : Nat} {en en' : En} {c d : D} {σ σ' : L2.St} {H H' : Hp} {X : Cx} {v : V} {Q : VK} {ra rb : RunD} {rc : RunT} {re rk rv rk2 : Run} {x : Str} {pos p' p1 : Pos}
theorem zd_putV {o kx value : Expr} {n : Nat} {pos' pos : Pos} [sh1 : ShRun rk] [sh2 : ShRun rv] (hr : Room n X.A) (ho : PE X o (tVar j)) (hi : PE X kx (TV W rk)) (hv : PE X value (TV W rv)) (hs : swapsWith value (some (.Subscript o kx pos')) pos.line X.env = pure false := by rfl) :
    PS X (.Assign [.Subscript o kx pos'] value pos) (TVSD .fl W j (dPutV rk rv)) := ps_weak (ps_dput (hu_of hr) ho hi hv hs) fun Dd σ H h => by
  obtain ⟨S, P, a, G, en, c, R, w⟩ := h
  refine R.useV (f := dPutVb rk c) w fun d e1 v H1 S1 P1 x1 R1 dz q => ?_
  refine ⟨.ref a, R1.sj, R1.useV (f := dPutVc c d) q fun kd e2 y H2 S2 P2 x2 R2 dy q => ?_⟩
  obtain ⟨k, hk, q⟩ := T.wp_ofOpt ((T.wp_bind _ _ _).mp q)
  obtain ⟨rfl, vs, ds, rfl, h1, h2⟩ := R2.ct
  have q : (if ds.length < 4096 then T.ret (e2, Sx.D.dK (putD ds k d)) else .fail : T (En × Sx.D)).wp _ := q
  split at q
  · rename_i hl
    have ky := keyOf_v dy.2 hk
    subst ky
    obtain ⟨e3, R3⟩ := R2.mut (u := .dK (L2.putK vs k v)) List.mem_cons_self h1 (nx_dK _)
    have dz2 : Dz W S2 H2 v d := dz.mono x2.s fun x s => x2.h x (R1.sp x s)
    refine ⟨a, _, rfl, DPut.k h1 (lt_line (by rw [h2.lenK]; exact hl)), q σ _ S2 P2 a [] (x1.trans (x2.trans e3)) ⟨R3, R2.nP, R2.nS, R2.sj, ⟨rfl, _, _, rfl, upd_same, ?_⟩, R2.nl⟩⟩
    exact (DvP.putK dz2 h2).mono (fun _ h => h) fun b h => upd_ne fun (z : b = a) => R2.nS a List.mem_cons_self (z ▸ h)
  · exact q.elim
end
end Sx
set_option Elab.async false
set_option linter.all false
set_option maxRecDepth 100000
set_option maxHeartbeats 4000000
set_option autoImplicit false
namespace Sx
open PySem L2 PyProof.Rows
/-! ### dict(zip(xs, ys)) of two lists -/
section
variable {X : Cx} {W : Wd} {ra rb : Run}
def keysZ : List D → Option (List Key)
  | [] => some []
  | d :: ds => (keyOf d).bind fun k => (keysZ ds).map fun ks => k :: ks
end
end Sx
set_option Elab.async false
set_option linter.all false
set_option maxRecDepth 100000
set_option maxHeartbeats 4000000
set_option autoImplicit false
namespace Sx
open PySem L2 PyProof.Rows
/-! ### xs.index(y) of a list of numbers and texts -/
def lstOf : Option D → Option (List D)
  | some (.lst ds) => some ds
  | _ => none
def fIdx (x y : D) : Option (Bool × D) := match x with
  | .lst ds => (keysZ ds).bind fun ks => (keyOf y).bind fun k => if kIx ks k < ks.length then some0 (.int (kIx ks k : Nat)) else none
  | _ => none
def rIdx (ro ra : Run) : Run := fun en => (ro en).bind fun a => (T.ofOpt (lstOf (frc a.2 a.1.fz))).bind fun _ => (ra a.2).bind fun b => ret1 ((frc b.2 a.1.fz).bind fun x => (frc b.2 b.1.fz).bind fun y => fIdx x y) b.2
section
variable {W : Wd} {X : Cx} {ro ra : Run} {σ : L2.St} {H : Hp} {Q : VK} {o e : Expr} {apos cpos : Pos}
instance [h : ShRun ro] [g : ShRun ra] : ShRun (rIdx ro ra) := ⟨fun en => all_seq (h.sh en) fun _ => T.all_bind (T.all_triv fun _ => all_seq (g.sh _) fun _ => all_ret1)⟩
end
end Sx
set_option Elab.async false
set_option linter.all false
set_option maxRecDepth 100000
set_option maxHeartbeats 4000000
set_option autoImplicit false
namespace Sx
open PySem L2 PyProof.Rows
/-! ### cells, far = later[e], f; cells[k] = v -/
section
variable {md : Md} {W : Wd} {S P S' P' : Addr → Prop} {a g : Addr} {G : List Addr} {i j : Nat} {en en' : En} {c d : D} {σ σ' : L2.St} {H H' : Hp} {X : Cx} {v : V} {Q : VK} {ra rb : RunD} {re rk rf rv rk2 : Run} {x x2 : Str} {pos p' p1 : Pos}
theorem RelG.put (R : RelG md W S P a G j en c σ H) (hij : i ≠ j) (hi : i < en.length) (dz : Dz W S H v d) : RelG md W S P a G j (en.set i (some (.fz, d))) c (σ.set i (some v)) H :=
  ⟨R.r.put hi dz, R.nP, R.nS, by rw [List.getElem?_set_ne hij]; exact R.sj, R.ct, R.nl.sub (LkSub.set fun d z => by cases z)⟩
end
end Sx
set_option Elab.async false
set_option linter.all false
set_option maxRecDepth 100000
set_option maxHeartbeats 4000000
set_option autoImplicit false
namespace Sx
open PySem L2 PyProof.Rows PpSet PySem.Spec
/-! ### {e for x in ..} where e is a number or a text, after the kit's own comprehension of truth values -/
section
variable {X : Cx}
end
end Sx
set_option Elab.async false
set_option linter.all false
set_option maxRecDepth 100000
set_option maxHeartbeats 4000000
set_option autoImplicit false
namespace Sx
open PySem L2
/-! ### a set of keys is no code object -/
end Sx
set_option Elab.async false
set_option linter.all false
set_option maxRecDepth 100000
set_option maxHeartbeats 4000000
set_option autoImplicit false
namespace Sx
open PySem L2 PyProof.Rows
/-! ### how many different keys a set comprehension has -/
section
variable {W : Wd} {X : Cx} {pos : Pos} {ri : RunI} {l : Option Nat} {g : TG} {t : Tg} {is : List Nat} {rt : RunT} {re : Run}
end
end Sx
set_option Elab.async false
set_option linter.all false
set_option maxRecDepth 100000
set_option maxHeartbeats 4000000
set_option autoImplicit false
namespace Sx
open PySem L2 PyProof.Rows
/-! ### len({e for x in d}) -/
section
variable {W : Wd} {X : Cx} {td : TE} {pa : L2.St → Hp → Option Addr} {pth : Pth}
end
end Sx
set_option Elab.async false
set_option linter.all false
set_option maxRecDepth 100000
set_option maxHeartbeats 4000000
set_option autoImplicit false
namespace Sx
open PySem L2
def top (i : Nat) : Stmt := PySem.Challenge.pw_strangerows_k79_tables_written_and_read.main.body.getD i (.Pass ⟨0, 0, 0, 0⟩)
abbrev st_w_begin : Stmt := top 33
abbrev st_w_take : Stmt := top 34
abbrev st_T_eq : Stmt := inClass (top 21) 4
abbrev st_T_columns : Stmt := inClass (top 21) 1
abbrev st_T_rows : Stmt := inClass (top 21) 2
abbrev st_is_among : Stmt := top 18
abbrev st_T_getitem : Stmt := inClass (top 21) 8
abbrev st_row_text : Stmt := top 25
abbrev st_lines_of : Stmt := top 26
abbrev st_format_table : Stmt := top 27
abbrev st_is_name : Stmt := top 14
abbrev st_are_names : Stmt := top 17
abbrev st_is_integer : Stmt := top 15
abbrev st_is_value : Stmt := top 16
abbrev st_is_row : Stmt := top 19
abbrev st_are_rows : Stmt := top 20
abbrev st_T_init : Stmt := inClass (top 21) 0
abbrev st_columns_of : Stmt := top 29
abbrev st_value_of : Stmt := top 28
abbrev st_row_of : Stmt := top 30
abbrev st_parse_table : Stmt := top 31
abbrev st_w_mixed : Stmt := top 36
abbrev st_w_pick : Stmt := top 35
abbrev st_w_names : Stmt := top 37
abbrev st_w_classes : Stmt := top 38
abbrev st_w_code : Stmt := top 39
abbrev st_w_model : Stmt := top 40
abbrev st_w_table : Stmt := top 41
abbrev st_w_text : Stmt := top 42
abbrev st_law : Stmt := top 43
theorem sc_T_eq : FnScope ["self", "other"] ["self", "other"] (defScope st_T_eq) := ⟨rfl, rfl, rfl, by decide +kernel, rfl, by decide +kernel, by decide +kernel⟩
theorem sc_T_columns : FnScope ["self"] ["self"] (defScope st_T_columns) := ⟨rfl, rfl, rfl, by decide +kernel, rfl, by decide +kernel, by decide +kernel⟩
theorem sc_T_rows : FnScope ["self"] ["self"] (defScope st_T_rows) := ⟨rfl, rfl, rfl, by decide +kernel, rfl, by decide +kernel, by decide +kernel⟩
theorem sc_is_among : FnScope ["thing", "names"] ["thing", "names"] (defScope st_is_among) := ⟨rfl, rfl, rfl, by decide +kernel, rfl, by decide +kernel, by decide +kernel⟩
theorem sc_T_getitem : FnScope ["self", "row", "column", "value"] ["self", "row"] (defScope st_T_getitem) := ⟨rfl, rfl, rfl, by decide +kernel, rfl, by decide +kernel, by decide +kernel⟩
theorem sc_row_text : FnScope ["table", "row", "values", "column"] ["table", "row"] (defScope st_row_text) := ⟨rfl, rfl, rfl, by decide +kernel, rfl, by decide +kernel, by decide +kernel⟩
theorem sc_lines_of : FnScope ["table", "row"] ["table"] (defScope st_lines_of) := ⟨rfl, rfl, rfl, by decide +kernel, rfl, by decide +kernel, by decide +kernel⟩
theorem sc_format_table : FnScope ["table", "line"] ["table"] (defScope st_format_table) := ⟨rfl, rfl, rfl, by decide +kernel, rfl, by decide +kernel, by decide +kernel⟩
theorem sc_is_name : FnScope ["thing", "letter"] ["thing"] (defScope st_is_name) := ⟨rfl, rfl, rfl, by decide +kernel, rfl, by decide +kernel, by decide +kernel⟩
theorem sc_are_names : FnScope ["thing", "least", "most", "name"] ["thing", "least", "most"] (defScope st_are_names) := ⟨rfl, rfl, rfl, by decide +kernel, rfl, by decide +kernel, by decide +kernel⟩
theorem sc_is_integer : FnScope ["thing"] ["thing"] (defScope st_is_integer) := ⟨rfl, rfl, rfl, by decide +kernel, rfl, by decide +kernel, by decide +kernel⟩
theorem sc_is_value : FnScope ["thing"] ["thing"] (defScope st_is_value) := ⟨rfl, rfl, rfl, by decide +kernel, rfl, by decide +kernel, by decide +kernel⟩
theorem sc_is_row : FnScope ["thing", "many", "value"] ["thing", "many"] (defScope st_is_row) := ⟨rfl, rfl, rfl, by decide +kernel, rfl, by decide +kernel, by decide +kernel⟩
theorem sc_are_rows : FnScope ["thing", "many", "name"] ["thing", "many"] (defScope st_are_rows) := ⟨rfl, rfl, rfl, by decide +kernel, rfl, by decide +kernel, by decide +kernel⟩
theorem sc_T_init : FnScope ["self", "columns", "rows", "name", "place"] ["self", "columns", "rows"] (defScope st_T_init) := ⟨rfl, rfl, rfl, by decide +kernel, rfl, by decide +kernel, by decide +kernel⟩
theorem sc_columns_of : FnScope ["line", "words"] ["line"] (defScope st_columns_of) := ⟨rfl, rfl, rfl, by decide +kernel, rfl, by decide +kernel, by decide +kernel⟩
theorem sc_value_of : FnScope ["word", "digits", "sign"] ["word"] (defScope st_value_of) := ⟨rfl, rfl, rfl, by decide +kernel, rfl, by decide +kernel, by decide +kernel⟩
theorem sc_row_of : FnScope ["line", "many", "words", "values", "word"] ["line", "many"] (defScope st_row_of) := ⟨rfl, rfl, rfl, by decide +kernel, rfl, by decide +kernel, by decide +kernel⟩
theorem sc_parse_table : FnScope ["text", "lines", "rest", "columns", "rows", "last", "at", "line", "row", "values"] ["text"] (defScope st_parse_table) := ⟨rfl, rfl, rfl, by decide +kernel, rfl, by decide +kernel, by decide +kernel⟩
theorem sc_w_mixed : FnScope ["_law_draw", "_law_some", "_law_left", "_law_found"] ["_law_draw", "_law_some"] (defScope st_w_mixed) := ⟨rfl, rfl, rfl, by decide +kernel, rfl, by decide +kernel, by decide +kernel⟩
theorem sc_w_pick : FnScope ["_law_draw", "_law_some"] ["_law_draw", "_law_some"] (defScope st_w_pick) := ⟨rfl, rfl, rfl, by decide +kernel, rfl, by decide +kernel, by decide +kernel⟩
theorem sc_w_names : FnScope ["_law_draw", "_law_many", "_law_pool", "_law_letters", "_law_found", "_law_turn", "_law_word", "_law_others", "_law_sign", "_law_letter", "_law_one"] ["_law_draw", "_law_many"] (defScope st_w_names) := ⟨rfl, rfl, rfl, by decide +kernel, rfl, by decide +kernel, by decide +kernel⟩
theorem sc_w_classes : FnScope ["_law_draw", "_law_many", "_law_found", "_law_turn"] ["_law_draw", "_law_many"] (defScope st_w_classes) := ⟨rfl, rfl, rfl, by decide +kernel, rfl, by decide +kernel, by decide +kernel⟩
theorem sc_w_code : FnScope ["_law_draw", "_law_many", "_law_pool"] ["_law_draw", "_law_many"] (defScope st_w_code) := ⟨rfl, rfl, rfl, by decide +kernel, rfl, by decide +kernel, by decide +kernel⟩
theorem sc_w_model : FnScope ["_law_draw", "_law_width", "_law_height", "_law_columns", "_law_names_here", "_law_rows", "_law_column", "_law_numbers", "_law_code_here", "_law_name", "_law_number", "_law_cells"] ["_law_draw", "_law_width", "_law_height"] (defScope st_w_model) := ⟨rfl, rfl, rfl, by decide +kernel, rfl, by decide +kernel, by decide +kernel⟩
theorem sc_w_table : FnScope ["_law_model_here", "_law_columns", "_law_rows", "_law_row", "_law_column"] ["_law_model_here"] (defScope st_w_table) := ⟨rfl, rfl, rfl, by decide +kernel, rfl, by decide +kernel, by decide +kernel⟩
theorem sc_w_text : FnScope ["_law_model_here", "_law_lines", "_law_row", "_law_column", "_law_line"] ["_law_model_here"] (defScope st_w_text) := ⟨rfl, rfl, rfl, by decide +kernel, rfl, by decide +kernel, by decide +kernel⟩
theorem sc_law : FnScope ["_law_script", "_law_draw", "_law_turn", "_law_model_here", "_law_grid", "_law_due", "_law_found", "_law_turned", "_law_other", "_law_row"] ["_law_script"] (defScope st_law) := ⟨rfl, rfl, rfl, by decide +kernel, rfl, by decide +kernel, by decide +kernel⟩
abbrev st_e_InvalidTable : Stmt := inClass (top 3) 0
abbrev st_e_UnknownItem : Stmt := inClass (top 4) 0
abbrev st_e_InvalidText : Stmt := inClass (top 5) 0
structure Ad where
  (a_w_begin a_w_take a_T_eq a_T_columns a_T_rows a_is_among a_T_getitem a_row_text a_lines_of a_format_table a_is_name a_are_names a_is_integer a_is_value a_is_row a_are_rows a_T_init a_columns_of a_value_of a_row_of a_parse_table a_w_mixed a_w_pick a_w_names a_w_classes a_w_code a_w_model a_w_table a_w_text a_law : Addr)
  (fd_w_begin fd_w_take fd_T_eq fd_T_columns fd_T_rows fd_is_among fd_T_getitem fd_row_text fd_lines_of fd_format_table fd_is_name fd_are_names fd_is_integer fd_is_value fd_is_row fd_are_rows fd_T_init fd_columns_of fd_value_of fd_row_of fd_parse_table fd_w_mixed fd_w_pick fd_w_names fd_w_classes fd_w_code fd_w_model fd_w_table fd_w_text fd_law : FuncData)
  (c_T : Addr)
  (p_T_columns : Addr)
  (p_T_rows : Addr)
  (t_LETTERS t_LONGEST_NAME t_MOST_COLUMNS t_MOST_ROWS t_FIRST_TOO_LARGE t_COLUMN t_ROW t_DIGITS t_MOST_DIGITS : Tok)
  (e_InvalidTable i_InvalidTable cc_InvalidTable cd_InvalidTable : Addr)
  (e_UnknownItem i_UnknownItem cc_UnknownItem cd_UnknownItem : Addr)
  (e_InvalidText i_InvalidText cc_InvalidText cd_InvalidText : Addr)
  (e_FitError : Addr)
abbrev Ad.tbl (A : Ad) : List (Addr × Str) := []
abbrev Ad.cls (A : Ad) : CT := ⟨clsL [A.c_T, A.e_FitError, A.e_InvalidTable, A.e_UnknownItem, A.e_InvalidText], A.tbl⟩
structure Tx (Pr : Program) (base : Heap) (K : PySem.W.Frag) (mg : Str → Option Value) (A : Ad) : Prop where
  er_InvalidTable : ErK Pr K mg (A.cls 2) A.i_InvalidTable A.cc_InvalidTable A.cd_InvalidTable
  ef_InvalidTable : ErF K A.i_InvalidTable A.cc_InvalidTable A.cd_InvalidTable "InvalidTable.__init__" (defArgs st_e_InvalidTable) (defBody st_e_InvalidTable) (defScope st_e_InvalidTable)
  me_InvalidTable : mg "InvalidTable" = some (.ref (A.cls 2))
  ex_InvalidTable : ExcC K (A.cls 2)
  sb_InvalidTable : PySem.W.exmOne K (.ref (A.cls 2)) (.ref (A.cls 1)) = some true
  no_InvalidTable : PySem.W.findIn K (.ref (A.cls 2)) "part" = some none
  er_UnknownItem : ErK Pr K mg (A.cls 3) A.i_UnknownItem A.cc_UnknownItem A.cd_UnknownItem
  ef_UnknownItem : ErF K A.i_UnknownItem A.cc_UnknownItem A.cd_UnknownItem "UnknownItem.__init__" (defArgs st_e_UnknownItem) (defBody st_e_UnknownItem) (defScope st_e_UnknownItem)
  me_UnknownItem : mg "UnknownItem" = some (.ref (A.cls 3))
  ex_UnknownItem : ExcC K (A.cls 3)
  sb_UnknownItem : PySem.W.exmOne K (.ref (A.cls 3)) (.ref (A.cls 1)) = some true
  no_UnknownItem : PySem.W.findIn K (.ref (A.cls 3)) "item" = some none
  er_InvalidText : ErK Pr K mg (A.cls 4) A.i_InvalidText A.cc_InvalidText A.cd_InvalidText
  ef_InvalidText : ErF K A.i_InvalidText A.cc_InvalidText A.cd_InvalidText "InvalidText.__init__" (defArgs st_e_InvalidText) (defBody st_e_InvalidText) (defScope st_e_InvalidText)
  me_InvalidText : mg "InvalidText" = some (.ref (A.cls 4))
  ex_InvalidText : ExcC K (A.cls 4)
  sb_InvalidText : PySem.W.exmOne K (.ref (A.cls 4)) (.ref (A.cls 1)) = some true
  no_InvalidText : PySem.W.findIn K (.ref (A.cls 4)) "line" = some none
  me_FitError : mg "FitError" = some (.ref (A.cls 1))
  F_w_begin : Fun K "_law_begin" "_law_begin" st_w_begin A.a_w_begin A.fd_w_begin
  m_w_begin : mg "_law_begin" = some (.ref A.a_w_begin)
  b_w_begin : Binds K A.fd_w_begin ["_law_script"] []
  F_w_take : Fun K "_law_take" "_law_take" st_w_take A.a_w_take A.fd_w_take
  m_w_take : mg "_law_take" = some (.ref A.a_w_take)
  b_w_take : Binds K A.fd_w_take ["_law_draw", "_law_bound"] []
  F_T_eq : Fun K "__eq__" "Table.__eq__" st_T_eq A.a_T_eq A.fd_T_eq
  eq_s : PySem.W.findIn K (.ref A.c_T) "__eq__" = some (some (.ref A.a_T_eq))
  eq_f : PySem.W.isFn K (.ref A.a_T_eq) = true
  b_T_eq : Binds K A.fd_T_eq ["self", "other"] []
  F_T_columns : Fun K "columns" "Table.columns" st_T_columns A.a_T_columns A.fd_T_columns
  p_T_columns : PropOf K A.c_T "columns" A.p_T_columns A.a_T_columns
  b_T_columns : Binds K A.fd_T_columns ["self"] []
  F_T_rows : Fun K "rows" "Table.rows" st_T_rows A.a_T_rows A.fd_T_rows
  p_T_rows : PropOf K A.c_T "rows" A.p_T_rows A.a_T_rows
  b_T_rows : Binds K A.fd_T_rows ["self"] []
  F_is_among : Fun K "is_among" "is_among" st_is_among A.a_is_among A.fd_is_among
  m_is_among : mg "is_among" = some (.ref A.a_is_among)
  b_is_among : Binds K A.fd_is_among ["thing", "names"] []
  F_T_getitem : Fun K "__getitem__" "Table.__getitem__" st_T_getitem A.a_T_getitem A.fd_T_getitem
  getitem_s : PySem.W.findIn K (.ref A.c_T) "__getitem__" = some (some (.ref A.a_T_getitem))
  getitem_f : PySem.W.isFn K (.ref A.a_T_getitem) = true
  b_T_getitem : Binds K A.fd_T_getitem ["self", "row"] []
  F_row_text : Fun K "row_text" "row_text" st_row_text A.a_row_text A.fd_row_text
  m_row_text : mg "row_text" = some (.ref A.a_row_text)
  b_row_text : Binds K A.fd_row_text ["table", "row"] []
  F_lines_of : Fun K "lines_of" "lines_of" st_lines_of A.a_lines_of A.fd_lines_of
  m_lines_of : mg "lines_of" = some (.ref A.a_lines_of)
  b_lines_of : Binds K A.fd_lines_of ["table"] []
  F_format_table : Fun K "format_table" "format_table" st_format_table A.a_format_table A.fd_format_table
  m_format_table : mg "format_table" = some (.ref A.a_format_table)
  b_format_table : Binds K A.fd_format_table ["table"] []
  F_is_name : Fun K "is_name" "is_name" st_is_name A.a_is_name A.fd_is_name
  m_is_name : mg "is_name" = some (.ref A.a_is_name)
  b_is_name : Binds K A.fd_is_name ["thing"] []
  F_are_names : Fun K "are_names" "are_names" st_are_names A.a_are_names A.fd_are_names
  m_are_names : mg "are_names" = some (.ref A.a_are_names)
  b_are_names : Binds K A.fd_are_names ["thing", "least", "most"] []
  F_is_integer : Fun K "is_integer" "is_integer" st_is_integer A.a_is_integer A.fd_is_integer
  m_is_integer : mg "is_integer" = some (.ref A.a_is_integer)
  b_is_integer : Binds K A.fd_is_integer ["thing"] []
  F_is_value : Fun K "is_value" "is_value" st_is_value A.a_is_value A.fd_is_value
  m_is_value : mg "is_value" = some (.ref A.a_is_value)
  b_is_value : Binds K A.fd_is_value ["thing"] []
  F_is_row : Fun K "is_row" "is_row" st_is_row A.a_is_row A.fd_is_row
  m_is_row : mg "is_row" = some (.ref A.a_is_row)
  b_is_row : Binds K A.fd_is_row ["thing", "many"] []
  F_are_rows : Fun K "are_rows" "are_rows" st_are_rows A.a_are_rows A.fd_are_rows
  m_are_rows : mg "are_rows" = some (.ref A.a_are_rows)
  b_are_rows : Binds K A.fd_are_rows ["thing", "many"] []
  F_T_init : Fun K "__init__" "Table.__init__" st_T_init A.a_T_init A.fd_T_init
  mk_T : Mk K A.c_T A.a_T_init
  b_T_init : Binds K A.fd_T_init ["self", "columns", "rows"] []
  F_columns_of : Fun K "columns_of" "columns_of" st_columns_of A.a_columns_of A.fd_columns_of
  m_columns_of : mg "columns_of" = some (.ref A.a_columns_of)
  b_columns_of : Binds K A.fd_columns_of ["line"] []
  F_value_of : Fun K "value_of" "value_of" st_value_of A.a_value_of A.fd_value_of
  m_value_of : mg "value_of" = some (.ref A.a_value_of)
  b_value_of : Binds K A.fd_value_of ["word"] []
  F_row_of : Fun K "row_of" "row_of" st_row_of A.a_row_of A.fd_row_of
  m_row_of : mg "row_of" = some (.ref A.a_row_of)
  b_row_of : Binds K A.fd_row_of ["line", "many"] []
  F_parse_table : Fun K "parse_table" "parse_table" st_parse_table A.a_parse_table A.fd_parse_table
  m_parse_table : mg "parse_table" = some (.ref A.a_parse_table)
  b_parse_table : Binds K A.fd_parse_table ["text"] []
  F_w_mixed : Fun K "_law_mixed" "_law_mixed" st_w_mixed A.a_w_mixed A.fd_w_mixed
  m_w_mixed : mg "_law_mixed" = some (.ref A.a_w_mixed)
  b_w_mixed : Binds K A.fd_w_mixed ["_law_draw", "_law_some"] []
  F_w_pick : Fun K "_law_pick" "_law_pick" st_w_pick A.a_w_pick A.fd_w_pick
  m_w_pick : mg "_law_pick" = some (.ref A.a_w_pick)
  b_w_pick : Binds K A.fd_w_pick ["_law_draw", "_law_some"] []
  F_w_names : Fun K "_law_names" "_law_names" st_w_names A.a_w_names A.fd_w_names
  m_w_names : mg "_law_names" = some (.ref A.a_w_names)
  b_w_names : Binds K A.fd_w_names ["_law_draw", "_law_many"] []
  F_w_classes : Fun K "_law_classes" "_law_classes" st_w_classes A.a_w_classes A.fd_w_classes
  m_w_classes : mg "_law_classes" = some (.ref A.a_w_classes)
  b_w_classes : Binds K A.fd_w_classes ["_law_draw", "_law_many"] []
  F_w_code : Fun K "_law_code" "_law_code" st_w_code A.a_w_code A.fd_w_code
  m_w_code : mg "_law_code" = some (.ref A.a_w_code)
  b_w_code : Binds K A.fd_w_code ["_law_draw", "_law_many"] []
  F_w_model : Fun K "_law_model" "_law_model" st_w_model A.a_w_model A.fd_w_model
  m_w_model : mg "_law_model" = some (.ref A.a_w_model)
  b_w_model : Binds K A.fd_w_model ["_law_draw", "_law_width", "_law_height"] []
  F_w_table : Fun K "_law_table" "_law_table" st_w_table A.a_w_table A.fd_w_table
  m_w_table : mg "_law_table" = some (.ref A.a_w_table)
  b_w_table : Binds K A.fd_w_table ["_law_model_here"] []
  F_w_text : Fun K "_law_text" "_law_text" st_w_text A.a_w_text A.fd_w_text
  m_w_text : mg "_law_text" = some (.ref A.a_w_text)
  b_w_text : Binds K A.fd_w_text ["_law_model_here"] []
  F_law : Fun K "law" "law" st_law A.a_law A.fd_law
  m_law : mg "law" = some (.ref A.a_law)
  b_law : Binds K A.fd_law ["_law_script"] []
  cl_T : Cls K A.c_T
  na_T_own_columns : NoAttr K A.c_T "own_columns"
  na_T_own_rows : NoAttr K A.c_T "own_rows"
  na_T_places : NoAttr K A.c_T "places"
  mc_T : mg "Table" = some (.ref A.c_T)
  ins_T : C8.InsC K A.c_T
  ne_T : PySem.W.findIn K (.ref A.c_T) "__ne__" = some (some (.builtin "object.__ne__"))
  ob_T : PySem.W.mroIn K A.c_T (.type "object") = some true
  kb_format_table_0 : KBinds K A.fd_format_table ["table"] ["table"] sw0 sw0
  kb_parse_table_0 : KBinds K A.fd_parse_table ["text"] ["text"] sw0 sw0
  n_abs : mg "abs" = none
  n_all : mg "all" = none
  n_bool : mg "bool" = none
  n_dict : mg "dict" = none
  n_enumerate : mg "enumerate" = none
  n_int : mg "int" = none
  n_isinstance : mg "isinstance" = none
  n_len : mg "len" = none
  n_list : mg "list" = none
  n_max : mg "max" = none
  n_min : mg "min" = none
  n_range : mg "range" = none
  n_set : mg "set" = none
  n_sorted : mg "sorted" = none
  n_str : mg "str" = none
  n_tuple : mg "tuple" = none
  n_zip : mg "zip" = none
  g_LETTERS : mg "LETTERS" = some (.str "abcdefghijklmnopqrstuvwxyz" A.t_LETTERS)
  g_LONGEST_NAME : mg "LONGEST_NAME" = some (.int 8 A.t_LONGEST_NAME)
  g_MOST_COLUMNS : mg "MOST_COLUMNS" = some (.int 5 A.t_MOST_COLUMNS)
  g_MOST_ROWS : mg "MOST_ROWS" = some (.int 8 A.t_MOST_ROWS)
  g_FIRST_TOO_LARGE : mg "FIRST_TOO_LARGE" = some (.int 10000000000000000000000000000000000000000 A.t_FIRST_TOO_LARGE)
  g_COLUMN : mg "COLUMN" = some (.str "column" A.t_COLUMN)
  g_ROW : mg "ROW" = some (.str "row" A.t_ROW)
  g_DIGITS : mg "DIGITS" = some (.str "0123456789" A.t_DIGITS)
  g_MOST_DIGITS : mg "MOST_DIGITS" = some (.int 40 A.t_MOST_DIGITS)
theorem sc_w_begin : FnScope ["_law_script", "_law_number"] ["_law_script"] (defScope st_w_begin) := ⟨rfl, rfl, rfl, by decide +kernel, rfl, by decide +kernel, by decide +kernel⟩
theorem d_w_begin {Pr : Program} {w : World} {K : PySem.W.Frag} {mg : Str → Option Value} {base : Heap} {A : Ad} (T : Tx Pr base K mg A) : FnG Pr w K mg base CX0 1 A.a_w_begin A.fd_w_begin ["_law_script"] (spBegin K) := by
  refine fnG_of T.F_w_begin sc_w_begin (fun vs H Q E h => by obtain ⟨a, ns, rfl, _⟩ := h; rfl) fun cdv A0 outer s H vs Q E hr hg h => ?_
  have nd := sc_w_begin.nd
  refine ⟨_, pss_one (ps_ret (pe_lst (pa_cons (pe_orT (pe_lc (own := [("_law_number", 1)]) (g := gName 1) (tt := tYes) rfl nd (pi_list (pe_slice sl_list (e_own 0) po_none (po_some pe_int))) (blkOk_by (N := ["_law_script", "_law_number"]) (sc := defScope st_w_begin) (by decide +kernel)) (fun _ _ _ _ _ => pg_name (i := 1) nd rfl (Or.inl rfl)) (fun _ _ _ _ _ => pts_nil)
    (fun _ _ _ _ _ => pe_callB call_abs rfl T.n_abs bt_abs (pa_cons (e_own 1) pa_nil))) (pe_one (pe_lst (pa_cons pe_int pa_nil)))) (pa_cons pe_int (pa_cons pe_int (pa_cons pe_int pa_nil)))))), ?_⟩
  exact begin_sem rfl h
theorem sc_w_take : FnScope ["_law_draw", "_law_bound", "_law_numbers", "_law_at", "_law_number"] ["_law_draw", "_law_bound"] (defScope st_w_take) := ⟨rfl, rfl, rfl, by decide +kernel, rfl, by decide +kernel, by decide +kernel⟩
theorem d_w_take {Pr : Program} {w : World} {K : PySem.W.Frag} {mg : Str → Option Value} {base : Heap} {A : Ad} (T : Tx Pr base K mg A) : FnG Pr w K mg base CX0 1 A.a_w_take A.fd_w_take ["_law_draw", "_law_bound"] (spR K A.cls 2 f_w_take) := by
  refine fnG_of T.F_w_take sc_w_take (fun vs H Q E h => h.1) fun cdv A0 outer s H vs Q E hr hg h => ?_
  have nd := sc_w_take.nd
  refine ⟨_, pss_cons (ps_set (i := 2) nd rfl (Or.inl rfl) (pe_ix ix_list (e_own 0) pe_int fun _ _ => rfl))
    (pss_cons (ps_set (i := 3) nd rfl (Or.inl rfl) (pe_op op_mod (pe_callTy call_int1 rfl T.n_int bt_int (pa_cons (pe_ix ix_list (e_own 0) pe_int fun _ _ => rfl) pa_nil)) (pe_callB call_len_seq rfl T.n_len bt_len (pa_cons (e_own 2) pa_nil))))
    (pss_cons (ps_set (i := 4) nd rfl (Or.inl rfl) (pe_ix ix_list (e_own 2) (e_own 3) fun _ _ => rfl))
    (pss_cons (ps_if (pt_cmpR op_ge (e_own 4) (pe_op op_pow pe_int pe_int) rfl) (pss_cons (ps_asg (pe_op op_fdivW (e_own 4) (e_own 1)) (pg_sub (e_own 2) (e_own 3) set_list)) (pss_one (ps_ret (pe_op op_mod (pe_callTy call_int1 rfl T.n_int bt_int (pa_cons (e_own 4) pa_nil)) (e_own 1))))) pss_nil)
    (pss_cons (ps_asg (pe_op op_add (pe_ix ix_list (e_own 0) pe_int fun _ _ => rfl) pe_int) (pg_sub (e_own 0) pe_int set_list))
    (pss_cons (ps_asg (pe_op op_add (pe_ix ix_list (e_own 0) pe_int fun _ _ => rfl) pe_int) (pg_sub (e_own 0) pe_int set_list))
    (pss_cons (ps_asg (pe_op op_mod (pe_callTy call_int1 rfl T.n_int bt_int (pa_cons (pe_op op_add (pe_op op_add (pe_op op_add (pe_op op_mul (pe_ix ix_list (e_own 0) pe_int fun _ _ => rfl) pe_int) (e_own 4)) (pe_op op_mul pe_int (pe_ix ix_list (e_own 0) pe_int fun _ _ => rfl))) pe_int) pa_nil)) pe_int) (pg_sub (e_own 0) pe_int set_list))
    (pss_one (ps_ret (pe_op op_mod (pe_op op_fdiv (pe_op op_mod (pe_callTy call_int1 rfl T.n_int bt_int (pa_cons (pe_op op_mul (pe_ix ix_list (e_own 0) pe_int fun _ _ => rfl) (pe_ix ix_list (e_own 0) pe_int fun _ _ => rfl)) pa_nil)) pe_int) pe_int) (e_own 1)))))))))), ?_⟩
  exact take_sem rfl h
section
variable {Pr : Program} {w : World} {K : PySem.W.Frag} {mg : Str → Option Value} {base : Heap} {A : Ad}
def r_T_eq : RunS := (sSeq (sIf (toT (rNot (runN (rCons (rVar 1) (rCons (rC (.cl 0)) rNil)) (fIsC 0)))) (sSeq (sRet (rC (.bl false)))
    sNx) sNx)
    (sSeq (sRet (rAnd (run2 (run1 (rBor 0) (fFld 0 "own_columns")) (run1 (rBor 1) (fFld 0 "own_columns")) fEq) (run2 (run1 (rBor 0) (fFld 0 "own_rows")) (run1 (rBor 1) (fFld 0 "own_rows")) fEqDD)))
    sNx))
@[irreducible] def f_T_eq : Fn := runFn 2 r_T_eq
theorem b_T_eq (T : Tx Pr base K mg A) (cdv : Value) (A0 : Around) (outer : List PySem.Env) (s : Shared) (H : Hp) (E : XK) (hr : Room 1 (A0.deeper (PyProof.Rows.envOfC "Table.__eq__" (defScope st_T_eq) s.heap.objs.size A.a_T_eq cdv))) (hg : NoG (A0.deeper (PyProof.Rows.envOfC "Table.__eq__" (defScope st_T_eq) s.heap.objs.size A.a_T_eq cdv))) (W : Wd) (hK : W.K = K) (hc : W.cls = A.cls) :
    PSs (cxOf CX0 Pr w K mg base ["self", "other"] "Table.__eq__" (defScope st_T_eq) A.a_T_eq cdv A0 outer s H E).nox (defBody st_T_eq) (TVS W r_T_eq) := by
  obtain ⟨K1, wa, wb, cl1⟩ := W
  subst hK
  subst hc
  exact (z_cons (z_if (t_not (t_val (e_isC T.ins_T T.n_isinstance bt_isinstance (a_cons (e_var 1) (a_cons (e_cl T.mc_T) a_nil))))) (z_cons (z_ret e_bl)
    z_nil) z_nil)
    (z_cons (z_ret (e_and (e_eq rfl hr (e_fld rfl T.cl_T T.na_T_own_columns (e_bor 0)) (e_fld rfl T.cl_T T.na_T_own_columns (e_bor 1))) (e_one (e_eqDD rfl hr (e_fld rfl T.cl_T T.na_T_own_rows (e_bor 0)) (e_fld rfl T.cl_T T.na_T_own_rows (e_bor 1))))))
    z_nil))
theorem d_T_eq (T : Tx Pr base K mg A) : FnG Pr w K mg base CX0 2 A.a_T_eq A.fd_T_eq ["self", "other"] (spR K A.cls 2 f_T_eq) := by
  unfold f_T_eq
  exact fn_ok (k := 1) (N := ["self", "other"]) (run := r_T_eq) T.F_T_eq sc_T_eq fun cdv A0 outer s H E hr hg W hK hc => b_T_eq T cdv A0 outer s H E hr hg W hK hc
def r_T_columns : RunS := (sSeq (sRet (run1 (rBor 0) (fFld 0 "own_columns")))
    sNx)
@[irreducible] def f_T_columns : Fn := runFn 1 r_T_columns
theorem b_T_columns (T : Tx Pr base K mg A) (cdv : Value) (A0 : Around) (outer : List PySem.Env) (s : Shared) (H : Hp) (E : XK) (hr : Room 1 (A0.deeper (PyProof.Rows.envOfC "Table.columns" (defScope st_T_columns) s.heap.objs.size A.a_T_columns cdv))) (hg : NoG (A0.deeper (PyProof.Rows.envOfC "Table.columns" (defScope st_T_columns) s.heap.objs.size A.a_T_columns cdv))) (W : Wd) (hK : W.K = K) (hc : W.cls = A.cls) :
    PSs (cxOf CX0 Pr w K mg base ["self"] "Table.columns" (defScope st_T_columns) A.a_T_columns cdv A0 outer s H E).nox (defBody st_T_columns) (TVS W r_T_columns) := by
  obtain ⟨K1, wa, wb, cl1⟩ := W
  subst hK
  subst hc
  exact (z_cons (z_ret (e_fld rfl T.cl_T T.na_T_own_columns (e_bor 0)))
    z_nil)
theorem d_T_columns (T : Tx Pr base K mg A) : FnG Pr w K mg base CX0 2 A.a_T_columns A.fd_T_columns ["self"] (spR K A.cls 1 f_T_columns) := by
  unfold f_T_columns
  exact fn_ok (k := 1) (N := ["self"]) (run := r_T_columns) T.F_T_columns sc_T_columns fun cdv A0 outer s H E hr hg W hK hc => b_T_columns T cdv A0 outer s H E hr hg W hK hc
def r_T_rows : RunS := (sSeq (sRet (runN (rCons (run1 (rBor 0) (fFld 0 "own_rows")) rNil) fTupleD))
    sNx)
@[irreducible] def f_T_rows : Fn := runFn 1 r_T_rows
theorem b_T_rows (T : Tx Pr base K mg A) (cdv : Value) (A0 : Around) (outer : List PySem.Env) (s : Shared) (H : Hp) (E : XK) (hr : Room 1 (A0.deeper (PyProof.Rows.envOfC "Table.rows" (defScope st_T_rows) s.heap.objs.size A.a_T_rows cdv))) (hg : NoG (A0.deeper (PyProof.Rows.envOfC "Table.rows" (defScope st_T_rows) s.heap.objs.size A.a_T_rows cdv))) (W : Wd) (hK : W.K = K) (hc : W.cls = A.cls) :
    PSs (cxOf CX0 Pr w K mg base ["self"] "Table.rows" (defScope st_T_rows) A.a_T_rows cdv A0 outer s H E).nox (defBody st_T_rows) (TVS W r_T_rows) := by
  obtain ⟨K1, wa, wb, cl1⟩ := W
  subst hK
  subst hc
  exact (z_cons (z_ret (e_bty (cr_tupleD rfl) p_tupleD T.n_tuple bt_tuple (a_cons (e_fld rfl T.cl_T T.na_T_own_rows (e_bor 0)) a_nil)))
    z_nil)
theorem d_T_rows (T : Tx Pr base K mg A) : FnG Pr w K mg base CX0 2 A.a_T_rows A.fd_T_rows ["self"] (spR K A.cls 1 f_T_rows) := by
  unfold f_T_rows
  exact fn_ok (k := 1) (N := ["self"]) (run := r_T_rows) T.F_T_rows sc_T_rows fun cdv A0 outer s H E hr hg W hK hc => b_T_rows T cdv A0 outer s H E hr hg W hK hc
def r_is_among : RunS := (sSeq (sRet (rAnd (runN (rCons (rBor 0) (rCons (rC (.ty "str")) rNil)) fIsi) (run2 (rBor 0) (rBor 1) (fInDG id))))
    sNx)
@[irreducible] def f_is_among : Fn := runFn 2 r_is_among
theorem b_is_among (T : Tx Pr base K mg A) (cdv : Value) (A0 : Around) (outer : List PySem.Env) (s : Shared) (H : Hp) (E : XK) (hr : Room 1 (A0.deeper (PyProof.Rows.envOfC "is_among" (defScope st_is_among) s.heap.objs.size A.a_is_among cdv))) (hg : NoG (A0.deeper (PyProof.Rows.envOfC "is_among" (defScope st_is_among) s.heap.objs.size A.a_is_among cdv))) (W : Wd) (hK : W.K = K) (hc : W.cls = A.cls) :
    PSs (cxOf CX0 Pr w K mg base ["thing", "names"] "is_among" (defScope st_is_among) A.a_is_among cdv A0 outer s H E).nox (defBody st_is_among) (TVS W r_is_among) := by
  obtain ⟨K1, wa, wb, cl1⟩ := W
  subst hK
  subst hc
  exact (z_cons (z_ret (e_and (e_blt cr_isiAll p_isi T.n_isinstance bt_isinstance (a_cons (e_bor 0) (a_cons (e_ty T.n_str bt_str) a_nil))) (e_one (e_inD hr (e_bor 0) (e_bor 1)))))
    z_nil)
theorem d_is_among (T : Tx Pr base K mg A) : FnG Pr w K mg base CX0 2 A.a_is_among A.fd_is_among ["thing", "names"] (spR K A.cls 2 f_is_among) := by
  unfold f_is_among
  exact fn_ok (k := 1) (N := ["thing", "names"]) (run := r_is_among) T.F_is_among sc_is_among fun cdv A0 outer s H E hr hg W hK hc => b_is_among T cdv A0 outer s H E hr hg W hK hc
def r_T_getitem : RunS := (sSeq (sIf (toT (rNot (rCall f_is_among (rCons (rVar 1) (rCons (run1 (rBor 0) (fFld 0 "own_rows")) rNil))))) (sSeq sFail
    sNx) sNx)
    (sSeq (sRet (rDc (iZipA (rCons (run1 (rBor 0) (fFld 0 "own_columns")) (rCons (run2 (run1 (rBor 0) (fFld 0 "own_rows")) (rBor 1) fIxD) rNil))) none (tgTup 2 (tgCons (tgN 2) (tgCons (tgN 3) tgNil))) rYes (rVar 2) (rVar 3) [2, 3]))
    sNx))
@[irreducible] def f_T_getitem : Fn := runFn 4 r_T_getitem
theorem b_T_getitem (T : Tx Pr base K mg A) (cdv : Value) (A0 : Around) (outer : List PySem.Env) (s : Shared) (H : Hp) (E : XK) (hr : Room 2 (A0.deeper (PyProof.Rows.envOfC "Table.__getitem__" (defScope st_T_getitem) s.heap.objs.size A.a_T_getitem cdv))) (hg : NoG (A0.deeper (PyProof.Rows.envOfC "Table.__getitem__" (defScope st_T_getitem) s.heap.objs.size A.a_T_getitem cdv))) (W : Wd) (hK : W.K = K) (hc : W.cls = A.cls) :
    PSs (cxOf CX0 Pr w K mg base ["self", "row", "column", "value"] "Table.__getitem__" (defScope st_T_getitem) A.a_T_getitem cdv A0 outer s H E).nox (defBody st_T_getitem) (TVS W r_T_getitem) := by
  obtain ⟨K1, wa, wb, cl1⟩ := W
  subst hK
  subst hc
  exact (z_cons (z_if (t_not (t_val (e_call ((d_is_among T).mono (by decide)) rfl rfl hr hg T.m_is_among T.F_is_among.kp T.b_is_among (a_cons (e_var 1) (a_cons (e_fld rfl T.cl_T T.na_T_own_rows (e_bor 0)) a_nil)) (LenR.ok (l_cons (l_cons l_nil)))))) (z_cons s_never
    z_nil) z_nil)
    (z_cons (z_ret (e_dc [("column", 2), ("value", 3)] sc_T_getitem.nd (blkOk_by (N := ["self", "row", "column", "value"]) (sc := (defScope st_T_getitem)) (by decide +kernel)) (x_zipA rfl rfl T.n_zip (e_fld rfl T.cl_T T.na_T_own_columns (e_bor 0)) (e_ixD hr (e_fld rfl T.cl_T T.na_T_own_rows (e_bor 0)) (e_bor 1))) (fun _ _ _ _ _ => (pg_tup rfl (pgs_cons (pg_name (i := 2) sc_T_getitem.nd rfl (Or.inl rfl)) (pgs_cons (pg_name (i := 3) sc_T_getitem.nd rfl (Or.inl rfl)) pgs_nil)))) (g_tup (n := 2) (g_cons (g_name (i := 2)) (g_cons (g_name (i := 3)) g_nil))) (fun _ _ _ _ _ => ts_nil) (fun _ _ _ _ _ => (e_var 2)) (fun _ _ _ _ _ => (e_var 3))))
    z_nil))
theorem d_T_getitem (T : Tx Pr base K mg A) : FnG Pr w K mg base CX0 3 A.a_T_getitem A.fd_T_getitem ["self", "row"] (spR K A.cls 2 f_T_getitem) := by
  unfold f_T_getitem
  exact fn_ok (k := 2) (N := ["self", "row", "column", "value"]) (run := r_T_getitem) T.F_T_getitem sc_T_getitem fun cdv A0 outer s H E hr hg W hK hc => b_T_getitem T cdv A0 outer s H E hr hg W hK hc
def r_row_text : RunS := (sSeq (sSet 2 (rIxO 0 f_T_getitem (rVar 0) (rVar 1)))
    (sSeq (sRet (rStrM (rC (.str " ")) (rCons (run2 (rDisp mkL (rCons (rC (.str "row")) (rCons (rVar 1) rNil))) (rLc (iSeq (rProp 0 f_T_columns (rVar 0))) none (tgN 3) rYes (runN (rCons (run2 (rBor 2) (rBor 3) fIxD) rNil) fStr) [3]) fAdd) rNil) fJoin))
    sNx))
@[irreducible] def f_row_text : Fn := runFn 4 r_row_text
theorem b_row_text (T : Tx Pr base K mg A) (cdv : Value) (A0 : Around) (outer : List PySem.Env) (s : Shared) (H : Hp) (E : XK) (hr : Room 4 (A0.deeper (PyProof.Rows.envOfC "row_text" (defScope st_row_text) s.heap.objs.size A.a_row_text cdv))) (hg : NoG (A0.deeper (PyProof.Rows.envOfC "row_text" (defScope st_row_text) s.heap.objs.size A.a_row_text cdv))) (W : Wd) (hK : W.K = K) (hc : W.cls = A.cls) :
    PSs (cxOf CX0 Pr w K mg base ["table", "row", "values", "column"] "row_text" (defScope st_row_text) A.a_row_text cdv A0 outer s H E).nox (defBody st_row_text) (TVS W r_row_text) := by
  obtain ⟨K1, wa, wb, cl1⟩ := W
  subst hK
  subst hc
  exact (z_cons (s_set 2 sc_row_text.nd (e_ixO ((d_T_getitem T).mono (by decide)) T.F_T_getitem T.getitem_s T.getitem_f rfl rfl hr hg T.b_T_getitem (e_var 0) (e_var 1)))
    (z_cons (z_ret (m_join rfl e_str (e_add rfl (e_lst (a_cons e_str (a_cons (e_var 1) a_nil))) (e_lc [("column", 3)] sc_row_text.nd (blkOk_by (N := ["table", "row", "values", "column"]) (sc := (defScope st_row_text)) (by decide +kernel)) (x_seq (e_prop ((d_T_columns T).mono (by decide)) T.cl_T T.p_T_columns rfl rfl hr hg T.b_T_columns (e_var 0)) rfl) (fun _ _ _ _ _ => (pg_name (i := 3) sc_row_text.nd rfl (Or.inl rfl))) (g_name (i := 3)) (fun _ _ _ _ _ => ts_nil) (fun _ _ _ _ _ => (e_bty call_strU p_str T.n_str bt_str (a_cons (e_ixD hr (e_bor 2) (e_bor 3)) a_nil)))))))
    z_nil))
theorem d_row_text (T : Tx Pr base K mg A) : FnG Pr w K mg base CX0 5 A.a_row_text A.fd_row_text ["table", "row"] (spR K A.cls 2 f_row_text) := by
  unfold f_row_text
  exact fn_ok (k := 4) (N := ["table", "row", "values", "column"]) (run := r_row_text) T.F_row_text sc_row_text fun cdv A0 outer s H E hr hg W hK hc => b_row_text T cdv A0 outer s H E hr hg W hK hc
def r_lines_of : RunS := (sSeq (sRet (run2 (rDisp mkL (rCons (rStrM (rC (.str " ")) (rCons (run2 (rDisp mkL (rCons (rC (.str "columns")) rNil)) (runN (rCons (rProp 0 f_T_columns (rVar 0)) rNil) fList) fAdd) rNil) fJoin) rNil)) (rLc (iSeq (rProp 0 f_T_rows (rVar 0))) none (tgN 1) rYes (rCall f_row_text (rCons (rVar 0) (rCons (rVar 1) rNil))) [1]) fAdd))
    sNx)
@[irreducible] def f_lines_of : Fn := runFn 2 r_lines_of
theorem b_lines_of (T : Tx Pr base K mg A) (cdv : Value) (A0 : Around) (outer : List PySem.Env) (s : Shared) (H : Hp) (E : XK) (hr : Room 5 (A0.deeper (PyProof.Rows.envOfC "lines_of" (defScope st_lines_of) s.heap.objs.size A.a_lines_of cdv))) (hg : NoG (A0.deeper (PyProof.Rows.envOfC "lines_of" (defScope st_lines_of) s.heap.objs.size A.a_lines_of cdv))) (W : Wd) (hK : W.K = K) (hc : W.cls = A.cls) :
    PSs (cxOf CX0 Pr w K mg base ["table", "row"] "lines_of" (defScope st_lines_of) A.a_lines_of cdv A0 outer s H E).nox (defBody st_lines_of) (TVS W r_lines_of) := by
  obtain ⟨K1, wa, wb, cl1⟩ := W
  subst hK
  subst hc
  exact (z_cons (z_ret (e_add rfl (e_lst (a_cons (m_join rfl e_str (e_add rfl (e_lst (a_cons e_str a_nil)) (e_bty call_list_of p_list T.n_list bt_list (a_cons (e_prop ((d_T_columns T).mono (by decide)) T.cl_T T.p_T_columns rfl rfl hr hg T.b_T_columns (e_var 0)) a_nil)))) a_nil)) (e_lc [("row", 1)] sc_lines_of.nd (blkOk_by (N := ["table", "row"]) (sc := (defScope st_lines_of)) (by decide +kernel)) (x_seq (e_prop ((d_T_rows T).mono (by decide)) T.cl_T T.p_T_rows rfl rfl hr hg T.b_T_rows (e_var 0)) rfl) (fun _ _ _ _ _ => (pg_name (i := 1) sc_lines_of.nd rfl (Or.inl rfl))) (g_name (i := 1)) (fun _ _ _ _ _ => ts_nil) (fun _ _ _ _ _ => (e_call ((d_row_text T).mono (by decide)) rfl rfl hr hg T.m_row_text T.F_row_text.kp T.b_row_text (a_cons (e_var 0) (a_cons (e_var 1) a_nil)) (LenR.ok (l_cons (l_cons l_nil))))))))
    z_nil)
theorem d_lines_of (T : Tx Pr base K mg A) : FnG Pr w K mg base CX0 6 A.a_lines_of A.fd_lines_of ["table"] (spR K A.cls 1 f_lines_of) := by
  unfold f_lines_of
  exact fn_ok (k := 5) (N := ["table", "row"]) (run := r_lines_of) T.F_lines_of sc_lines_of fun cdv A0 outer s H E hr hg W hK hc => b_lines_of T cdv A0 outer s H E hr hg W hK hc
def r_format_table : RunS := (sSeq (sRet (rStrM (rC (.str "")) (rCons (rLc (iSeq (rCall f_lines_of (rCons (rVar 0) rNil))) none (tgN 1) rYes (run2 (rBor 1) (rC (.str "\n")) fAdd) [1]) rNil) fJoin))
    sNx)
@[irreducible] def f_format_table : Fn := runFn 2 r_format_table
theorem b_format_table (T : Tx Pr base K mg A) (cdv : Value) (A0 : Around) (outer : List PySem.Env) (s : Shared) (H : Hp) (E : XK) (hr : Room 6 (A0.deeper (PyProof.Rows.envOfC "format_table" (defScope st_format_table) s.heap.objs.size A.a_format_table cdv))) (hg : NoG (A0.deeper (PyProof.Rows.envOfC "format_table" (defScope st_format_table) s.heap.objs.size A.a_format_table cdv))) (W : Wd) (hK : W.K = K) (hc : W.cls = A.cls) :
    PSs (cxOf CX0 Pr w K mg base ["table", "line"] "format_table" (defScope st_format_table) A.a_format_table cdv A0 outer s H E).nox (defBody st_format_table) (TVS W r_format_table) := by
  obtain ⟨K1, wa, wb, cl1⟩ := W
  subst hK
  subst hc
  exact (z_cons (z_ret (m_join rfl e_str (e_lc [("line", 1)] sc_format_table.nd (blkOk_by (N := ["table", "line"]) (sc := (defScope st_format_table)) (by decide +kernel)) (x_seq (e_call ((d_lines_of T).mono (by decide)) rfl rfl hr hg T.m_lines_of T.F_lines_of.kp T.b_lines_of (a_cons (e_var 0) a_nil) (LenR.ok (l_cons l_nil))) rfl) (fun _ _ _ _ _ => (pg_name (i := 1) sc_format_table.nd rfl (Or.inl rfl))) (g_name (i := 1)) (fun _ _ _ _ _ => ts_nil) (fun _ _ _ _ _ => (e_add rfl (e_bor 1) e_str)))))
    z_nil)
theorem d_format_table (T : Tx Pr base K mg A) : FnG Pr w K mg base CX0 7 A.a_format_table A.fd_format_table ["table"] (spR K A.cls 1 f_format_table) := by
  unfold f_format_table
  exact fn_ok (k := 6) (N := ["table", "line"]) (run := r_format_table) T.F_format_table sc_format_table fun cdv A0 outer s H E hr hg W hK hc => b_format_table T cdv A0 outer s H E hr hg W hK hc
def r_is_name : RunS := (sSeq (sIf (toT (rOr (rNot (runN (rCons (rBor 0) (rCons (rC (.ty "str")) rNil)) fIsi)) (rNot (rChn fLe fLe (rC (.int 1)) (runN (rCons (rBor 0) rNil) fLen) (rC (.int 8)))))) (sSeq (sRet (rC (.bl false)))
    sNx) sNx)
    (sSeq (sRet (runN (rCons (rLc (iSeq (rVar 0)) none (tgN 1) rYes (run2 (rBor 1) (rC (.str "abcdefghijklmnopqrstuvwxyz")) fIn) [1]) rNil) fAll))
    sNx))
@[irreducible] def f_is_name : Fn := runFn 2 r_is_name
theorem b_is_name (T : Tx Pr base K mg A) (cdv : Value) (A0 : Around) (outer : List PySem.Env) (s : Shared) (H : Hp) (E : XK) (hr : Room 1 (A0.deeper (PyProof.Rows.envOfC "is_name" (defScope st_is_name) s.heap.objs.size A.a_is_name cdv))) (hg : NoG (A0.deeper (PyProof.Rows.envOfC "is_name" (defScope st_is_name) s.heap.objs.size A.a_is_name cdv))) (W : Wd) (hK : W.K = K) (hc : W.cls = A.cls) :
    PSs (cxOf CX0 Pr w K mg base ["thing", "letter"] "is_name" (defScope st_is_name) A.a_is_name cdv A0 outer s H E).nox (defBody st_is_name) (TVS W r_is_name) := by
  obtain ⟨K1, wa, wb, cl1⟩ := W
  subst hK
  subst hc
  exact (z_cons (z_if (t_bool (w_or (t_not (t_val (e_blt cr_isiAll p_isi T.n_isinstance bt_isinstance (a_cons (e_bor 0) (a_cons (e_ty T.n_str bt_str) a_nil))))) (w_or1 (t_not (t_lele rfl hr e_int (e_blt cr_lenAll p_len T.n_len bt_len (a_cons (e_bor 0) a_nil)) (e_gint T.g_LONGEST_NAME)))))) (z_cons (z_ret e_bl)
    z_nil) z_nil)
    (z_cons (z_ret (e_blt (cr_all rfl) p_all T.n_all bt_all (a_cons (e_lc [("letter", 1)] sc_is_name.nd (blkOk_by (N := ["thing", "letter"]) (sc := (defScope st_is_name)) (by decide +kernel)) (x_seq (e_var 0) rfl) (fun _ _ _ _ _ => (pg_name (i := 1) sc_is_name.nd rfl (Or.inl rfl))) (g_name (i := 1)) (fun _ _ _ _ _ => ts_nil) (fun _ _ _ _ _ => (e_in rfl hr (e_bor 1) (e_gstr T.g_LETTERS)))) a_nil)))
    z_nil))
theorem d_is_name (T : Tx Pr base K mg A) : FnG Pr w K mg base CX0 2 A.a_is_name A.fd_is_name ["thing"] (spR K A.cls 1 f_is_name) := by
  unfold f_is_name
  exact fn_ok (k := 1) (N := ["thing", "letter"]) (run := r_is_name) T.F_is_name sc_is_name fun cdv A0 outer s H E hr hg W hK hc => b_is_name T cdv A0 outer s H E hr hg W hK hc
def r_are_names : RunS := (sSeq (sIf (toT (rOr (rNot (runN (rCons (rBor 0) (rCons (rDisp mkT (rCons (rC (.ty "list")) (rCons (rC (.ty "tuple")) rNil))) rNil)) fIsi)) (rNot (rChn fLe fLe (rBor 1) (runN (rCons (rBor 0) rNil) fLen) (rBor 2))))) (sSeq (sRet (rC (.bl false)))
    sNx) sNx)
    (sSeq (sRet (rAnd (runN (rCons (rLc (iSeq (rVar 0)) none (tgN 3) rYes (rCall f_is_name (rCons (rVar 3) rNil)) [3]) rNil) fAll) (run2 (run1 (rBor 0) fLenS) (runN (rCons (rBor 0) rNil) fLen) fEq)))
    sNx))
@[irreducible] def f_are_names : Fn := runFn 4 r_are_names
theorem b_are_names (T : Tx Pr base K mg A) (cdv : Value) (A0 : Around) (outer : List PySem.Env) (s : Shared) (H : Hp) (E : XK) (hr : Room 2 (A0.deeper (PyProof.Rows.envOfC "are_names" (defScope st_are_names) s.heap.objs.size A.a_are_names cdv))) (hg : NoG (A0.deeper (PyProof.Rows.envOfC "are_names" (defScope st_are_names) s.heap.objs.size A.a_are_names cdv))) (W : Wd) (hK : W.K = K) (hc : W.cls = A.cls) :
    PSs (cxOf CX0 Pr w K mg base ["thing", "least", "most", "name"] "are_names" (defScope st_are_names) A.a_are_names cdv A0 outer s H E).nox (defBody st_are_names) (TVS W r_are_names) := by
  obtain ⟨K1, wa, wb, cl1⟩ := W
  subst hK
  subst hc
  exact (z_cons (z_if (t_bool (w_or (t_not (t_val (e_blt cr_isiAll p_isi T.n_isinstance bt_isinstance (a_cons (e_bor 0) (a_cons (e_tup (a_cons (e_ty T.n_list bt_list) (a_cons (e_ty T.n_tuple bt_tuple) a_nil))) a_nil))))) (w_or1 (t_not (t_lele rfl hr (e_bor 1) (e_blt cr_lenAll p_len T.n_len bt_len (a_cons (e_bor 0) a_nil)) (e_bor 2)))))) (z_cons (z_ret e_bl)
    z_nil) z_nil)
    (z_cons (z_ret (e_and (e_blt (cr_all rfl) p_all T.n_all bt_all (a_cons (e_lc [("name", 3)] sc_are_names.nd (blkOk_by (N := ["thing", "least", "most", "name"]) (sc := (defScope st_are_names)) (by decide +kernel)) (x_seq (e_var 0) rfl) (fun _ _ _ _ _ => (pg_name (i := 3) sc_are_names.nd rfl (Or.inl rfl))) (g_name (i := 3)) (fun _ _ _ _ _ => ts_nil) (fun _ _ _ _ _ => (e_call ((d_is_name T).mono (by decide)) rfl rfl hr hg T.m_is_name T.F_is_name.kp T.b_is_name (a_cons (e_var 3) a_nil) (LenR.ok (l_cons l_nil))))) a_nil)) (e_one (e_eq rfl hr (e_lenS rfl T.n_len T.n_set (e_bor 0)) (e_blt cr_lenAll p_len T.n_len bt_len (a_cons (e_bor 0) a_nil))))))
    z_nil))
theorem d_are_names (T : Tx Pr base K mg A) : FnG Pr w K mg base CX0 3 A.a_are_names A.fd_are_names ["thing", "least", "most"] (spR K A.cls 3 f_are_names) := by
  unfold f_are_names
  exact fn_ok (k := 2) (N := ["thing", "least", "most", "name"]) (run := r_are_names) T.F_are_names sc_are_names fun cdv A0 outer s H E hr hg W hK hc => b_are_names T cdv A0 outer s H E hr hg W hK hc
def r_is_integer : RunS := (sSeq (sRet (rAnd (runN (rCons (rBor 0) (rCons (rC (.ty "int")) rNil)) fIsi) (rNot (runN (rCons (rBor 0) (rCons (rC (.ty "bool")) rNil)) fIsi))))
    sNx)
@[irreducible] def f_is_integer : Fn := runFn 1 r_is_integer
theorem b_is_integer (T : Tx Pr base K mg A) (cdv : Value) (A0 : Around) (outer : List PySem.Env) (s : Shared) (H : Hp) (E : XK) (hr : Room 1 (A0.deeper (PyProof.Rows.envOfC "is_integer" (defScope st_is_integer) s.heap.objs.size A.a_is_integer cdv))) (hg : NoG (A0.deeper (PyProof.Rows.envOfC "is_integer" (defScope st_is_integer) s.heap.objs.size A.a_is_integer cdv))) (W : Wd) (hK : W.K = K) (hc : W.cls = A.cls) :
    PSs (cxOf CX0 Pr w K mg base ["thing"] "is_integer" (defScope st_is_integer) A.a_is_integer cdv A0 outer s H E).nox (defBody st_is_integer) (TVS W r_is_integer) := by
  obtain ⟨K1, wa, wb, cl1⟩ := W
  subst hK
  subst hc
  exact (z_cons (z_ret (e_and (e_blt cr_isiAll p_isi T.n_isinstance bt_isinstance (a_cons (e_bor 0) (a_cons (e_ty T.n_int bt_int) a_nil))) (e_one (e_not (e_blt cr_isiAll p_isi T.n_isinstance bt_isinstance (a_cons (e_bor 0) (a_cons (e_ty T.n_bool bt_bool) a_nil)))))))
    z_nil)
theorem d_is_integer (T : Tx Pr base K mg A) : FnG Pr w K mg base CX0 2 A.a_is_integer A.fd_is_integer ["thing"] (spR K A.cls 1 f_is_integer) := by
  unfold f_is_integer
  exact fn_ok (k := 1) (N := ["thing"]) (run := r_is_integer) T.F_is_integer sc_is_integer fun cdv A0 outer s H E hr hg W hK hc => b_is_integer T cdv A0 outer s H E hr hg W hK hc
def r_is_value : RunS := (sSeq (sIf (toT (rCall f_is_integer (rCons (rVar 0) rNil))) (sSeq (sRet (rChn fLt fLt (run1 (rC (.int 10000000000000000000000000000000000000000)) fNeg) (rBor 0) (rC (.int 10000000000000000000000000000000000000000))))
    sNx) sNx)
    (sSeq (sRet (rCall f_is_name (rCons (rVar 0) rNil)))
    sNx))
@[irreducible] def f_is_value : Fn := runFn 1 r_is_value
theorem b_is_value (T : Tx Pr base K mg A) (cdv : Value) (A0 : Around) (outer : List PySem.Env) (s : Shared) (H : Hp) (E : XK) (hr : Room 2 (A0.deeper (PyProof.Rows.envOfC "is_value" (defScope st_is_value) s.heap.objs.size A.a_is_value cdv))) (hg : NoG (A0.deeper (PyProof.Rows.envOfC "is_value" (defScope st_is_value) s.heap.objs.size A.a_is_value cdv))) (W : Wd) (hK : W.K = K) (hc : W.cls = A.cls) :
    PSs (cxOf CX0 Pr w K mg base ["thing"] "is_value" (defScope st_is_value) A.a_is_value cdv A0 outer s H E).nox (defBody st_is_value) (TVS W r_is_value) := by
  obtain ⟨K1, wa, wb, cl1⟩ := W
  subst hK
  subst hc
  exact (z_cons (z_if (t_val (e_call ((d_is_integer T).mono (by decide)) rfl rfl hr hg T.m_is_integer T.F_is_integer.kp T.b_is_integer (a_cons (e_var 0) a_nil) (LenR.ok (l_cons l_nil)))) (z_cons (z_ret (e_ltlt rfl hr (e_neg (e_gint T.g_FIRST_TOO_LARGE)) (e_bor 0) (e_gint T.g_FIRST_TOO_LARGE)))
    z_nil) z_nil)
    (z_cons (z_ret (e_call ((d_is_name T).mono (by decide)) rfl rfl hr hg T.m_is_name T.F_is_name.kp T.b_is_name (a_cons (e_var 0) a_nil) (LenR.ok (l_cons l_nil))))
    z_nil))
theorem d_is_value (T : Tx Pr base K mg A) : FnG Pr w K mg base CX0 3 A.a_is_value A.fd_is_value ["thing"] (spR K A.cls 1 f_is_value) := by
  unfold f_is_value
  exact fn_ok (k := 2) (N := ["thing"]) (run := r_is_value) T.F_is_value sc_is_value fun cdv A0 outer s H E hr hg W hK hc => b_is_value T cdv A0 outer s H E hr hg W hK hc
def r_is_row : RunS := (sSeq (sRet (rAnd (runN (rCons (rBor 0) (rCons (rC (.ty "tuple")) rNil)) fIsi) (rAnd (run2 (runN (rCons (rBor 0) rNil) fLen) (rBor 1) fEq) (runN (rCons (rLc (iSeq (rVar 0)) none (tgN 2) rYes (rCall f_is_value (rCons (rVar 2) rNil)) [2]) rNil) fAll))))
    sNx)
@[irreducible] def f_is_row : Fn := runFn 3 r_is_row
theorem b_is_row (T : Tx Pr base K mg A) (cdv : Value) (A0 : Around) (outer : List PySem.Env) (s : Shared) (H : Hp) (E : XK) (hr : Room 3 (A0.deeper (PyProof.Rows.envOfC "is_row" (defScope st_is_row) s.heap.objs.size A.a_is_row cdv))) (hg : NoG (A0.deeper (PyProof.Rows.envOfC "is_row" (defScope st_is_row) s.heap.objs.size A.a_is_row cdv))) (W : Wd) (hK : W.K = K) (hc : W.cls = A.cls) :
    PSs (cxOf CX0 Pr w K mg base ["thing", "many", "value"] "is_row" (defScope st_is_row) A.a_is_row cdv A0 outer s H E).nox (defBody st_is_row) (TVS W r_is_row) := by
  obtain ⟨K1, wa, wb, cl1⟩ := W
  subst hK
  subst hc
  exact (z_cons (z_ret (e_and (e_blt cr_isiAll p_isi T.n_isinstance bt_isinstance (a_cons (e_bor 0) (a_cons (e_ty T.n_tuple bt_tuple) a_nil))) (e_and (e_eq rfl hr (e_blt cr_lenAll p_len T.n_len bt_len (a_cons (e_bor 0) a_nil)) (e_bor 1)) (e_one (e_blt (cr_all rfl) p_all T.n_all bt_all (a_cons (e_lc [("value", 2)] sc_is_row.nd (blkOk_by (N := ["thing", "many", "value"]) (sc := (defScope st_is_row)) (by decide +kernel)) (x_seq (e_var 0) rfl) (fun _ _ _ _ _ => (pg_name (i := 2) sc_is_row.nd rfl (Or.inl rfl))) (g_name (i := 2)) (fun _ _ _ _ _ => ts_nil) (fun _ _ _ _ _ => (e_call ((d_is_value T).mono (by decide)) rfl rfl hr hg T.m_is_value T.F_is_value.kp T.b_is_value (a_cons (e_var 2) a_nil) (LenR.ok (l_cons l_nil))))) a_nil))))))
    z_nil)
theorem d_is_row (T : Tx Pr base K mg A) : FnG Pr w K mg base CX0 4 A.a_is_row A.fd_is_row ["thing", "many"] (spR K A.cls 2 f_is_row) := by
  unfold f_is_row
  exact fn_ok (k := 3) (N := ["thing", "many", "value"]) (run := r_is_row) T.F_is_row sc_is_row fun cdv A0 outer s H E hr hg W hK hc => b_is_row T cdv A0 outer s H E hr hg W hK hc
def r_are_rows : RunS := (sSeq (sIf (toT (rOr (rNot (runN (rCons (rBor 0) (rCons (rC (.ty "dict")) rNil)) fIsi)) (run2 (runN (rCons (rBor 0) rNil) fLenD) (rC (.int 8)) fGt))) (sSeq (sRet (rC (.bl false)))
    sNx) sNx)
    (sSeq (sRet (runN (rCons (rLkd (pthV 0) (rLc (iKy (pthV 0)) none (tgN 2) rYes (rAnd (rCall f_is_name (rCons (rVar 2) rNil)) (rCall f_is_row (rCons (run2 (rBor 0) (rBor 2) fIxD) (rCons (rVar 1) rNil)))) [2])) rNil) fAll))
    sNx))
@[irreducible] def f_are_rows : Fn := runFn 3 r_are_rows
theorem b_are_rows (T : Tx Pr base K mg A) (cdv : Value) (A0 : Around) (outer : List PySem.Env) (s : Shared) (H : Hp) (E : XK) (hr : Room 4 (A0.deeper (PyProof.Rows.envOfC "are_rows" (defScope st_are_rows) s.heap.objs.size A.a_are_rows cdv))) (hg : NoG (A0.deeper (PyProof.Rows.envOfC "are_rows" (defScope st_are_rows) s.heap.objs.size A.a_are_rows cdv))) (W : Wd) (hK : W.K = K) (hc : W.cls = A.cls) :
    PSs (cxOf CX0 Pr w K mg base ["thing", "many", "name"] "are_rows" (defScope st_are_rows) A.a_are_rows cdv A0 outer s H E).nox (defBody st_are_rows) (TVS W r_are_rows) := by
  obtain ⟨K1, wa, wb, cl1⟩ := W
  subst hK
  subst hc
  exact (z_cons (z_if (t_bool (w_or (t_not (t_val (e_blt cr_isiAll p_isi T.n_isinstance bt_isinstance (a_cons (e_bor 0) (a_cons (e_ty T.n_dict bt_dict) a_nil))))) (w_or1 (t_gt rfl hr (e_blt cr_lenD p_lenD T.n_len bt_len (a_cons (e_bor 0) a_nil)) (e_gint T.g_MOST_ROWS))))) (z_cons (z_ret e_bl)
    z_nil) z_nil)
    (z_cons (z_ret (e_blt (cr_all rfl) p_all T.n_all bt_all (a_cons (e_lcD [("name", 2)] sc_are_rows.nd (blkOk_by (N := ["thing", "many", "name"]) (sc := (defScope st_are_rows)) (by decide +kernel)) (path_var 0) (e_own 0) (fun _ _ _ _ _ => (pg_name (i := 2) sc_are_rows.nd rfl (Or.inl rfl))) (g_name (i := 2)) (fun _ _ _ _ _ => ts_nil) (fun _ _ _ _ _ => (e_and (e_call ((d_is_name T).mono (by decide)) rfl rfl hr hg T.m_is_name T.F_is_name.kp T.b_is_name (a_cons (e_var 2) a_nil) (LenR.ok (l_cons l_nil))) (e_one (e_call ((d_is_row T).mono (by decide)) rfl rfl hr hg T.m_is_row T.F_is_row.kp T.b_is_row (a_cons (e_ixD hr (e_bor 0) (e_bor 2)) (a_cons (e_var 1) a_nil)) (LenR.ok (l_cons (l_cons l_nil)))))))) a_nil)))
    z_nil))
theorem d_are_rows (T : Tx Pr base K mg A) : FnG Pr w K mg base CX0 5 A.a_are_rows A.fd_are_rows ["thing", "many"] (spR K A.cls 2 f_are_rows) := by
  unfold f_are_rows
  exact fn_ok (k := 4) (N := ["thing", "many", "name"]) (run := r_are_rows) T.F_are_rows sc_are_rows fun cdv A0 outer s H E hr hg W hK hc => b_are_rows T cdv A0 outer s H E hr hg W hK hc
def k_T_init : RunK := (kSeq (kGd (toT (rNot (rCall f_are_names (rCons (rVar 1) (rCons (rC (.int 1)) (rCons (rC (.int 5)) rNil)))))))
    (kSeq (kGd (toT (rNot (rCall f_are_rows (rCons (rVar 2) (rCons (runN (rCons (rBor 1) rNil) fLen) rNil))))))
    (kSeq (kFld 0 0 "own_columns" (runN (rCons (rBor 1) rNil) fTuple))
    (kSeq (kFld 0 0 "own_rows" (rDc (iSeq (runN (rCons (rVar 2) rNil) fSortU)) none (tgN 3) rYes (rVar 3) (run2 (rBor 2) (rBor 3) fIxD) [3]))
    (kSeq (kFld 0 0 "places" (rDc (iEnumU (rCons (rVar 1) rNil)) none (tgTup 2 (tgCons (tgN 4) (tgCons (tgN 3) tgNil))) rYes (rVar 3) (rVar 4) [4, 3]))
    kNx)))))
theorem b_T_init (T : Tx Pr base K mg A) (cdv : Value) (A0 : Around) (outer : List PySem.Env) (s : Shared) (H : Hp) (E : XK) (hr : Room 5 (A0.deeper (PyProof.Rows.envOfC "Table.__init__" (defScope st_T_init) s.heap.objs.size A.a_T_init cdv))) (hg : NoG (A0.deeper (PyProof.Rows.envOfC "Table.__init__" (defScope st_T_init) s.heap.objs.size A.a_T_init cdv))) (W : Wd) (hK : W.K = K) (hc : W.cls = A.cls) :
    PSs (cxOf CX0 Pr w K mg base ["self", "columns", "rows", "name", "place"] "Table.__init__" (defScope st_T_init) A.a_T_init cdv A0 outer s H E).nox (defBody st_T_init) (TSt W k_T_init) := by
  obtain ⟨K1, wa, wb, cl1⟩ := W
  subst hK
  subst hc
  exact (kk_cons (kk_gd (t_not (t_val (e_call ((d_are_names T).mono (by decide)) rfl rfl hr hg T.m_are_names T.F_are_names.kp T.b_are_names (a_cons (e_var 1) (a_cons e_int (a_cons (e_gint T.g_MOST_COLUMNS) a_nil))) (LenR.ok (l_cons (l_cons (l_cons l_nil))))))))
    (kk_cons (kk_gd (t_not (t_val (e_call ((d_are_rows T).mono (by decide)) rfl rfl hr hg T.m_are_rows T.F_are_rows.kp T.b_are_rows (a_cons (e_var 2) (a_cons (e_blt cr_lenAll p_len T.n_len bt_len (a_cons (e_bor 1) a_nil)) a_nil)) (LenR.ok (l_cons (l_cons l_nil)))))))
    (kk_cons (kk_fld (i := 0) rfl T.cl_T T.na_T_own_columns rfl (by first | exact Or.inl rfl | exact Or.inr (Or.inl rfl) | exact Or.inr (Or.inr rfl)) (e_bty call_tuple_of p_tuple T.n_tuple bt_tuple (a_cons (e_bor 1) a_nil)))
    (kk_cons (kk_fld (i := 0) rfl T.cl_T T.na_T_own_rows rfl (by first | exact Or.inl rfl | exact Or.inr (Or.inl rfl) | exact Or.inr (Or.inr rfl)) (e_dc [("name", 3)] sc_T_init.nd (blkOk_by (N := ["self", "columns", "rows", "name", "place"]) (sc := (defScope st_T_init)) (by decide +kernel)) (x_seq (e_blt (cr_sortU rfl hr.units) p_sortU T.n_sorted bt_sorted (a_cons (e_var 2) a_nil)) rfl) (fun _ _ _ _ _ => (pg_name (i := 3) sc_T_init.nd rfl (Or.inl rfl))) (g_name (i := 3)) (fun _ _ _ _ _ => ts_nil) (fun _ _ _ _ _ => (e_var 3)) (fun _ _ _ _ _ => (e_ixD hr (e_bor 2) (e_bor 3)))))
    (kk_cons (kk_fld (i := 0) rfl T.cl_T T.na_T_places rfl (by first | exact Or.inl rfl | exact Or.inr (Or.inl rfl) | exact Or.inr (Or.inr rfl)) (e_dc [("place", 4), ("name", 3)] sc_T_init.nd (blkOk_by (N := ["self", "columns", "rows", "name", "place"]) (sc := (defScope st_T_init)) (by decide +kernel)) (x_enumU rfl rfl T.n_enumerate (e_var 1) rfl) (fun _ _ _ _ _ => (pg_tup rfl (pgs_cons (pg_name (i := 4) sc_T_init.nd rfl (Or.inl rfl)) (pgs_cons (pg_name (i := 3) sc_T_init.nd rfl (Or.inl rfl)) pgs_nil)))) (g_tup (n := 2) (g_cons (g_name (i := 4)) (g_cons (g_name (i := 3)) g_nil))) (fun _ _ _ _ _ => ts_nil) (fun _ _ _ _ _ => (e_var 3)) (fun _ _ _ _ _ => (e_var 4))))
    kk_nil)))))
theorem d_T_init (T : Tx Pr base K mg A) : FnG Pr w K mg base CX0 6 A.a_T_init A.fd_T_init ["self", "columns", "rows"] (spI K A.cls 2 5 0 k_T_init) := by
  exact fnI_ok (k := 5) (N := ["self", "columns", "rows", "name", "place"]) (run := k_T_init) T.F_T_init sc_T_init rfl fun cdv A0 outer s H E hr hg W hK hc => b_T_init T cdv A0 outer s H E hr hg W hK hc
def r_columns_of : RunS := (sSeq (sSet 1 (rStrM (rBor 0) (rCons (rC (.str " ")) rNil) fSplit))
    (sSeq (sRet (rIf (rAnd (run2 (run2 (rBor 1) (rC (.int 0)) fIx) (rC (.str "columns")) fEq) (rCall f_are_names (rCons (rSlice (rBor 1) (oSome (rC (.int 1))) oNone) (rCons (rC (.int 1)) (rCons (rC (.int 5)) rNil))))) (rSlice (rBor 1) (oSome (rC (.int 1))) oNone) (rC .non)))
    sNx))
@[irreducible] def f_columns_of : Fn := runFn 2 r_columns_of
theorem b_columns_of (T : Tx Pr base K mg A) (cdv : Value) (A0 : Around) (outer : List PySem.Env) (s : Shared) (H : Hp) (E : XK) (hr : Room 3 (A0.deeper (PyProof.Rows.envOfC "columns_of" (defScope st_columns_of) s.heap.objs.size A.a_columns_of cdv))) (hg : NoG (A0.deeper (PyProof.Rows.envOfC "columns_of" (defScope st_columns_of) s.heap.objs.size A.a_columns_of cdv))) (W : Wd) (hK : W.K = K) (hc : W.cls = A.cls) :
    PSs (cxOf CX0 Pr w K mg base ["line", "words"] "columns_of" (defScope st_columns_of) A.a_columns_of cdv A0 outer s H E).nox (defBody st_columns_of) (TVS W r_columns_of) := by
  obtain ⟨K1, wa, wb, cl1⟩ := W
  subst hK
  subst hc
  exact (z_cons (s_set 1 sc_columns_of.nd (m_split rfl (e_bor 0) e_str))
    (z_cons (z_ret (e_if (t_bool (w_and (t_eq rfl hr (e_ix rfl (e_bor 1) e_int) e_str) (w_and1 (t_val (e_call ((d_are_names T).mono (by decide)) rfl rfl hr hg T.m_are_names T.F_are_names.kp T.b_are_names (a_cons (e_sl rfl (e_bor 1) (o_some e_int) o_none) (a_cons e_int (a_cons (e_gint T.g_MOST_COLUMNS) a_nil))) (LenR.ok (l_cons (l_cons (l_cons l_nil))))))))) (e_sl rfl (e_bor 1) (o_some e_int) o_none) e_non))
    z_nil))
theorem d_columns_of (T : Tx Pr base K mg A) : FnG Pr w K mg base CX0 4 A.a_columns_of A.fd_columns_of ["line"] (spR K A.cls 1 f_columns_of) := by
  unfold f_columns_of
  exact fn_ok (k := 3) (N := ["line", "words"]) (run := r_columns_of) T.F_columns_of sc_columns_of fun cdv A0 outer s H E hr hg W hK hc => b_columns_of T cdv A0 outer s H E hr hg W hK hc
def r_value_of : RunS := (sSeq (sIf (toT (rCall f_is_name (rCons (rVar 0) rNil))) (sSeq (sRet (rMov 0))
    sNx) sNx)
    (sSeq (sSet 1 (rIf (rStrM (rBor 0) (rCons (rC (.str "-")) rNil) fStarts) (rSlice (rBor 0) (oSome (rC (.int 1))) oNone) (rVar 0)))
    (sSeq (sIf (toT (rOr (rNot (rChn fLe fLe (rC (.int 1)) (runN (rCons (rBor 1) rNil) fLen) (rC (.int 40)))) (rNot (runN (rCons (rLc (iSeq (rVar 1)) none (tgN 2) rYes (run2 (rBor 2) (rC (.str "0123456789")) fIn) [2]) rNil) fAll)))) (sSeq (sRet (rC .non))
    sNx) sNx)
    (sSeq (sIf (toT (rAnd (run2 (run2 (rBor 1) (rC (.int 0)) fIx) (rC (.str "0")) fEq) (run2 (rBor 0) (rC (.str "0")) fNe))) (sSeq (sRet (rC .non))
    sNx) sNx)
    (sSeq (sRet (runN (rCons (rBor 0) rNil) fIntS))
    sNx)))))
@[irreducible] def f_value_of : Fn := runFn 3 r_value_of
theorem b_value_of (T : Tx Pr base K mg A) (cdv : Value) (A0 : Around) (outer : List PySem.Env) (s : Shared) (H : Hp) (E : XK) (hr : Room 2 (A0.deeper (PyProof.Rows.envOfC "value_of" (defScope st_value_of) s.heap.objs.size A.a_value_of cdv))) (hg : NoG (A0.deeper (PyProof.Rows.envOfC "value_of" (defScope st_value_of) s.heap.objs.size A.a_value_of cdv))) (W : Wd) (hK : W.K = K) (hc : W.cls = A.cls) :
    PSs (cxOf CX0 Pr w K mg base ["word", "digits", "sign"] "value_of" (defScope st_value_of) A.a_value_of cdv A0 outer s H E).nox (defBody st_value_of) (TVS W r_value_of) := by
  obtain ⟨K1, wa, wb, cl1⟩ := W
  subst hK
  subst hc
  exact (z_cons (z_if (t_val (e_call ((d_is_name T).mono (by decide)) rfl rfl hr hg T.m_is_name T.F_is_name.kp T.b_is_name (a_cons (e_var 0) a_nil) (LenR.ok (l_cons l_nil)))) (z_cons (z_ret (e_mov 0))
    z_nil) z_nil)
    (z_cons (s_set 1 sc_value_of.nd (e_if (t_val (m_starts rfl (e_bor 0) e_str)) (e_sl rfl (e_bor 0) (o_some e_int) o_none) (e_var 0)))
    (z_cons (z_if (t_bool (w_or (t_not (t_lele rfl hr e_int (e_blt cr_lenAll p_len T.n_len bt_len (a_cons (e_bor 1) a_nil)) (e_gint T.g_MOST_DIGITS))) (w_or1 (t_not (t_val (e_blt (cr_all rfl) p_all T.n_all bt_all (a_cons (e_lc [("sign", 2)] sc_value_of.nd (blkOk_by (N := ["word", "digits", "sign"]) (sc := (defScope st_value_of)) (by decide +kernel)) (x_seq (e_var 1) rfl) (fun _ _ _ _ _ => (pg_name (i := 2) sc_value_of.nd rfl (Or.inl rfl))) (g_name (i := 2)) (fun _ _ _ _ _ => ts_nil) (fun _ _ _ _ _ => (e_in rfl hr (e_bor 2) (e_gstr T.g_DIGITS)))) a_nil))))))) (z_cons (z_ret e_non)
    z_nil) z_nil)
    (z_cons (z_if (t_bool (w_and (t_eq rfl hr (e_ix rfl (e_bor 1) e_int) e_str) (w_and1 (t_ne rfl hr (e_bor 0) e_str)))) (z_cons (z_ret e_non)
    z_nil) z_nil)
    (z_cons (z_ret (e_bty call_int_str p_intS T.n_int bt_int (a_cons (e_bor 0) a_nil)))
    z_nil)))))
theorem d_value_of (T : Tx Pr base K mg A) : FnG Pr w K mg base CX0 3 A.a_value_of A.fd_value_of ["word"] (spR K A.cls 1 f_value_of) := by
  unfold f_value_of
  exact fn_ok (k := 2) (N := ["word", "digits", "sign"]) (run := r_value_of) T.F_value_of sc_value_of fun cdv A0 outer s H E hr hg W hK hc => b_value_of T cdv A0 outer s H E hr hg W hK hc
def r_row_of : RunS := (sSeq (sSet 2 (rStrM (rBor 0) (rCons (rC (.str " ")) rNil) fSplit))
    (sSeq (sIf (toT (rOr (run2 (run2 (rBor 2) (rC (.int 0)) fIx) (rC (.str "row")) fNe) (rOr (run2 (runN (rCons (rBor 2) rNil) fLen) (run2 (rC (.int 2)) (rBor 1) fAdd) fNe) (rNot (rCall f_is_name (rCons (run2 (rBor 2) (rC (.int 1)) fIx) rNil)))))) (sSeq (sRet (rC .non))
    sNx) sNx)
    (sSeq (sSet 3 (rLc (iSeq (rSlice (rBor 2) (oSome (rC (.int 2))) oNone)) none (tgN 4) rYes (rCall f_value_of (rCons (rVar 4) rNil)) [4]))
    (sSeq (sRet (rIf (run2 (rC .non) (rBor 3) fIn) (rC .non) (rDisp mkT (rCons (run2 (rBor 2) (rC (.int 1)) fIx) (rCons (runN (rCons (rBor 3) rNil) fTuple) rNil)))))
    sNx))))
@[irreducible] def f_row_of : Fn := runFn 5 r_row_of
theorem b_row_of (T : Tx Pr base K mg A) (cdv : Value) (A0 : Around) (outer : List PySem.Env) (s : Shared) (H : Hp) (E : XK) (hr : Room 3 (A0.deeper (PyProof.Rows.envOfC "row_of" (defScope st_row_of) s.heap.objs.size A.a_row_of cdv))) (hg : NoG (A0.deeper (PyProof.Rows.envOfC "row_of" (defScope st_row_of) s.heap.objs.size A.a_row_of cdv))) (W : Wd) (hK : W.K = K) (hc : W.cls = A.cls) :
    PSs (cxOf CX0 Pr w K mg base ["line", "many", "words", "values", "word"] "row_of" (defScope st_row_of) A.a_row_of cdv A0 outer s H E).nox (defBody st_row_of) (TVS W r_row_of) := by
  obtain ⟨K1, wa, wb, cl1⟩ := W
  subst hK
  subst hc
  exact (z_cons (s_set 2 sc_row_of.nd (m_split rfl (e_bor 0) e_str))
    (z_cons (z_if (t_bool (w_or (t_ne rfl hr (e_ix rfl (e_bor 2) e_int) e_str) (w_or (t_ne rfl hr (e_blt cr_lenAll p_len T.n_len bt_len (a_cons (e_bor 2) a_nil)) (e_add rfl e_int (e_bor 1))) (w_or1 (t_not (t_val (e_call ((d_is_name T).mono (by decide)) rfl rfl hr hg T.m_is_name T.F_is_name.kp T.b_is_name (a_cons (e_ix rfl (e_bor 2) e_int) a_nil) (LenR.ok (l_cons l_nil))))))))) (z_cons (z_ret e_non)
    z_nil) z_nil)
    (z_cons (s_setLc 3 [("word", 4)] sc_row_of.nd (blkOk_by (N := ["line", "many", "words", "values", "word"]) (sc := (defScope st_row_of)) (by decide +kernel)) (x_seq (e_sl rfl (e_bor 2) (o_some e_int) o_none) rfl) (fun _ _ _ _ _ => (pg_name (i := 4) sc_row_of.nd rfl (Or.inl rfl))) (g_name (i := 4)) (fun _ _ _ _ _ => ts_nil) (fun _ _ _ _ _ => (e_call ((d_value_of T).mono (by decide)) rfl rfl hr hg T.m_value_of T.F_value_of.kp T.b_value_of (a_cons (e_var 4) a_nil) (LenR.ok (l_cons l_nil)))))
    (z_cons (z_ret (e_if (t_in rfl hr e_non (e_bor 3)) e_non (e_tup (a_cons (e_ix rfl (e_bor 2) e_int) (a_cons (e_bty call_tuple_of p_tuple T.n_tuple bt_tuple (a_cons (e_bor 3) a_nil)) a_nil)))))
    z_nil))))
theorem d_row_of (T : Tx Pr base K mg A) : FnG Pr w K mg base CX0 4 A.a_row_of A.fd_row_of ["line", "many"] (spR K A.cls 2 f_row_of) := by
  unfold f_row_of
  exact fn_ok (k := 3) (N := ["line", "many", "words", "values", "word"]) (run := r_row_of) T.F_row_of sc_row_of fun cdv A0 outer s H E hr hg W hK hc => b_row_of T cdv A0 outer s H E hr hg W hK hc
def r_parse_table : RunS := (sSeq (sIf (toT (rOr (rNot (runN (rCons (rBor 0) (rCons (rC (.ty "str")) rNil)) fIsi)) (run2 (rBor 0) (rC (.str "")) fEq))) (sSeq sFail
    sNx) sNx)
    (sSeq (sStar 1 2 (rStrM (rBor 0) (rCons (rC (.str "\n")) rNil) fSplit))
    (sSeq (sIf (toT (run2 (rBor 2) (rC (.str "")) fNe)) (sSeq (sSet 1 (run2 (rBor 1) (rDisp mkL (rCons (rVar 2) rNil)) fAdd))
    sNx) sNx)
    (sSeq (sSet 3 (rCall f_columns_of (rCons (run2 (rBor 1) (rC (.int 0)) fIx) rNil)))
    (sSeq (sIf (toT (run2 (rBor 3) (rC .non) fIsP)) (sSeq sFail
    sNx) sNx)
    (sSeq (sDeep 4 (dSeq (dSet 5 (rC (.str ""))) (dFor (iEnumR (rCons (rSlice (rBor 1) (oSome (rC (.int 1))) oNone) rNil)) (tgTup 2 (tgCons (tgN 6) (tgCons (tgN 7) tgNil))) (dSeq (dSet 8 (rCall f_row_of (rCons (rVar 7) (rCons (runN (rCons (rBor 3) rNil) fLen) rNil))))
    (dSeq (dIf (toT (rOr (run2 (rBor 8) (rC .non) fIsP) (rOr (run2 (run2 (rBor 8) (rC (.int 0)) fIx) (rBor 5) fLe) (run2 (rBor 6) (rC (.int 8)) fGe)))) (dSeq dFail
    dNx) dNx)
    (dSeq (dTgt (tgTup 2 (tgCons (tgN 5) (tgCons (tgN 9) tgNil))) (rVar 8))
    (dSeq (dPutV (rVar 5) (rVar 9))
    dNx)))))))
    (sSeq (sIf (toT (run2 (rBor 2) (rC (.str "")) fNe)) (sSeq sFail
    sNx) sNx)
    (sSeq (sRet (rMake 5 0 k_T_init (rCons (rVar 3) (rCons (rVar 4) rNil))))
    sNx))))))))
@[irreducible] def f_parse_table : Fn := runFn 10 r_parse_table
theorem b_parse_table (T : Tx Pr base K mg A) (cdv : Value) (A0 : Around) (outer : List PySem.Env) (s : Shared) (H : Hp) (E : XK) (hr : Room 7 (A0.deeper (PyProof.Rows.envOfC "parse_table" (defScope st_parse_table) s.heap.objs.size A.a_parse_table cdv))) (hg : NoG (A0.deeper (PyProof.Rows.envOfC "parse_table" (defScope st_parse_table) s.heap.objs.size A.a_parse_table cdv))) (W : Wd) (hK : W.K = K) (hc : W.cls = A.cls) :
    PSs (cxOf CX0 Pr w K mg base ["text", "lines", "rest", "columns", "rows", "last", "at", "line", "row", "values"] "parse_table" (defScope st_parse_table) A.a_parse_table cdv A0 outer s H E).nox (defBody st_parse_table) (TVS W r_parse_table) := by
  obtain ⟨K1, wa, wb, cl1⟩ := W
  subst hK
  subst hc
  exact (z_cons (z_if (t_bool (w_or (t_not (t_val (e_blt cr_isiAll p_isi T.n_isinstance bt_isinstance (a_cons (e_bor 0) (a_cons (e_ty T.n_str bt_str) a_nil))))) (w_or1 (t_eq rfl hr (e_bor 0) e_str)))) (z_cons s_never
    z_nil) z_nil)
    (z_cons (s_star 1 2 rfl rfl sc_parse_table.nd (m_split rfl (e_bor 0) e_str) (pg_name (i := 1) sc_parse_table.nd rfl (by first | exact Or.inl rfl | exact Or.inr rfl)) (pg_name (i := 2) sc_parse_table.nd rfl (by first | exact Or.inl rfl | exact Or.inr rfl)))
    (z_cons (z_if (t_ne rfl hr (e_bor 2) e_str) (z_cons (s_set 1 sc_parse_table.nd (e_add rfl (e_bor 1) (e_lst (a_cons (e_var 2) a_nil))))
    z_nil) z_nil)
    (z_cons (s_set 3 sc_parse_table.nd (e_call ((d_columns_of T).mono (by decide)) rfl rfl hr hg T.m_columns_of T.F_columns_of.kp T.b_columns_of (a_cons (e_ix rfl (e_bor 1) e_int) a_nil) (LenR.ok (l_cons l_nil))))
    (z_cons (z_if (t_is (e_bor 3) e_non) (z_cons s_never
    z_nil) z_nil)
    (zd_dict2 (ps_set (i := 4) sc_parse_table.nd rfl (by first | exact Or.inl rfl | exact Or.inr rfl) pe_dnewK) (zd_set 5 (by decide) sc_parse_table.nd e_str) (zd_for (by decide) (x_enumUS rfl rfl T.n_enumerate (e_sl rfl (e_bor 1) (o_some e_int) o_none) rfl) (pg_tup rfl (pgs_cons (pg_name (i := 6) sc_parse_table.nd rfl (by first | exact Or.inl rfl | exact Or.inr rfl)) (pgs_cons (pg_name (i := 7) sc_parse_table.nd rfl (by first | exact Or.inl rfl | exact Or.inr rfl)) pgs_nil))) (g_tup (n := 2) (g_cons (g_name (i := 6)) (g_cons (g_name (i := 7)) g_nil))) (zd_cons (zd_set 8 (by decide) sc_parse_table.nd (e_call ((d_row_of T).mono (by decide)) rfl rfl hr hg T.m_row_of T.F_row_of.kp T.b_row_of (a_cons (e_var 7) (a_cons (e_blt cr_lenAll p_len T.n_len bt_len (a_cons (e_bor 3) a_nil)) a_nil)) (LenR.ok (l_cons (l_cons l_nil)))))
    (zd_cons (zd_if (t_bool (w_or (t_is (e_bor 8) e_non) (w_or (t_le rfl hr (e_ix rfl (e_bor 8) e_int) (e_bor 5)) (w_or1 (t_ge rfl hr (e_bor 6) (e_gint T.g_MOST_ROWS)))))) (zd_cons zd_never
    zd_nil) zd_nil)
    (zd_cons (zd_tgt (by decide) (e_var 8) (pg_tup rfl (pgs_cons (pg_name (i := 5) sc_parse_table.nd rfl (by first | exact Or.inl rfl | exact Or.inr rfl)) (pgs_cons (pg_name (i := 9) sc_parse_table.nd rfl (by first | exact Or.inl rfl | exact Or.inr rfl)) pgs_nil))) (g_tup (n := 2) (g_cons (g_name (i := 5)) (g_cons (g_name (i := 9)) g_nil))))
    (zd_cons (zd_putV hr (e_own 4) (e_var 5) (e_var 9))
    zd_nil)))))
    (z_cons (z_if (t_ne rfl hr (e_bor 2) e_str) (z_cons s_never
    z_nil) z_nil)
    (z_cons (z_ret (e_make (cls := A.cls) T.mk_T ((d_T_init T).mono (by decide)) rfl rfl hr hg T.mc_T T.b_T_init (a_cons (e_var 3) (a_cons (e_var 4) a_nil)) (l_cons (l_cons l_nil))))
    z_nil))))))))
theorem d_parse_table (T : Tx Pr base K mg A) : FnG Pr w K mg base CX0 8 A.a_parse_table A.fd_parse_table ["text"] (spR K A.cls 1 f_parse_table) := by
  unfold f_parse_table
  exact fn_ok (k := 7) (N := ["text", "lines", "rest", "columns", "rows", "last", "at", "line", "row", "values"]) (run := r_parse_table) T.F_parse_table sc_parse_table fun cdv A0 outer s H E hr hg W hK hc => b_parse_table T cdv A0 outer s H E hr hg W hK hc
def r_w_mixed : RunS := (sSeq (sPar 2 3 (runN (rCons (rBor 1) rNil) fList) (rDisp mkL rNil))
    (sSeq (sWhile (toT (run2 (rBor 2) (rDisp mkL rNil) (fNilG not))) (sSeq (sDrop (rApp 3 (rPopI 2 (rCall f_w_take (rCons (rVar 0) (rCons (runN (rCons (rBor 2) rNil) fLen) rNil))))))
    sNx) 200)
    (sSeq (sRet (rMov 3))
    sNx)))
@[irreducible] def f_w_mixed : Fn := runFn 4 r_w_mixed
theorem b_w_mixed (T : Tx Pr base K mg A) (cdv : Value) (A0 : Around) (outer : List PySem.Env) (s : Shared) (H : Hp) (E : XK) (hr : Room 2 (A0.deeper (PyProof.Rows.envOfC "_law_mixed" (defScope st_w_mixed) s.heap.objs.size A.a_w_mixed cdv))) (hg : NoG (A0.deeper (PyProof.Rows.envOfC "_law_mixed" (defScope st_w_mixed) s.heap.objs.size A.a_w_mixed cdv))) (W : Wd) (hK : W.K = K) (hc : W.cls = A.cls) :
    PSs (cxOf CX0 Pr w K mg base ["_law_draw", "_law_some", "_law_left", "_law_found"] "_law_mixed" (defScope st_w_mixed) A.a_w_mixed cdv A0 outer s H E).nox (defBody st_w_mixed) (TVS W r_w_mixed) := by
  obtain ⟨K1, wa, wb, cl1⟩ := W
  subst hK
  subst hc
  exact (z_cons (s_par 2 3 sc_w_mixed.nd (e_bty call_list_of p_list T.n_list bt_list (a_cons (e_bor 1) a_nil)) (e_lst a_nil))
    (z_cons (s_while 200 (t_neN rfl hr (e_bor 2) (e_lst a_nil)) (z_cons (s_drop (m_app 3 rfl (e_own 3) (m_popI 2 rfl (e_own 2) (e_call ((d_w_take T).mono (by decide)) rfl rfl hr hg T.m_w_take T.F_w_take.kp T.b_w_take (a_cons (e_var 0) (a_cons (e_blt cr_lenAll p_len T.n_len bt_len (a_cons (e_bor 2) a_nil)) a_nil)) (LenR.ok (l_cons (l_cons l_nil)))))))
    z_nil))
    (z_cons (z_ret (e_mov 3))
    z_nil)))
theorem d_w_mixed (T : Tx Pr base K mg A) : FnG Pr w K mg base CX0 3 A.a_w_mixed A.fd_w_mixed ["_law_draw", "_law_some"] (spR K A.cls 2 f_w_mixed) := by
  unfold f_w_mixed
  exact fn_ok (k := 2) (N := ["_law_draw", "_law_some", "_law_left", "_law_found"]) (run := r_w_mixed) T.F_w_mixed sc_w_mixed fun cdv A0 outer s H E hr hg W hK hc => b_w_mixed T cdv A0 outer s H E hr hg W hK hc
def r_w_pick : RunS := (sSeq (sRet (run2 (rBor 1) (rCall f_w_take (rCons (rVar 0) (rCons (runN (rCons (rBor 1) rNil) fLen) rNil))) fIx))
    sNx)
@[irreducible] def f_w_pick : Fn := runFn 2 r_w_pick
theorem b_w_pick (T : Tx Pr base K mg A) (cdv : Value) (A0 : Around) (outer : List PySem.Env) (s : Shared) (H : Hp) (E : XK) (hr : Room 2 (A0.deeper (PyProof.Rows.envOfC "_law_pick" (defScope st_w_pick) s.heap.objs.size A.a_w_pick cdv))) (hg : NoG (A0.deeper (PyProof.Rows.envOfC "_law_pick" (defScope st_w_pick) s.heap.objs.size A.a_w_pick cdv))) (W : Wd) (hK : W.K = K) (hc : W.cls = A.cls) :
    PSs (cxOf CX0 Pr w K mg base ["_law_draw", "_law_some"] "_law_pick" (defScope st_w_pick) A.a_w_pick cdv A0 outer s H E).nox (defBody st_w_pick) (TVS W r_w_pick) := by
  obtain ⟨K1, wa, wb, cl1⟩ := W
  subst hK
  subst hc
  exact (z_cons (z_ret (e_ix rfl (e_bor 1) (e_call ((d_w_take T).mono (by decide)) rfl rfl hr hg T.m_w_take T.F_w_take.kp T.b_w_take (a_cons (e_var 0) (a_cons (e_blt cr_lenAll p_len T.n_len bt_len (a_cons (e_bor 1) a_nil)) a_nil)) (LenR.ok (l_cons (l_cons l_nil))))))
    z_nil)
theorem d_w_pick (T : Tx Pr base K mg A) : FnG Pr w K mg base CX0 3 A.a_w_pick A.fd_w_pick ["_law_draw", "_law_some"] (spR K A.cls 2 f_w_pick) := by
  unfold f_w_pick
  exact fn_ok (k := 2) (N := ["_law_draw", "_law_some"]) (run := r_w_pick) T.F_w_pick sc_w_pick fun cdv A0 outer s H E hr hg W hK hc => b_w_pick T cdv A0 outer s H E hr hg W hK hc
def r_w_names : RunS := (sSeq (sSet 2 (rDisp mkL (rCons (rC (.str "a")) (rCons (rC (.str "b")) (rCons (rC (.str "ab")) (rCons (rC (.str "ba")) (rCons (rC (.str "row")) (rCons (rC (.str "column")) (rCons (rC (.str "one")) (rCons (rC (.str "other")) (rCons (rC (.str "tell")) (rCons (rC (.str "zzzzzzzz")) (rCons (rC (.str "x")) (rCons (rC (.str "y")) (rCons (rC (.str "none")) (rCons (rC (.str "name")) rNil))))))))))))))))
    (sSeq (sPar 3 4 (rC (.str "abcdefghijklmnopqrstuvwxyz")) (rDisp mkL rNil))
    (sSeq (sFor (iRange (rCons (rVar 1) rNil)) none (tgN 5) (sSeq (sSet 6 (rPopI 2 (rCall f_w_take (rCons (rVar 0) (rCons (runN (rCons (rBor 2) rNil) fLen) rNil)))))
    (sSeq (sIf (toT (run2 (rCall f_w_take (rCons (rVar 0) (rCons (rC (.int 3)) rNil))) (rC (.int 0)) fEq)) (sSeq (sSet 6 (rStrM (rC (.str "")) (rCons (rLc (iRange (rCons (run2 (rC (.int 1)) (rCall f_w_take (rCons (rVar 0) (rCons (rC (.int 8)) rNil))) fAdd) rNil)) none (tgN 8) rYes (rCall f_w_pick (rCons (rVar 0) (rCons (rVar 3) rNil))) [8]) rNil) fJoin))
    sNx) sNx)
    (sSeq (sIf (toT (rAnd (run2 (rBor 4) (rDisp mkL rNil) fNe) (run2 (rCall f_w_take (rCons (rVar 0) (rCons (rC (.int 8)) rNil))) (rC (.int 0)) fEq))) (sSeq (sSet 6 (run2 (rSlice (run2 (rBor 4) (run1 (rC (.int 1)) fNeg) fIx) oNone (oSome (run1 (rC (.int 1)) fNeg))) (rCall f_w_pick (rCons (rVar 0) (rCons (rVar 3) rNil))) fAdd))
    sNx) sNx)
    (sSeq (sSet 7 (run2 (rDisp mkL (rCons (rVar 6) rNil)) (rLc (iSeq (rVar 3)) none (tgN 9) rYes (run2 (rSlice (rBor 6) oNone (oSome (rC (.int 7)))) (rBor 9) fAdd) [9]) fAdd))
    (sSeq (sDrop (rApp 4 (run2 (rLc (iSeq (rVar 7)) none (tgN 10) (toT (run2 (rBor 10) (rBor 4) fNotIn)) (rVar 10) [10]) (rC (.int 0)) fIx)))
    sNx))))))
    (sSeq (sRet (rMov 4))
    sNx))))
@[irreducible] def f_w_names : Fn := runFn 11 r_w_names
theorem b_w_names (T : Tx Pr base K mg A) (cdv : Value) (A0 : Around) (outer : List PySem.Env) (s : Shared) (H : Hp) (E : XK) (hr : Room 3 (A0.deeper (PyProof.Rows.envOfC "_law_names" (defScope st_w_names) s.heap.objs.size A.a_w_names cdv))) (hg : NoG (A0.deeper (PyProof.Rows.envOfC "_law_names" (defScope st_w_names) s.heap.objs.size A.a_w_names cdv))) (W : Wd) (hK : W.K = K) (hc : W.cls = A.cls) :
    PSs (cxOf CX0 Pr w K mg base ["_law_draw", "_law_many", "_law_pool", "_law_letters", "_law_found", "_law_turn", "_law_word", "_law_others", "_law_sign", "_law_letter", "_law_one"] "_law_names" (defScope st_w_names) A.a_w_names cdv A0 outer s H E).nox (defBody st_w_names) (TVS W r_w_names) := by
  obtain ⟨K1, wa, wb, cl1⟩ := W
  subst hK
  subst hc
  exact (z_cons (s_set 2 sc_w_names.nd (e_lst (a_cons e_str (a_cons e_str (a_cons e_str (a_cons e_str (a_cons e_str (a_cons e_str (a_cons e_str (a_cons e_str (a_cons e_str (a_cons e_str (a_cons e_str (a_cons e_str (a_cons e_str (a_cons e_str a_nil))))))))))))))))
    (z_cons (s_parU 3 4 sc_w_names.nd rfl e_str (e_lst a_nil))
    (z_cons (s_for (x_range rfl T.n_range (e_var 1) rfl) (pg_name (i := 5) sc_w_names.nd rfl (by first | exact Or.inl rfl | exact Or.inr rfl)) (g_name (i := 5)) (z_cons (s_set 6 sc_w_names.nd (m_popI 2 rfl (e_own 2) (e_call ((d_w_take T).mono (by decide)) rfl rfl hr hg T.m_w_take T.F_w_take.kp T.b_w_take (a_cons (e_var 0) (a_cons (e_blt cr_lenAll p_len T.n_len bt_len (a_cons (e_bor 2) a_nil)) a_nil)) (LenR.ok (l_cons (l_cons l_nil))))))
    (z_cons (z_if (t_eq rfl hr (e_call ((d_w_take T).mono (by decide)) rfl rfl hr hg T.m_w_take T.F_w_take.kp T.b_w_take (a_cons (e_var 0) (a_cons e_int a_nil)) (LenR.ok (l_cons (l_cons l_nil)))) e_int) (z_cons (s_set 6 sc_w_names.nd (m_join rfl e_str (e_lc [("_law_sign", 8)] sc_w_names.nd (blkOk_by (N := ["_law_draw", "_law_many", "_law_pool", "_law_letters", "_law_found", "_law_turn", "_law_word", "_law_others", "_law_sign", "_law_letter", "_law_one"]) (sc := (defScope st_w_names)) (by decide +kernel)) (x_range rfl T.n_range (e_add rfl e_int (e_call ((d_w_take T).mono (by decide)) rfl rfl hr hg T.m_w_take T.F_w_take.kp T.b_w_take (a_cons (e_var 0) (a_cons e_int a_nil)) (LenR.ok (l_cons (l_cons l_nil))))) rfl) (fun _ _ _ _ _ => (pg_name (i := 8) sc_w_names.nd rfl (Or.inl rfl))) (g_name (i := 8)) (fun _ _ _ _ _ => ts_nil) (fun _ _ _ _ _ => (e_call ((d_w_pick T).mono (by decide)) rfl rfl hr hg T.m_w_pick T.F_w_pick.kp T.b_w_pick (a_cons (e_var 0) (a_cons (e_var 3) a_nil)) (LenR.ok (l_cons (l_cons l_nil))))))))
    z_nil) z_nil)
    (z_cons (z_if (t_bool (w_and (t_ne rfl hr (e_bor 4) (e_lst a_nil)) (w_and1 (t_eq rfl hr (e_call ((d_w_take T).mono (by decide)) rfl rfl hr hg T.m_w_take T.F_w_take.kp T.b_w_take (a_cons (e_var 0) (a_cons e_int a_nil)) (LenR.ok (l_cons (l_cons l_nil)))) e_int)))) (z_cons (s_set 6 sc_w_names.nd (e_add rfl (e_sl rfl (e_ix rfl (e_bor 4) (e_neg e_int)) o_none (o_some (e_neg e_int))) (e_call ((d_w_pick T).mono (by decide)) rfl rfl hr hg T.m_w_pick T.F_w_pick.kp T.b_w_pick (a_cons (e_var 0) (a_cons (e_var 3) a_nil)) (LenR.ok (l_cons (l_cons l_nil))))))
    z_nil) z_nil)
    (z_cons (s_set 7 sc_w_names.nd (e_add rfl (e_lst (a_cons (e_var 6) a_nil)) (e_lc [("_law_letter", 9)] sc_w_names.nd (blkOk_by (N := ["_law_draw", "_law_many", "_law_pool", "_law_letters", "_law_found", "_law_turn", "_law_word", "_law_others", "_law_sign", "_law_letter", "_law_one"]) (sc := (defScope st_w_names)) (by decide +kernel)) (x_seq (e_var 3) rfl) (fun _ _ _ _ _ => (pg_name (i := 9) sc_w_names.nd rfl (Or.inl rfl))) (g_name (i := 9)) (fun _ _ _ _ _ => ts_nil) (fun _ _ _ _ _ => (e_add rfl (e_sl rfl (e_bor 6) o_none (o_some e_int)) (e_bor 9))))))
    (z_cons (s_drop (m_app 4 rfl (e_own 4) (e_ix rfl (e_lc [("_law_one", 10)] sc_w_names.nd (blkOk_by (N := ["_law_draw", "_law_many", "_law_pool", "_law_letters", "_law_found", "_law_turn", "_law_word", "_law_others", "_law_sign", "_law_letter", "_law_one"]) (sc := (defScope st_w_names)) (by decide +kernel)) (x_seq (e_var 7) rfl) (fun _ _ _ _ _ => (pg_name (i := 10) sc_w_names.nd rfl (Or.inl rfl))) (g_name (i := 10)) (fun _ _ _ _ _ => (pts_one (t_notIn rfl hr (e_bor 10) (e_bor 4)))) (fun _ _ _ _ _ => (e_var 10))) e_int)))
    z_nil))))))
    (z_cons (z_ret (e_mov 4))
    z_nil))))
theorem d_w_names (T : Tx Pr base K mg A) : FnG Pr w K mg base CX0 4 A.a_w_names A.fd_w_names ["_law_draw", "_law_many"] (spR K A.cls 2 f_w_names) := by
  unfold f_w_names
  exact fn_ok (k := 3) (N := ["_law_draw", "_law_many", "_law_pool", "_law_letters", "_law_found", "_law_turn", "_law_word", "_law_others", "_law_sign", "_law_letter", "_law_one"]) (run := r_w_names) T.F_w_names sc_w_names fun cdv A0 outer s H E hr hg W hK hc => b_w_names T cdv A0 outer s H E hr hg W hK hc
def r_w_classes : RunS := (sSeq (sSet 2 (rDisp mkL rNil))
    (sSeq (sFor (iRange (rCons (rVar 1) rNil)) none (tgN 3) (sSeq (sDrop (rApp 2 (rCall f_w_take (rCons (rVar 0) (rCons (run2 (runN (rCons (run2 (rBor 2) (rDisp mkL (rCons (run1 (rC (.int 1)) fNeg) rNil)) fAdd) rNil) fMaxL) (rC (.int 2)) fAdd) rNil)))))
    sNx))
    (sSeq (sRet (rMov 2))
    sNx)))
@[irreducible] def f_w_classes : Fn := runFn 4 r_w_classes
theorem b_w_classes (T : Tx Pr base K mg A) (cdv : Value) (A0 : Around) (outer : List PySem.Env) (s : Shared) (H : Hp) (E : XK) (hr : Room 2 (A0.deeper (PyProof.Rows.envOfC "_law_classes" (defScope st_w_classes) s.heap.objs.size A.a_w_classes cdv))) (hg : NoG (A0.deeper (PyProof.Rows.envOfC "_law_classes" (defScope st_w_classes) s.heap.objs.size A.a_w_classes cdv))) (W : Wd) (hK : W.K = K) (hc : W.cls = A.cls) :
    PSs (cxOf CX0 Pr w K mg base ["_law_draw", "_law_many", "_law_found", "_law_turn"] "_law_classes" (defScope st_w_classes) A.a_w_classes cdv A0 outer s H E).nox (defBody st_w_classes) (TVS W r_w_classes) := by
  obtain ⟨K1, wa, wb, cl1⟩ := W
  subst hK
  subst hc
  exact (z_cons (s_set 2 sc_w_classes.nd (e_lst a_nil))
    (z_cons (s_for (x_range rfl T.n_range (e_var 1) rfl) (pg_name (i := 3) sc_w_classes.nd rfl (by first | exact Or.inl rfl | exact Or.inr rfl)) (g_name (i := 3)) (z_cons (s_drop (m_app 2 rfl (e_own 2) (e_call ((d_w_take T).mono (by decide)) rfl rfl hr hg T.m_w_take T.F_w_take.kp T.b_w_take (a_cons (e_var 0) (a_cons (e_add rfl (e_blt (cr_max rfl) p_maxL T.n_max bt_max (a_cons (e_add rfl (e_bor 2) (e_lst (a_cons (e_neg e_int) a_nil))) a_nil)) e_int) a_nil)) (LenR.ok (l_cons (l_cons l_nil))))))
    z_nil))
    (z_cons (z_ret (e_mov 2))
    z_nil)))
theorem d_w_classes (T : Tx Pr base K mg A) : FnG Pr w K mg base CX0 3 A.a_w_classes A.fd_w_classes ["_law_draw", "_law_many"] (spR K A.cls 2 f_w_classes) := by
  unfold f_w_classes
  exact fn_ok (k := 2) (N := ["_law_draw", "_law_many", "_law_found", "_law_turn"]) (run := r_w_classes) T.F_w_classes sc_w_classes fun cdv A0 outer s H E hr hg W hK hc => b_w_classes T cdv A0 outer s H E hr hg W hK hc
def r_w_code : RunS := (sSeq (sSet 2 (rDisp mkL (rCons (rC (.int 0)) (rCons (rC (.int 1)) (rCons (rC (.int 2)) (rCons (run1 (rC (.int 1)) fNeg) (rCons (run2 (rC (.int 10)) (rC (.int 39)) fPow) (rCons (run1 (run2 (rC (.int 10)) (rC (.int 39)) fPow) fNeg) (rCons (run2 (run2 (rC (.int 10)) (rC (.int 39)) fPow) (rC (.int 1)) fAdd) (rCons (rC (.str "a")) (rCons (rC (.str "b")) (rCons (rC (.str "zz")) (rCons (rC (.str "abcdefgh")) (rCons (rC (.str "abcdefgi")) (rCons (rC (.int 7)) (rCons (rC (.str "x")) rNil))))))))))))))))
    (sSeq (sRet (rSlice (rCall f_w_mixed (rCons (rVar 0) (rCons (rVar 2) rNil))) oNone (oSome (rVar 1))))
    sNx))
@[irreducible] def f_w_code : Fn := runFn 3 r_w_code
theorem b_w_code (T : Tx Pr base K mg A) (cdv : Value) (A0 : Around) (outer : List PySem.Env) (s : Shared) (H : Hp) (E : XK) (hr : Room 3 (A0.deeper (PyProof.Rows.envOfC "_law_code" (defScope st_w_code) s.heap.objs.size A.a_w_code cdv))) (hg : NoG (A0.deeper (PyProof.Rows.envOfC "_law_code" (defScope st_w_code) s.heap.objs.size A.a_w_code cdv))) (W : Wd) (hK : W.K = K) (hc : W.cls = A.cls) :
    PSs (cxOf CX0 Pr w K mg base ["_law_draw", "_law_many", "_law_pool"] "_law_code" (defScope st_w_code) A.a_w_code cdv A0 outer s H E).nox (defBody st_w_code) (TVS W r_w_code) := by
  obtain ⟨K1, wa, wb, cl1⟩ := W
  subst hK
  subst hc
  exact (z_cons (s_set 2 sc_w_code.nd (e_lst (a_cons e_int (a_cons e_int (a_cons e_int (a_cons (e_neg e_int) (a_cons (e_pow e_int e_int) (a_cons (e_neg (e_pow e_int e_int)) (a_cons (e_add rfl (e_pow e_int e_int) e_int) (a_cons e_str (a_cons e_str (a_cons e_str (a_cons e_str (a_cons e_str (a_cons e_int (a_cons e_str a_nil))))))))))))))))
    (z_cons (z_ret (e_sl rfl (e_call ((d_w_mixed T).mono (by decide)) rfl rfl hr hg T.m_w_mixed T.F_w_mixed.kp T.b_w_mixed (a_cons (e_var 0) (a_cons (e_var 2) a_nil)) (LenR.ok (l_cons (l_cons l_nil)))) o_none (o_some (e_var 1))))
    z_nil))
theorem d_w_code (T : Tx Pr base K mg A) : FnG Pr w K mg base CX0 4 A.a_w_code A.fd_w_code ["_law_draw", "_law_many"] (spR K A.cls 2 f_w_code) := by
  unfold f_w_code
  exact fn_ok (k := 3) (N := ["_law_draw", "_law_many", "_law_pool"]) (run := r_w_code) T.F_w_code sc_w_code fun cdv A0 outer s H E hr hg W hK hc => b_w_code T cdv A0 outer s H E hr hg W hK hc
def r_w_model : RunS := (sSeq (sPar 3 4 (rCall f_w_names (rCons (rVar 0) (rCons (rVar 1) rNil))) (rCall f_w_names (rCons (rVar 0) (rCons (rVar 2) rNil))))
    (sModel f_w_classes f_w_code))
@[irreducible] def f_w_model : Fn := runFn 12 r_w_model
theorem b_w_model (T : Tx Pr base K mg A) (cdv : Value) (A0 : Around) (outer : List PySem.Env) (s : Shared) (H : Hp) (E : XK) (hr : Room 4 (A0.deeper (PyProof.Rows.envOfC "_law_model" (defScope st_w_model) s.heap.objs.size A.a_w_model cdv))) (hg : NoG (A0.deeper (PyProof.Rows.envOfC "_law_model" (defScope st_w_model) s.heap.objs.size A.a_w_model cdv))) (W : Wd) (hK : W.K = K) (hc : W.cls = A.cls) :
    PSs (cxOf CX0 Pr w K mg base ["_law_draw", "_law_width", "_law_height", "_law_columns", "_law_names_here", "_law_rows", "_law_column", "_law_numbers", "_law_code_here", "_law_name", "_law_number", "_law_cells"] "_law_model" (defScope st_w_model) A.a_w_model cdv A0 outer s H E).nox (defBody st_w_model) (TVS W r_w_model) := by
  obtain ⟨K1, wa, wb, cl1⟩ := W
  subst hK
  subst hc
  exact (z_cons (s_par 3 4 sc_w_model.nd (e_call ((d_w_names T).mono (by decide)) rfl rfl hr hg T.m_w_names T.F_w_names.kp T.b_w_names (a_cons (e_var 0) (a_cons (e_var 1) a_nil)) (LenR.ok (l_cons (l_cons l_nil)))) (e_call ((d_w_names T).mono (by decide)) rfl rfl hr hg T.m_w_names T.F_w_names.kp T.b_w_names (a_cons (e_var 0) (a_cons (e_var 2) a_nil)) (LenR.ok (l_cons (l_cons l_nil)))))
    (z_model (f1 := f_w_classes) (f2 := f_w_code) (ps_set (i := 5) sc_w_model.nd rfl (Or.inl rfl) (pe_callTy (cr_dictP rfl) rfl T.n_dict bt_dict (pa_cons (pe_lc (own := [("_law_name", 9)]) (g := gName 9) (tt := tYes) rfl sc_w_model.nd (pi_list (e_own 4)) (blkOk_by (N := ["_law_draw", "_law_width", "_law_height", "_law_columns", "_law_names_here", "_law_rows", "_law_column", "_law_numbers", "_law_code_here", "_law_name", "_law_number", "_law_cells"]) (sc := (defScope st_w_model)) (by decide +kernel)) (fun _ _ _ _ _ => pg_name (i := 9) sc_w_model.nd rfl (Or.inl rfl)) (fun _ _ _ _ _ => pts_nil) (fun _ _ _ _ _ => pe_tup (pa_cons (e_own 9) (pa_cons pe_dnewK pa_nil)))) pa_nil)))
      (ps_for PassesOwn.never rfl (pi_list (e_own 3)) (pg_name (i := 6) sc_w_model.nd rfl (by first | exact Or.inl rfl | exact Or.inr rfl)) (pss_cons (s_par 7 8 sc_w_model.nd (e_call ((d_w_classes T).mono (by decide)) rfl rfl hr hg T.m_w_classes T.F_w_classes.kp T.b_w_classes (a_cons (e_var 0) (a_cons (e_var 2) a_nil)) (LenR.ok (l_cons (l_cons l_nil)))) (e_call ((d_w_code T).mono (by decide)) rfl rfl hr hg T.m_w_code T.F_w_code.kp T.b_w_code (a_cons (e_var 0) (a_cons (e_var 2) a_nil)) (LenR.ok (l_cons (l_cons l_nil))))) (pss_one (ps_for PassesOwn.never rfl (pi_zip rfl T.n_zip (pa_cons (e_own 4) (pa_cons (e_own 7) pa_nil))) (pg_tup rfl (pgs_cons (pg_name (i := 9) sc_w_model.nd rfl (by first | exact Or.inl rfl | exact Or.inr rfl)) (pgs_cons (pg_name (i := 10) sc_w_model.nd rfl (by first | exact Or.inl rfl | exact Or.inr rfl)) pgs_nil))) (pss_cons (ps_set (i := 11) sc_w_model.nd rfl (Or.inl rfl) (pe_dget hr.u1 (e_own 5) (e_own 9) (fun _ _ => rfl))) (pss_one (ps_dput hr.u1 (e_own 11) (e_own 6) (pe_ix ix_list (e_own 8) (e_own 10) (fun _ _ => rfl)) rfl)))))))
      (ps_ret (pe_tup (pa_cons (e_own 3) (pa_cons (e_own 5) pa_nil))))))
theorem d_w_model (T : Tx Pr base K mg A) : FnG Pr w K mg base CX0 5 A.a_w_model A.fd_w_model ["_law_draw", "_law_width", "_law_height"] (spR K A.cls 3 f_w_model) := by
  unfold f_w_model
  exact fn_ok (k := 4) (N := ["_law_draw", "_law_width", "_law_height", "_law_columns", "_law_names_here", "_law_rows", "_law_column", "_law_numbers", "_law_code_here", "_law_name", "_law_number", "_law_cells"]) (run := r_w_model) T.F_w_model sc_w_model fun cdv A0 outer s H E hr hg W hK hc => b_w_model T cdv A0 outer s H E hr hg W hK hc
def r_w_table : RunS := (sSeq (sTgt (tgTup 2 (tgCons (tgN 1) (tgCons (tgN 2) tgNil))) (rVar 0))
    (sSeq (sRet (rMake 5 0 k_T_init (rCons (rVar 1) (rCons (runN (rCons (rLkd (pthV 2) (rLc (iKy (pthV 2)) none (tgN 3) rYes (rDisp mkT (rCons (rVar 3) (rCons (runN (rCons (rLc (iSeq (rVar 1)) none (tgN 4) rYes (run2 (run2 (rBor 2) (rBor 3) fIxD) (rBor 4) fIxD) [4]) rNil) fTuple) rNil))) [3])) rNil) fDictP) rNil))))
    sNx))
@[irreducible] def f_w_table : Fn := runFn 5 r_w_table
theorem b_w_table (T : Tx Pr base K mg A) (cdv : Value) (A0 : Around) (outer : List PySem.Env) (s : Shared) (H : Hp) (E : XK) (hr : Room 7 (A0.deeper (PyProof.Rows.envOfC "_law_table" (defScope st_w_table) s.heap.objs.size A.a_w_table cdv))) (hg : NoG (A0.deeper (PyProof.Rows.envOfC "_law_table" (defScope st_w_table) s.heap.objs.size A.a_w_table cdv))) (W : Wd) (hK : W.K = K) (hc : W.cls = A.cls) :
    PSs (cxOf CX0 Pr w K mg base ["_law_model_here", "_law_columns", "_law_rows", "_law_row", "_law_column"] "_law_table" (defScope st_w_table) A.a_w_table cdv A0 outer s H E).nox (defBody st_w_table) (TVS W r_w_table) := by
  obtain ⟨K1, wa, wb, cl1⟩ := W
  subst hK
  subst hc
  exact (z_cons (s_tgt (e_var 0) (pg_tup rfl (pgs_cons (pg_name (i := 1) sc_w_table.nd rfl (by first | exact Or.inl rfl | exact Or.inr rfl)) (pgs_cons (pg_name (i := 2) sc_w_table.nd rfl (by first | exact Or.inl rfl | exact Or.inr rfl)) pgs_nil))) (g_tup (n := 2) (g_cons (g_name (i := 1)) (g_cons (g_name (i := 2)) g_nil))))
    (z_cons (z_ret (e_make (cls := A.cls) T.mk_T ((d_T_init T).mono (by decide)) rfl rfl hr hg T.mc_T T.b_T_init (a_cons (e_var 1) (a_cons (e_bty (cr_dictP rfl) p_dictP T.n_dict bt_dict (a_cons (e_lcD [("_law_row", 3)] sc_w_table.nd (blkOk_by (N := ["_law_model_here", "_law_columns", "_law_rows", "_law_row", "_law_column"]) (sc := (defScope st_w_table)) (by decide +kernel)) (path_var 2) (e_own 2) (fun _ _ _ _ _ => (pg_name (i := 3) sc_w_table.nd rfl (Or.inr rfl))) (g_name (i := 3)) (fun _ _ _ _ _ => ts_nil) (fun _ _ _ _ _ => (e_tup (a_cons (e_var 3) (a_cons (e_bty call_tuple_of p_tuple T.n_tuple bt_tuple (a_cons (e_lc [("_law_column", 4)] sc_w_table.nd (blkOk_by (N := ["_law_model_here", "_law_columns", "_law_rows", "_law_row", "_law_column"]) (sc := (relS _ (defScope st_w_table))) (by decide +kernel)) (x_seq (e_var 1) rfl) (fun _ _ _ _ _ => (pg_name (i := 4) sc_w_table.nd rfl (Or.inl rfl))) (g_name (i := 4)) (fun _ _ _ _ _ => ts_nil) (fun _ _ _ _ _ => (e_ixD hr (e_ixD hr (e_bor 2) (e_bor 3)) (e_bor 4)))) a_nil)) a_nil))))) a_nil)) a_nil)) (l_cons (l_cons l_nil))))
    z_nil))
theorem d_w_table (T : Tx Pr base K mg A) : FnG Pr w K mg base CX0 8 A.a_w_table A.fd_w_table ["_law_model_here"] (spR K A.cls 1 f_w_table) := by
  unfold f_w_table
  exact fn_ok (k := 7) (N := ["_law_model_here", "_law_columns", "_law_rows", "_law_row", "_law_column"]) (run := r_w_table) T.F_w_table sc_w_table fun cdv A0 outer s H E hr hg W hK hc => b_w_table T cdv A0 outer s H E hr hg W hK hc
def r_w_text : RunS := (sSeq (sSet 1 (rDisp mkL (rCons (rStrM (rC (.str " ")) (rCons (run2 (rDisp mkL (rCons (rC (.str "columns")) rNil)) (run2 (rBor 0) (rC (.int 0)) fIx) fAdd) rNil) fJoin) rNil)))
    (sSeq (sFor (iSeq (runN (rCons (run2 (rBor 0) (rC (.int 1)) fIx) rNil) fSortU)) none (tgN 2) (sSeq (sDrop (rApp 1 (rStrM (rC (.str " ")) (rCons (run2 (rDisp mkL (rCons (rC (.str "row")) (rCons (rVar 2) rNil))) (rLc (iSeq (run2 (rBor 0) (rC (.int 0)) fIx)) none (tgN 3) rYes (runN (rCons (run2 (run2 (run2 (rBor 0) (rC (.int 1)) fIx) (rBor 2) fIxD) (rBor 3) fIxD) rNil) fStr) [3]) fAdd) rNil) fJoin)))
    sNx))
    (sSeq (sRet (rStrM (rC (.str "")) (rCons (rLc (iLock 1) (some 1) (tgN 4) rYes (run2 (rBor 4) (rC (.str "\n")) fAdd) [4]) rNil) fJoin))
    sNx)))
@[irreducible] def f_w_text : Fn := runFn 5 r_w_text
theorem b_w_text (T : Tx Pr base K mg A) (cdv : Value) (A0 : Around) (outer : List PySem.Env) (s : Shared) (H : Hp) (E : XK) (hr : Room 1 (A0.deeper (PyProof.Rows.envOfC "_law_text" (defScope st_w_text) s.heap.objs.size A.a_w_text cdv))) (hg : NoG (A0.deeper (PyProof.Rows.envOfC "_law_text" (defScope st_w_text) s.heap.objs.size A.a_w_text cdv))) (W : Wd) (hK : W.K = K) (hc : W.cls = A.cls) :
    PSs (cxOf CX0 Pr w K mg base ["_law_model_here", "_law_lines", "_law_row", "_law_column", "_law_line"] "_law_text" (defScope st_w_text) A.a_w_text cdv A0 outer s H E).nox (defBody st_w_text) (TVS W r_w_text) := by
  obtain ⟨K1, wa, wb, cl1⟩ := W
  subst hK
  subst hc
  exact (z_cons (s_set 1 sc_w_text.nd (e_lst (a_cons (m_join rfl e_str (e_add rfl (e_lst (a_cons e_str a_nil)) (e_ix rfl (e_bor 0) e_int))) a_nil)))
    (z_cons (s_for (x_seq (e_blt (cr_sortU rfl hr.units) p_sortU T.n_sorted bt_sorted (a_cons (e_ix rfl (e_bor 0) e_int) a_nil)) rfl) (pg_name (i := 2) sc_w_text.nd rfl (by first | exact Or.inl rfl | exact Or.inr rfl)) (g_name (i := 2)) (z_cons (s_drop (m_app 1 rfl (e_own 1) (m_join rfl e_str (e_add rfl (e_lst (a_cons e_str (a_cons (e_var 2) a_nil))) (e_lc [("_law_column", 3)] sc_w_text.nd (blkOk_by (N := ["_law_model_here", "_law_lines", "_law_row", "_law_column", "_law_line"]) (sc := (defScope st_w_text)) (by decide +kernel)) (x_seq (e_ix rfl (e_bor 0) e_int) rfl) (fun _ _ _ _ _ => (pg_name (i := 3) sc_w_text.nd rfl (Or.inl rfl))) (g_name (i := 3)) (fun _ _ _ _ _ => ts_nil) (fun _ _ _ _ _ => (e_bty call_strU p_str T.n_str bt_str (a_cons (e_ixD hr (e_ixD hr (e_ix rfl (e_bor 0) e_int) (e_bor 2)) (e_bor 3)) a_nil))))))))
    z_nil))
    (z_cons (z_ret (m_join rfl e_str (e_lc [("_law_line", 4)] sc_w_text.nd (blkOk_by (N := ["_law_model_here", "_law_lines", "_law_row", "_law_column", "_law_line"]) (sc := (defScope st_w_text)) (by decide +kernel)) (x_lock (e_own 1) rfl) (fun _ _ _ _ _ => (pg_name (i := 4) sc_w_text.nd rfl (Or.inl rfl))) (g_name (i := 4)) (fun _ _ _ _ _ => ts_nil) (fun _ _ _ _ _ => (e_add rfl (e_bor 4) e_str)))))
    z_nil)))
theorem d_w_text (T : Tx Pr base K mg A) : FnG Pr w K mg base CX0 2 A.a_w_text A.fd_w_text ["_law_model_here"] (spR K A.cls 1 f_w_text) := by
  unfold f_w_text
  exact fn_ok (k := 1) (N := ["_law_model_here", "_law_lines", "_law_row", "_law_column", "_law_line"]) (run := r_w_text) T.F_w_text sc_w_text fun cdv A0 outer s H E hr hg W hK hc => b_w_text T cdv A0 outer s H E hr hg W hK hc
def r_law : RunS := (sSeq (sFor (iRange (rCons (run2 (rC (.int 5)) (runN (rCons (runN (rCons (rBor 0) rNil) fLen) (rCons (rC (.int 20)) rNil)) fMin2) fAdd) rNil)) none (tgN 2) (sSeq (sSet 3 (rCall f_w_model (rCons (rVar 1) (rCons (run2 (rC (.int 1)) (rCall f_w_take (rCons (rVar 1) (rCons (rC (.int 5)) rNil))) fAdd) (rCons (rCall f_w_take (rCons (rVar 1) (rCons (rC (.int 9)) rNil))) rNil)))))
    (sSeq (sPar 4 5 (rCall f_w_table (rCons (rVar 3) rNil)) (rCall f_w_text (rCons (rVar 3) rNil)))
    (sSeq (sIf (toT (rOr (run2 (rCall f_format_table (rCons (rVar 4) rNil)) (rBor 5) fNe) (rOr (run2 (rCallK f_format_table sw0 rNil (rCons (rVar 4) rNil)) (rBor 5) fNe) (rNot (runN (rCons (rCall f_format_table (rCons (rVar 4) rNil)) (rCons (rC (.ty "str")) rNil)) fIsi))))) (sSeq (sRet (rC (.bl false)))
    sNx) sNx)
    (sSeq (sSet 6 (rCall f_parse_table (rCons (rVar 5) rNil)))
    (sSeq (sIf (toT (rOr (rNot (runN (rCons (rVar 6) (rCons (rC (.cl 0)) rNil)) (fIsC 0))) (rOr (rNeU 0 f_T_eq (rVar 6) (rVar 4)) (rNeU 0 f_T_eq (rCallK f_parse_table sw0 rNil (rCons (rVar 5) rNil)) (rVar 4))))) (sSeq (sRet (rC (.bl false)))
    sNx) sNx)
    (sSeq (sIf (toT (run2 (rCall f_format_table (rCons (rVar 6) rNil)) (rBor 5) fNe)) (sSeq (sRet (rC (.bl false)))
    sNx) sNx)
    (sSeq (sSet 7 (rDisp mkT (rCons (run2 (rBor 3) (rC (.int 0)) fIx) (rCons (runN (rCons (rLc (iSeq (run1 (runN (rCons (run2 (rBor 3) (rC (.int 1)) fIx) rNil) fListD) fRevX)) none (tgN 9) rYes (rDisp mkT (rCons (rVar 9) (rCons (run2 (run2 (rBor 3) (rC (.int 1)) fIx) (rBor 9) fIxD) rNil))) [9]) rNil) fDictP) rNil))))
    (sSeq (sIf (toT (run2 (rCall f_format_table (rCons (rCall f_w_table (rCons (rVar 7) rNil)) rNil)) (rBor 5) fNe)) (sSeq (sRet (rC (.bl false)))
    sNx) sNx)
    (sSeq (sSet 8 (rDisp mkT (rCons (rCall f_w_mixed (rCons (rVar 1) (rCons (run2 (rBor 3) (rC (.int 0)) fIx) rNil))) (rCons (run2 (rBor 3) (rC (.int 1)) fIx) rNil))))
    (sSeq (sIf (toT (run2 (run2 (rCall f_format_table (rCons (rCall f_w_table (rCons (rVar 8) rNil)) rNil)) (rBor 5) fEq) (rEqU 0 f_T_eq (rCall f_w_table (rCons (rVar 8) rNil)) (rVar 4)) fNe)) (sSeq (sRet (rC (.bl false)))
    sNx) sNx)
    sNx)))))))))))
    (sSeq (sRet (rC (.bl true)))
    sNx))
theorem b_law (T : Tx Pr base K mg A) (cdv : Value) (A0 : Around) (outer : List PySem.Env) (s : Shared) (H : Hp) (E : XK) (hr : Room 8 (A0.deeper (PyProof.Rows.envOfC "law" (defScope st_law) s.heap.objs.size A.a_law cdv))) (hg : NoG (A0.deeper (PyProof.Rows.envOfC "law" (defScope st_law) s.heap.objs.size A.a_law cdv))) (W : Wd) (hK : W.K = K) (hc : W.cls = A.cls) :
    PSs (cxOf CX0 Pr w K mg base ["_law_script", "_law_draw", "_law_turn", "_law_model_here", "_law_grid", "_law_due", "_law_found", "_law_turned", "_law_other", "_law_row"] "law" (defScope st_law) A.a_law cdv A0 outer s H E).nox (restS st_law) (TVS W r_law) := by
  obtain ⟨K1, wa, wb, cl1⟩ := W
  subst hK
  subst hc
  exact (z_cons (s_for (x_range rfl T.n_range (e_add rfl e_int (e_blt (call_min2 rfl) p_min2 T.n_min bt_min (a_cons (e_blt cr_lenAll p_len T.n_len bt_len (a_cons (e_bor 0) a_nil)) (a_cons e_int a_nil)))) rfl) (pg_name (i := 2) sc_law.nd rfl (by first | exact Or.inl rfl | exact Or.inr rfl)) (g_name (i := 2)) (z_cons (s_set 3 sc_law.nd (e_call ((d_w_model T).mono (by decide)) rfl rfl hr hg T.m_w_model T.F_w_model.kp T.b_w_model (a_cons (e_var 1) (a_cons (e_add rfl e_int (e_call ((d_w_take T).mono (by decide)) rfl rfl hr hg T.m_w_take T.F_w_take.kp T.b_w_take (a_cons (e_var 1) (a_cons e_int a_nil)) (LenR.ok (l_cons (l_cons l_nil))))) (a_cons (e_call ((d_w_take T).mono (by decide)) rfl rfl hr hg T.m_w_take T.F_w_take.kp T.b_w_take (a_cons (e_var 1) (a_cons e_int a_nil)) (LenR.ok (l_cons (l_cons l_nil)))) a_nil))) (LenR.ok (l_cons (l_cons (l_cons l_nil))))))
    (z_cons (s_par 4 5 sc_law.nd (e_call ((d_w_table T).mono (by decide)) rfl rfl hr hg T.m_w_table T.F_w_table.kp T.b_w_table (a_cons (e_var 3) a_nil) (LenR.ok (l_cons l_nil))) (e_call ((d_w_text T).mono (by decide)) rfl rfl hr hg T.m_w_text T.F_w_text.kp T.b_w_text (a_cons (e_var 3) a_nil) (LenR.ok (l_cons l_nil))))
    (z_cons (z_if (t_bool (w_or (t_ne rfl hr (e_call ((d_format_table T).mono (by decide)) rfl rfl hr hg T.m_format_table T.F_format_table.kp T.b_format_table (a_cons (e_var 4) a_nil) (LenR.ok (l_cons l_nil))) (e_bor 5)) (w_or (t_ne rfl hr (e_callK0 ((d_format_table T).mono (by decide)) rfl rfl hr hg T.m_format_table T.F_format_table.kp T.kb_format_table_0 pm0 (k_cons (e_var 4) k_nil) (q0_len (l_cons l_nil))) (e_bor 5)) (w_or1 (t_not (t_val (e_blt cr_isiAll p_isi T.n_isinstance bt_isinstance (a_cons (e_call ((d_format_table T).mono (by decide)) rfl rfl hr hg T.m_format_table T.F_format_table.kp T.b_format_table (a_cons (e_var 4) a_nil) (LenR.ok (l_cons l_nil))) (a_cons (e_ty T.n_str bt_str) a_nil))))))))) (z_cons (z_ret e_bl)
    z_nil) z_nil)
    (z_cons (s_set 6 sc_law.nd (e_call ((d_parse_table T).mono (by decide)) rfl rfl hr hg T.m_parse_table T.F_parse_table.kp T.b_parse_table (a_cons (e_var 5) a_nil) (LenR.ok (l_cons l_nil))))
    (z_cons (z_if (t_bool (w_or (t_not (t_val (e_isC T.ins_T T.n_isinstance bt_isinstance (a_cons (e_var 6) (a_cons (e_cl T.mc_T) a_nil))))) (w_or (t_neU ((d_T_eq T).mono (by decide)) T.eq_s T.ne_T T.ob_T T.eq_f rfl rfl hr hg T.b_T_eq (e_var 6) (e_var 4)) (w_or1 (t_neU ((d_T_eq T).mono (by decide)) T.eq_s T.ne_T T.ob_T T.eq_f rfl rfl hr hg T.b_T_eq (e_callK0 ((d_parse_table T).mono (by decide)) rfl rfl hr hg T.m_parse_table T.F_parse_table.kp T.kb_parse_table_0 pm0 (k_cons (e_var 5) k_nil) (q0_len (l_cons l_nil))) (e_var 4)))))) (z_cons (z_ret e_bl)
    z_nil) z_nil)
    (z_cons (z_if (t_ne rfl hr (e_call ((d_format_table T).mono (by decide)) rfl rfl hr hg T.m_format_table T.F_format_table.kp T.b_format_table (a_cons (e_var 6) a_nil) (LenR.ok (l_cons l_nil))) (e_bor 5)) (z_cons (z_ret e_bl)
    z_nil) z_nil)
    (z_cons (s_set 7 sc_law.nd (e_tup (a_cons (e_ix rfl (e_bor 3) e_int) (a_cons (e_bty (cr_dictP rfl) p_dictP T.n_dict bt_dict (a_cons (e_lc [("_law_row", 9)] sc_law.nd (blkOk_by (N := ["_law_script", "_law_draw", "_law_turn", "_law_model_here", "_law_grid", "_law_due", "_law_found", "_law_turned", "_law_other", "_law_row"]) (sc := (defScope st_law)) (by decide +kernel)) (x_seq (e_revX rfl (e_bty (call_listD rfl) p_listD T.n_list bt_list (a_cons (e_ix rfl (e_bor 3) e_int) a_nil))) rfl) (fun _ _ _ _ _ => (pg_name (i := 9) sc_law.nd rfl (Or.inl rfl))) (g_name (i := 9)) (fun _ _ _ _ _ => ts_nil) (fun _ _ _ _ _ => (e_tup (a_cons (e_var 9) (a_cons (e_ixD hr (e_ix rfl (e_bor 3) e_int) (e_bor 9)) a_nil))))) a_nil)) a_nil))))
    (z_cons (z_if (t_ne rfl hr (e_call ((d_format_table T).mono (by decide)) rfl rfl hr hg T.m_format_table T.F_format_table.kp T.b_format_table (a_cons (e_call ((d_w_table T).mono (by decide)) rfl rfl hr hg T.m_w_table T.F_w_table.kp T.b_w_table (a_cons (e_var 7) a_nil) (LenR.ok (l_cons l_nil))) a_nil) (LenR.ok (l_cons l_nil))) (e_bor 5)) (z_cons (z_ret e_bl)
    z_nil) z_nil)
    (z_cons (s_set 8 sc_law.nd (e_tup (a_cons (e_call ((d_w_mixed T).mono (by decide)) rfl rfl hr hg T.m_w_mixed T.F_w_mixed.kp T.b_w_mixed (a_cons (e_var 1) (a_cons (e_ix rfl (e_bor 3) e_int) a_nil)) (LenR.ok (l_cons (l_cons l_nil)))) (a_cons (e_ix rfl (e_bor 3) e_int) a_nil))))
    (z_cons (z_if (t_ne rfl hr (e_eq rfl hr (e_call ((d_format_table T).mono (by decide)) rfl rfl hr hg T.m_format_table T.F_format_table.kp T.b_format_table (a_cons (e_call ((d_w_table T).mono (by decide)) rfl rfl hr hg T.m_w_table T.F_w_table.kp T.b_w_table (a_cons (e_var 8) a_nil) (LenR.ok (l_cons l_nil))) a_nil) (LenR.ok (l_cons l_nil))) (e_bor 5)) (e_eqU ((d_T_eq T).mono (by decide)) T.eq_s T.eq_f rfl rfl hr hg T.b_T_eq (e_call ((d_w_table T).mono (by decide)) rfl rfl hr hg T.m_w_table T.F_w_table.kp T.b_w_table (a_cons (e_var 8) a_nil) (LenR.ok (l_cons l_nil))) (e_var 4))) (z_cons (z_ret e_bl)
    z_nil) z_nil)
    z_nil)))))))))))
    (z_cons (z_ret e_bl)
    z_nil))
theorem d_law (T : Tx Pr base K mg A) : FnG Pr w K mg base CX0 9 A.a_law A.fd_law ["_law_script"] (spLaw K A.tbl 10 r_law) :=
  law_ok (k := 8) (cls := A.cls) (N := ["_law_script", "_law_draw", "_law_turn", "_law_model_here", "_law_grid", "_law_due", "_law_found", "_law_turned", "_law_other", "_law_row"]) (run := r_law) (s0 := headS st_law) (rest := restS st_law) T.F_law sc_law (by decide) rfl (fun cdv A0 outer s H E hr hg => ps_set (i := 1) sc_law.nd rfl (by first | exact Or.inl rfl | exact Or.inr rfl) (pe_callG ((d_w_begin T).mono (by decide)) hr hg rfl T.m_w_begin T.F_w_begin.kp T.b_w_begin .nil pass0 (pa_cons (e_own 0) pa_nil) (by decide) rfl rfl))
    fun cdv A0 outer s H E hr hg W hK hc => b_law T cdv A0 outer s H E hr hg W hK hc
end
theorem all_mk {l : PySem.W.OpenLaw} {w : World} {K : PySem.W.Frag} {h : Heap} {mg : Str → Option Value} {fa f0 f1 f2 f3 f4 f5 f6 f7 f8 f9 f10 f11 f12 f13 f14 f15 f16 f17 f18 f19 f20 f21 f22 f23 f24 f25 f26 f27 f28 f29 : Addr} (X : K.In h) (G : h.Ns mainGlobals mg) (hfa : mg "law" = some (.ref fa))
    {od0 an0 od1 an1 od2 an2 od3 an3 od4 an4 od5 an5 od6 an6 od7 an7 od8 an8 od9 an9 od10 an10 od11 an11 od12 an12 od13 an13 od14 an14 od15 an15 od16 an16 od17 an17 od18 an18 od19 an19 od20 an20 od21 an21 od22 an22 od23 an23 od24 an24 od25 an25 od26 an26 od27 an27 od28 an28 od29 an29 : Option Addr} {sl0 sl1 sl2 sl3 sl4 sl5 sl6 sl7 sl8 sl9 sl10 sl11 sl12 sl13 sl14 sl15 sl16 sl17 sl18 sl19 sl20 sl21 sl22 sl23 sl24 sl25 sl26 sl27 sl28 sl29 : Array (Option Value)} {oc0 kV0 dc0 pm0 cd0 ct0 oc1 kV1 dc1 pm1 cd1 ct1 oc2 kV2 dc2 pm2 cd2 ct2 oc3 kV3 dc3 pm3 cd3 ct3 oc4 kV4 dc4 pm4 cd4 ct4 oc5 kV5 dc5 pm5 cd5 ct5 oc6 kV6 dc6 pm6 cd6 ct6 oc7 kV7 dc7 pm7 cd7 ct7 oc8 kV8 dc8 pm8 cd8 ct8 oc9 kV9 dc9 pm9 cd9 ct9 oc10 kV10 dc10 pm10 cd10 ct10 oc11 kV11 dc11 pm11 cd11 ct11 oc12 kV12 dc12 pm12 cd12 ct12 oc13 kV13 dc13 pm13 cd13 ct13 oc14 kV14 dc14 pm14 cd14 ct14 oc15 kV15 dc15 pm15 cd15 ct15 oc16 kV16 dc16 pm16 cd16 ct16 oc17 kV17 dc17 pm17 cd17 ct17 oc18 kV18 dc18 pm18 cd18 ct18 oc19 kV19 dc19 pm19 cd19 ct19 oc20 kV20 dc20 pm20 cd20 ct20 oc21 kV21 dc21 pm21 cd21 ct21 oc22 kV22 dc22 pm22 cd22 ct22 oc23 kV23 dc23 pm23 cd23 ct23 oc24 kV24 dc24 pm24 cd24 ct24 oc25 kV25 dc25 pm25 cd25 ct25 oc26 kV26 dc26 pm26 cd26 ct26 oc27 kV27 dc27 pm27 cd27 ct27 oc28 kV28 dc28 pm28 cd28 ct28 oc29 kV29 dc29 pm29 cd29 ct29 : Value}
    {tk_LETTERS tk_LONGEST_NAME tk_MOST_COLUMNS tk_MOST_ROWS tk_FIRST_TOO_LARGE tk_COLUMN tk_ROW tk_DIGITS tk_MOST_DIGITS : Tok}
    {e_FitError : Addr} (aE_FitError : PySem.W.nsIn K mainGlobals "FitError" = some (some (.ref e_FitError))) (exF : PySem.W.subIn K (.ref e_FitError) (.type "BaseException") = some true) (hdF : PySem.W.hasDictIn K e_FitError = true) (tyF : PySem.W.typeIn K (.ref e_FitError) = some (.type "type"))
    (opq : PySem.W.nsIn K PySem.cStatics "thirdparty.any" = some none) (topS : (l.prog.main.scope.names.lookup ("super" : Str)).isSome = false) (zS : PySem.W.nsIn K mainGlobals "super" = some none) (xhn : PySem.W.specialIn K (.builtin "object.__class__") "__get__" = some (some (.builtin "getset_descriptor.__get__"))) (xht : PySem.W.takesIn K (.builtin "object.__class__") = some true)
    {e_InvalidTable i_InvalidTable cc_InvalidTable cd_InvalidTable N_InvalidTable : Addr} {n1_InvalidTable n2_InvalidTable tx_InvalidTable : Str} {bs_InvalidTable sub_InvalidTable : List Value} {sn_InvalidTable : List Str} {ab_InvalidTable : Bool} {col_InvalidTable : Option Bool} {dd_InvalidTable od_InvalidTable an_InvalidTable cld_InvalidTable cdd_InvalidTable : Option Addr} {m0_InvalidTable m1_InvalidTable m2_InvalidTable m3_InvalidTable m5_InvalidTable : Option Value} {oc_InvalidTable kV_InvalidTable dc_InvalidTable pm_InvalidTable ct_InvalidTable cl_InvalidTable ccl_InvalidTable : Value} {sl_InvalidTable csl_InvalidTable ccs_InvalidTable : Array (Option Value)} {vs_InvalidTable : Array Value} {tf_InvalidTable : Tok}
    (aE_InvalidTable : PySem.W.nsIn K mainGlobals "InvalidTable" = some (some (.ref e_InvalidTable))) (xE_InvalidTable : K.lookup e_InvalidTable = some (excClassObj n1_InvalidTable n2_InvalidTable e_InvalidTable N_InvalidTable bs_InvalidTable [.ref e_FitError, .type "ValueError", .type "Exception", .type "BaseException", .type "object"] true sn_InvalidTable sub_InvalidTable ab_InvalidTable col_InvalidTable dd_InvalidTable m0_InvalidTable m1_InvalidTable m2_InvalidTable m3_InvalidTable m5_InvalidTable "ValueError.__new__"))
    (al_InvalidTable : PySem.W.alongIn K "__init__" [.ref e_FitError, .type "ValueError", .type "Exception", .type "BaseException", .type "object"] = some (some (.builtin "ValueError.__init__"))) (sa_InvalidTable : PySem.W.findIn K (.ref e_InvalidTable) "__setattr__" = some (some (.builtin "object.__setattr__"))) (ga_InvalidTable : PySem.W.findIn K (.ref e_InvalidTable) "__getattribute__" = some (some (.builtin "BaseException.__getattribute__"))) (gg_InvalidTable : PySem.W.findIn K (.ref e_InvalidTable) "__getattr__" = some none)
    (ca_InvalidTable : PySem.W.findIn K (.ref e_InvalidTable) "__class__" = some (some (.builtin "object.__class__"))) (iC_InvalidTable : PySem.W.findIn K (.ref e_InvalidTable) "__init__" = some (some (.ref i_InvalidTable))) (tC_InvalidTable : PySem.W.typeIn K (.ref i_InvalidTable) = some (.type "function")) (kC_InvalidTable : PySem.W.keepIn K (.ref e_InvalidTable) = true) (xC_InvalidTable : PySem.W.subIn K (.ref e_InvalidTable) (.type "BaseException") = some true) (vC_InvalidTable : PySem.W.subIn K (.ref e_InvalidTable) (.type "ValueError") = some true) (sC_InvalidTable : PySem.W.mroIn K e_InvalidTable (.ref e_InvalidTable) = some true) (ob_InvalidTable : PySem.W.mroIn K e_InvalidTable (.type "object") = some true) (ty_InvalidTable : PySem.W.typeIn K (.ref e_InvalidTable) = some (.type "type")) (hd_InvalidTable : PySem.W.hasDictIn K e_InvalidTable = true) (su_InvalidTable : PySem.W.subIn K (.ref e_InvalidTable) (.ref e_FitError) = some true)
    (lE_InvalidTable : K.lookup i_InvalidTable = some ⟨oc_InvalidTable, od_InvalidTable, .func (PySem.W.ksFn "__init__" "InvalidTable.__init__" (defArgs st_e_InvalidTable) (defBody st_e_InvalidTable) (defScope st_e_InvalidTable) .none kV_InvalidTable dc_InvalidTable pm_InvalidTable an_InvalidTable (.ref cd_InvalidTable) ct_InvalidTable cc_InvalidTable), sl_InvalidTable⟩) (cE_InvalidTable : PySem.W.codeIn K (.ref cd_InvalidTable) "InvalidTable.__init__" = true) (ce_InvalidTable : K.lookup cc_InvalidTable = some ⟨cl_InvalidTable, cld_InvalidTable, .cell (some (.ref e_InvalidTable)), csl_InvalidTable⟩) (co_InvalidTable : K.lookup cd_InvalidTable = some ⟨ccl_InvalidTable, cdd_InvalidTable, .fields vs_InvalidTable, ccs_InvalidTable⟩) (v2_InvalidTable : vs_InvalidTable[2]? = some (.str tx_InvalidTable tf_InvalidTable)) (fi_InvalidTable : ((l.prog.main.file : Str) == tx_InvalidTable) = true)
    (no_InvalidTable : PySem.W.findIn K (.ref e_InvalidTable) "part" = some none)
    {e_UnknownItem i_UnknownItem cc_UnknownItem cd_UnknownItem N_UnknownItem : Addr} {n1_UnknownItem n2_UnknownItem tx_UnknownItem : Str} {bs_UnknownItem sub_UnknownItem : List Value} {sn_UnknownItem : List Str} {ab_UnknownItem : Bool} {col_UnknownItem : Option Bool} {dd_UnknownItem od_UnknownItem an_UnknownItem cld_UnknownItem cdd_UnknownItem : Option Addr} {m0_UnknownItem m1_UnknownItem m2_UnknownItem m3_UnknownItem m5_UnknownItem : Option Value} {oc_UnknownItem kV_UnknownItem dc_UnknownItem pm_UnknownItem ct_UnknownItem cl_UnknownItem ccl_UnknownItem : Value} {sl_UnknownItem csl_UnknownItem ccs_UnknownItem : Array (Option Value)} {vs_UnknownItem : Array Value} {tf_UnknownItem : Tok}
    (aE_UnknownItem : PySem.W.nsIn K mainGlobals "UnknownItem" = some (some (.ref e_UnknownItem))) (xE_UnknownItem : K.lookup e_UnknownItem = some (excClassObj n1_UnknownItem n2_UnknownItem e_UnknownItem N_UnknownItem bs_UnknownItem [.ref e_FitError, .type "ValueError", .type "Exception", .type "BaseException", .type "object"] true sn_UnknownItem sub_UnknownItem ab_UnknownItem col_UnknownItem dd_UnknownItem m0_UnknownItem m1_UnknownItem m2_UnknownItem m3_UnknownItem m5_UnknownItem "ValueError.__new__"))
    (al_UnknownItem : PySem.W.alongIn K "__init__" [.ref e_FitError, .type "ValueError", .type "Exception", .type "BaseException", .type "object"] = some (some (.builtin "ValueError.__init__"))) (sa_UnknownItem : PySem.W.findIn K (.ref e_UnknownItem) "__setattr__" = some (some (.builtin "object.__setattr__"))) (ga_UnknownItem : PySem.W.findIn K (.ref e_UnknownItem) "__getattribute__" = some (some (.builtin "BaseException.__getattribute__"))) (gg_UnknownItem : PySem.W.findIn K (.ref e_UnknownItem) "__getattr__" = some none)
    (ca_UnknownItem : PySem.W.findIn K (.ref e_UnknownItem) "__class__" = some (some (.builtin "object.__class__"))) (iC_UnknownItem : PySem.W.findIn K (.ref e_UnknownItem) "__init__" = some (some (.ref i_UnknownItem))) (tC_UnknownItem : PySem.W.typeIn K (.ref i_UnknownItem) = some (.type "function")) (kC_UnknownItem : PySem.W.keepIn K (.ref e_UnknownItem) = true) (xC_UnknownItem : PySem.W.subIn K (.ref e_UnknownItem) (.type "BaseException") = some true) (vC_UnknownItem : PySem.W.subIn K (.ref e_UnknownItem) (.type "ValueError") = some true) (sC_UnknownItem : PySem.W.mroIn K e_UnknownItem (.ref e_UnknownItem) = some true) (ob_UnknownItem : PySem.W.mroIn K e_UnknownItem (.type "object") = some true) (ty_UnknownItem : PySem.W.typeIn K (.ref e_UnknownItem) = some (.type "type")) (hd_UnknownItem : PySem.W.hasDictIn K e_UnknownItem = true) (su_UnknownItem : PySem.W.subIn K (.ref e_UnknownItem) (.ref e_FitError) = some true)
    (lE_UnknownItem : K.lookup i_UnknownItem = some ⟨oc_UnknownItem, od_UnknownItem, .func (PySem.W.ksFn "__init__" "UnknownItem.__init__" (defArgs st_e_UnknownItem) (defBody st_e_UnknownItem) (defScope st_e_UnknownItem) .none kV_UnknownItem dc_UnknownItem pm_UnknownItem an_UnknownItem (.ref cd_UnknownItem) ct_UnknownItem cc_UnknownItem), sl_UnknownItem⟩) (cE_UnknownItem : PySem.W.codeIn K (.ref cd_UnknownItem) "UnknownItem.__init__" = true) (ce_UnknownItem : K.lookup cc_UnknownItem = some ⟨cl_UnknownItem, cld_UnknownItem, .cell (some (.ref e_UnknownItem)), csl_UnknownItem⟩) (co_UnknownItem : K.lookup cd_UnknownItem = some ⟨ccl_UnknownItem, cdd_UnknownItem, .fields vs_UnknownItem, ccs_UnknownItem⟩) (v2_UnknownItem : vs_UnknownItem[2]? = some (.str tx_UnknownItem tf_UnknownItem)) (fi_UnknownItem : ((l.prog.main.file : Str) == tx_UnknownItem) = true)
    (no_UnknownItem : PySem.W.findIn K (.ref e_UnknownItem) "item" = some none)
    {e_InvalidText i_InvalidText cc_InvalidText cd_InvalidText N_InvalidText : Addr} {n1_InvalidText n2_InvalidText tx_InvalidText : Str} {bs_InvalidText sub_InvalidText : List Value} {sn_InvalidText : List Str} {ab_InvalidText : Bool} {col_InvalidText : Option Bool} {dd_InvalidText od_InvalidText an_InvalidText cld_InvalidText cdd_InvalidText : Option Addr} {m0_InvalidText m1_InvalidText m2_InvalidText m3_InvalidText m5_InvalidText : Option Value} {oc_InvalidText kV_InvalidText dc_InvalidText pm_InvalidText ct_InvalidText cl_InvalidText ccl_InvalidText : Value} {sl_InvalidText csl_InvalidText ccs_InvalidText : Array (Option Value)} {vs_InvalidText : Array Value} {tf_InvalidText : Tok}
    (aE_InvalidText : PySem.W.nsIn K mainGlobals "InvalidText" = some (some (.ref e_InvalidText))) (xE_InvalidText : K.lookup e_InvalidText = some (excClassObj n1_InvalidText n2_InvalidText e_InvalidText N_InvalidText bs_InvalidText [.ref e_FitError, .type "ValueError", .type "Exception", .type "BaseException", .type "object"] true sn_InvalidText sub_InvalidText ab_InvalidText col_InvalidText dd_InvalidText m0_InvalidText m1_InvalidText m2_InvalidText m3_InvalidText m5_InvalidText "ValueError.__new__"))
    (al_InvalidText : PySem.W.alongIn K "__init__" [.ref e_FitError, .type "ValueError", .type "Exception", .type "BaseException", .type "object"] = some (some (.builtin "ValueError.__init__"))) (sa_InvalidText : PySem.W.findIn K (.ref e_InvalidText) "__setattr__" = some (some (.builtin "object.__setattr__"))) (ga_InvalidText : PySem.W.findIn K (.ref e_InvalidText) "__getattribute__" = some (some (.builtin "BaseException.__getattribute__"))) (gg_InvalidText : PySem.W.findIn K (.ref e_InvalidText) "__getattr__" = some none)
    (ca_InvalidText : PySem.W.findIn K (.ref e_InvalidText) "__class__" = some (some (.builtin "object.__class__"))) (iC_InvalidText : PySem.W.findIn K (.ref e_InvalidText) "__init__" = some (some (.ref i_InvalidText))) (tC_InvalidText : PySem.W.typeIn K (.ref i_InvalidText) = some (.type "function")) (kC_InvalidText : PySem.W.keepIn K (.ref e_InvalidText) = true) (xC_InvalidText : PySem.W.subIn K (.ref e_InvalidText) (.type "BaseException") = some true) (vC_InvalidText : PySem.W.subIn K (.ref e_InvalidText) (.type "ValueError") = some true) (sC_InvalidText : PySem.W.mroIn K e_InvalidText (.ref e_InvalidText) = some true) (ob_InvalidText : PySem.W.mroIn K e_InvalidText (.type "object") = some true) (ty_InvalidText : PySem.W.typeIn K (.ref e_InvalidText) = some (.type "type")) (hd_InvalidText : PySem.W.hasDictIn K e_InvalidText = true) (su_InvalidText : PySem.W.subIn K (.ref e_InvalidText) (.ref e_FitError) = some true)
    (lE_InvalidText : K.lookup i_InvalidText = some ⟨oc_InvalidText, od_InvalidText, .func (PySem.W.ksFn "__init__" "InvalidText.__init__" (defArgs st_e_InvalidText) (defBody st_e_InvalidText) (defScope st_e_InvalidText) .none kV_InvalidText dc_InvalidText pm_InvalidText an_InvalidText (.ref cd_InvalidText) ct_InvalidText cc_InvalidText), sl_InvalidText⟩) (cE_InvalidText : PySem.W.codeIn K (.ref cd_InvalidText) "InvalidText.__init__" = true) (ce_InvalidText : K.lookup cc_InvalidText = some ⟨cl_InvalidText, cld_InvalidText, .cell (some (.ref e_InvalidText)), csl_InvalidText⟩) (co_InvalidText : K.lookup cd_InvalidText = some ⟨ccl_InvalidText, cdd_InvalidText, .fields vs_InvalidText, ccs_InvalidText⟩) (v2_InvalidText : vs_InvalidText[2]? = some (.str tx_InvalidText tf_InvalidText)) (fi_InvalidText : ((l.prog.main.file : Str) == tx_InvalidText) = true)
    (no_InvalidText : PySem.W.findIn K (.ref e_InvalidText) "line" = some none)
    {cT : Addr} (aC : PySem.W.nsIn K mainGlobals "Table" = some (some (.ref cT)))
    (pg : PySem.W.plainGet K cT Str.empty = true) (hd : PySem.W.hasDictIn K cT = true) (po : PySem.W.plainOver K cT = true) (sa : PySem.W.findIn K (.ref cT) "__setattr__" = some (some (.builtin "object.__setattr__"))) (mk : PySem.W.makesIn K cT = true) (kc : PySem.W.keepIn K (.ref cT) = true)
    (ha : PySem.W.findIn K (.ref cT) "__class__" = some (some (.builtin "object.__class__"))) (hn : PySem.W.specialIn K (.builtin "object.__class__") "__get__" = some (some (.builtin "getset_descriptor.__get__"))) (htk : PySem.W.takesIn K (.builtin "object.__class__") = some true) (hmo : PySem.W.mroIn K cT (.type "object") = some true)
    (neT : PySem.W.findIn K (.ref cT) "__ne__" = some (some (.builtin "object.__ne__")))
    (na_own_columns : PySem.W.findIn K (.ref cT) "own_columns" = some none)
    (na_own_rows : PySem.W.findIn K (.ref cT) "own_rows" = some none)
    (na_places : PySem.W.findIn K (.ref cT) "places" = some none)
    (a0 : PySem.W.nsIn K mainGlobals "_law_begin" = some (some (.ref f0))) (l0 : K.lookup f0 = some ⟨oc0, od0, .func (PySem.W.fnOf "_law_begin" "_law_begin" (defArgs st_w_begin) (defBody st_w_begin) (defScope st_w_begin) .none kV0 dc0 pm0 an0 cd0 ct0), sl0⟩) (c0 : PySem.W.codeIn K cd0 "_law_begin" = true) (k0 : PySem.W.keepIn K (.ref f0) = true)
    (a1 : PySem.W.nsIn K mainGlobals "_law_take" = some (some (.ref f1))) (l1 : K.lookup f1 = some ⟨oc1, od1, .func (PySem.W.fnOf "_law_take" "_law_take" (defArgs st_w_take) (defBody st_w_take) (defScope st_w_take) .none kV1 dc1 pm1 an1 cd1 ct1), sl1⟩) (c1 : PySem.W.codeIn K cd1 "_law_take" = true) (k1 : PySem.W.keepIn K (.ref f1) = true)
    (a2 : PySem.W.findIn K (.ref cT) "__eq__" = some (some (.ref f2))) (i2 : PySem.W.isFn K (.ref f2) = true)
    (l2 : K.lookup f2 = some ⟨oc2, od2, .func (PySem.W.fnOf "__eq__" "Table.__eq__" (defArgs st_T_eq) (defBody st_T_eq) (defScope st_T_eq) .none kV2 dc2 pm2 an2 cd2 ct2), sl2⟩) (c2 : PySem.W.codeIn K cd2 "Table.__eq__" = true) (k2 : PySem.W.keepIn K (.ref f2) = true)
    {pp3 : Addr} {rest3 : List Value} (a3 : PySem.W.findIn K (.ref cT) "columns" = some (some (.ref pp3))) (g3 : PySem.W.specialIn K (.ref pp3) "__get__" = some (some (.builtin "property.__get__"))) (t3 : PySem.W.takesIn K (.ref pp3) = some true) (r3 : PySem.W.recIn K pp3 "property" = some (.ref f3 :: rest3))
    (l3 : K.lookup f3 = some ⟨oc3, od3, .func (PySem.W.fnOf "columns" "Table.columns" (defArgs st_T_columns) (defBody st_T_columns) (defScope st_T_columns) .none kV3 dc3 pm3 an3 cd3 ct3), sl3⟩) (c3 : PySem.W.codeIn K cd3 "Table.columns" = true) (k3 : PySem.W.keepIn K (.ref f3) = true)
    {pp4 : Addr} {rest4 : List Value} (a4 : PySem.W.findIn K (.ref cT) "rows" = some (some (.ref pp4))) (g4 : PySem.W.specialIn K (.ref pp4) "__get__" = some (some (.builtin "property.__get__"))) (t4 : PySem.W.takesIn K (.ref pp4) = some true) (r4 : PySem.W.recIn K pp4 "property" = some (.ref f4 :: rest4))
    (l4 : K.lookup f4 = some ⟨oc4, od4, .func (PySem.W.fnOf "rows" "Table.rows" (defArgs st_T_rows) (defBody st_T_rows) (defScope st_T_rows) .none kV4 dc4 pm4 an4 cd4 ct4), sl4⟩) (c4 : PySem.W.codeIn K cd4 "Table.rows" = true) (k4 : PySem.W.keepIn K (.ref f4) = true)
    (a5 : PySem.W.nsIn K mainGlobals "is_among" = some (some (.ref f5))) (l5 : K.lookup f5 = some ⟨oc5, od5, .func (PySem.W.fnOf "is_among" "is_among" (defArgs st_is_among) (defBody st_is_among) (defScope st_is_among) .none kV5 dc5 pm5 an5 cd5 ct5), sl5⟩) (c5 : PySem.W.codeIn K cd5 "is_among" = true) (k5 : PySem.W.keepIn K (.ref f5) = true)
    (a6 : PySem.W.findIn K (.ref cT) "__getitem__" = some (some (.ref f6))) (i6 : PySem.W.isFn K (.ref f6) = true)
    (l6 : K.lookup f6 = some ⟨oc6, od6, .func (PySem.W.fnOf "__getitem__" "Table.__getitem__" (defArgs st_T_getitem) (defBody st_T_getitem) (defScope st_T_getitem) .none kV6 dc6 pm6 an6 cd6 ct6), sl6⟩) (c6 : PySem.W.codeIn K cd6 "Table.__getitem__" = true) (k6 : PySem.W.keepIn K (.ref f6) = true)
    (a7 : PySem.W.nsIn K mainGlobals "row_text" = some (some (.ref f7))) (l7 : K.lookup f7 = some ⟨oc7, od7, .func (PySem.W.fnOf "row_text" "row_text" (defArgs st_row_text) (defBody st_row_text) (defScope st_row_text) .none kV7 dc7 pm7 an7 cd7 ct7), sl7⟩) (c7 : PySem.W.codeIn K cd7 "row_text" = true) (k7 : PySem.W.keepIn K (.ref f7) = true)
    (a8 : PySem.W.nsIn K mainGlobals "lines_of" = some (some (.ref f8))) (l8 : K.lookup f8 = some ⟨oc8, od8, .func (PySem.W.fnOf "lines_of" "lines_of" (defArgs st_lines_of) (defBody st_lines_of) (defScope st_lines_of) .none kV8 dc8 pm8 an8 cd8 ct8), sl8⟩) (c8 : PySem.W.codeIn K cd8 "lines_of" = true) (k8 : PySem.W.keepIn K (.ref f8) = true)
    (a9 : PySem.W.nsIn K mainGlobals "format_table" = some (some (.ref f9))) (l9 : K.lookup f9 = some ⟨oc9, od9, .func (PySem.W.fnOf "format_table" "format_table" (defArgs st_format_table) (defBody st_format_table) (defScope st_format_table) .none kV9 dc9 pm9 an9 cd9 ct9), sl9⟩) (c9 : PySem.W.codeIn K cd9 "format_table" = true) (k9 : PySem.W.keepIn K (.ref f9) = true)
    (a10 : PySem.W.nsIn K mainGlobals "is_name" = some (some (.ref f10))) (l10 : K.lookup f10 = some ⟨oc10, od10, .func (PySem.W.fnOf "is_name" "is_name" (defArgs st_is_name) (defBody st_is_name) (defScope st_is_name) .none kV10 dc10 pm10 an10 cd10 ct10), sl10⟩) (c10 : PySem.W.codeIn K cd10 "is_name" = true) (k10 : PySem.W.keepIn K (.ref f10) = true)
    (a11 : PySem.W.nsIn K mainGlobals "are_names" = some (some (.ref f11))) (l11 : K.lookup f11 = some ⟨oc11, od11, .func (PySem.W.fnOf "are_names" "are_names" (defArgs st_are_names) (defBody st_are_names) (defScope st_are_names) .none kV11 dc11 pm11 an11 cd11 ct11), sl11⟩) (c11 : PySem.W.codeIn K cd11 "are_names" = true) (k11 : PySem.W.keepIn K (.ref f11) = true)
    (a12 : PySem.W.nsIn K mainGlobals "is_integer" = some (some (.ref f12))) (l12 : K.lookup f12 = some ⟨oc12, od12, .func (PySem.W.fnOf "is_integer" "is_integer" (defArgs st_is_integer) (defBody st_is_integer) (defScope st_is_integer) .none kV12 dc12 pm12 an12 cd12 ct12), sl12⟩) (c12 : PySem.W.codeIn K cd12 "is_integer" = true) (k12 : PySem.W.keepIn K (.ref f12) = true)
    (a13 : PySem.W.nsIn K mainGlobals "is_value" = some (some (.ref f13))) (l13 : K.lookup f13 = some ⟨oc13, od13, .func (PySem.W.fnOf "is_value" "is_value" (defArgs st_is_value) (defBody st_is_value) (defScope st_is_value) .none kV13 dc13 pm13 an13 cd13 ct13), sl13⟩) (c13 : PySem.W.codeIn K cd13 "is_value" = true) (k13 : PySem.W.keepIn K (.ref f13) = true)
    (a14 : PySem.W.nsIn K mainGlobals "is_row" = some (some (.ref f14))) (l14 : K.lookup f14 = some ⟨oc14, od14, .func (PySem.W.fnOf "is_row" "is_row" (defArgs st_is_row) (defBody st_is_row) (defScope st_is_row) .none kV14 dc14 pm14 an14 cd14 ct14), sl14⟩) (c14 : PySem.W.codeIn K cd14 "is_row" = true) (k14 : PySem.W.keepIn K (.ref f14) = true)
    (a15 : PySem.W.nsIn K mainGlobals "are_rows" = some (some (.ref f15))) (l15 : K.lookup f15 = some ⟨oc15, od15, .func (PySem.W.fnOf "are_rows" "are_rows" (defArgs st_are_rows) (defBody st_are_rows) (defScope st_are_rows) .none kV15 dc15 pm15 an15 cd15 ct15), sl15⟩) (c15 : PySem.W.codeIn K cd15 "are_rows" = true) (k15 : PySem.W.keepIn K (.ref f15) = true)
    (a16 : PySem.W.findIn K (.ref cT) "__init__" = some (some (.ref f16))) (i16 : PySem.W.isFn K (.ref f16) = true)
    (l16 : K.lookup f16 = some ⟨oc16, od16, .func (PySem.W.fnOf "__init__" "Table.__init__" (defArgs st_T_init) (defBody st_T_init) (defScope st_T_init) .none kV16 dc16 pm16 an16 cd16 ct16), sl16⟩) (c16 : PySem.W.codeIn K cd16 "Table.__init__" = true) (k16 : PySem.W.keepIn K (.ref f16) = true)
    (a17 : PySem.W.nsIn K mainGlobals "columns_of" = some (some (.ref f17))) (l17 : K.lookup f17 = some ⟨oc17, od17, .func (PySem.W.fnOf "columns_of" "columns_of" (defArgs st_columns_of) (defBody st_columns_of) (defScope st_columns_of) .none kV17 dc17 pm17 an17 cd17 ct17), sl17⟩) (c17 : PySem.W.codeIn K cd17 "columns_of" = true) (k17 : PySem.W.keepIn K (.ref f17) = true)
    (a18 : PySem.W.nsIn K mainGlobals "value_of" = some (some (.ref f18))) (l18 : K.lookup f18 = some ⟨oc18, od18, .func (PySem.W.fnOf "value_of" "value_of" (defArgs st_value_of) (defBody st_value_of) (defScope st_value_of) .none kV18 dc18 pm18 an18 cd18 ct18), sl18⟩) (c18 : PySem.W.codeIn K cd18 "value_of" = true) (k18 : PySem.W.keepIn K (.ref f18) = true)
    (a19 : PySem.W.nsIn K mainGlobals "row_of" = some (some (.ref f19))) (l19 : K.lookup f19 = some ⟨oc19, od19, .func (PySem.W.fnOf "row_of" "row_of" (defArgs st_row_of) (defBody st_row_of) (defScope st_row_of) .none kV19 dc19 pm19 an19 cd19 ct19), sl19⟩) (c19 : PySem.W.codeIn K cd19 "row_of" = true) (k19 : PySem.W.keepIn K (.ref f19) = true)
    (a20 : PySem.W.nsIn K mainGlobals "parse_table" = some (some (.ref f20))) (l20 : K.lookup f20 = some ⟨oc20, od20, .func (PySem.W.fnOf "parse_table" "parse_table" (defArgs st_parse_table) (defBody st_parse_table) (defScope st_parse_table) .none kV20 dc20 pm20 an20 cd20 ct20), sl20⟩) (c20 : PySem.W.codeIn K cd20 "parse_table" = true) (k20 : PySem.W.keepIn K (.ref f20) = true)
    (a21 : PySem.W.nsIn K mainGlobals "_law_mixed" = some (some (.ref f21))) (l21 : K.lookup f21 = some ⟨oc21, od21, .func (PySem.W.fnOf "_law_mixed" "_law_mixed" (defArgs st_w_mixed) (defBody st_w_mixed) (defScope st_w_mixed) .none kV21 dc21 pm21 an21 cd21 ct21), sl21⟩) (c21 : PySem.W.codeIn K cd21 "_law_mixed" = true) (k21 : PySem.W.keepIn K (.ref f21) = true)
    (a22 : PySem.W.nsIn K mainGlobals "_law_pick" = some (some (.ref f22))) (l22 : K.lookup f22 = some ⟨oc22, od22, .func (PySem.W.fnOf "_law_pick" "_law_pick" (defArgs st_w_pick) (defBody st_w_pick) (defScope st_w_pick) .none kV22 dc22 pm22 an22 cd22 ct22), sl22⟩) (c22 : PySem.W.codeIn K cd22 "_law_pick" = true) (k22 : PySem.W.keepIn K (.ref f22) = true)
    (a23 : PySem.W.nsIn K mainGlobals "_law_names" = some (some (.ref f23))) (l23 : K.lookup f23 = some ⟨oc23, od23, .func (PySem.W.fnOf "_law_names" "_law_names" (defArgs st_w_names) (defBody st_w_names) (defScope st_w_names) .none kV23 dc23 pm23 an23 cd23 ct23), sl23⟩) (c23 : PySem.W.codeIn K cd23 "_law_names" = true) (k23 : PySem.W.keepIn K (.ref f23) = true)
    (a24 : PySem.W.nsIn K mainGlobals "_law_classes" = some (some (.ref f24))) (l24 : K.lookup f24 = some ⟨oc24, od24, .func (PySem.W.fnOf "_law_classes" "_law_classes" (defArgs st_w_classes) (defBody st_w_classes) (defScope st_w_classes) .none kV24 dc24 pm24 an24 cd24 ct24), sl24⟩) (c24 : PySem.W.codeIn K cd24 "_law_classes" = true) (k24 : PySem.W.keepIn K (.ref f24) = true)
    (a25 : PySem.W.nsIn K mainGlobals "_law_code" = some (some (.ref f25))) (l25 : K.lookup f25 = some ⟨oc25, od25, .func (PySem.W.fnOf "_law_code" "_law_code" (defArgs st_w_code) (defBody st_w_code) (defScope st_w_code) .none kV25 dc25 pm25 an25 cd25 ct25), sl25⟩) (c25 : PySem.W.codeIn K cd25 "_law_code" = true) (k25 : PySem.W.keepIn K (.ref f25) = true)
    (a26 : PySem.W.nsIn K mainGlobals "_law_model" = some (some (.ref f26))) (l26 : K.lookup f26 = some ⟨oc26, od26, .func (PySem.W.fnOf "_law_model" "_law_model" (defArgs st_w_model) (defBody st_w_model) (defScope st_w_model) .none kV26 dc26 pm26 an26 cd26 ct26), sl26⟩) (c26 : PySem.W.codeIn K cd26 "_law_model" = true) (k26 : PySem.W.keepIn K (.ref f26) = true)
    (a27 : PySem.W.nsIn K mainGlobals "_law_table" = some (some (.ref f27))) (l27 : K.lookup f27 = some ⟨oc27, od27, .func (PySem.W.fnOf "_law_table" "_law_table" (defArgs st_w_table) (defBody st_w_table) (defScope st_w_table) .none kV27 dc27 pm27 an27 cd27 ct27), sl27⟩) (c27 : PySem.W.codeIn K cd27 "_law_table" = true) (k27 : PySem.W.keepIn K (.ref f27) = true)
    (a28 : PySem.W.nsIn K mainGlobals "_law_text" = some (some (.ref f28))) (l28 : K.lookup f28 = some ⟨oc28, od28, .func (PySem.W.fnOf "_law_text" "_law_text" (defArgs st_w_text) (defBody st_w_text) (defScope st_w_text) .none kV28 dc28 pm28 an28 cd28 ct28), sl28⟩) (c28 : PySem.W.codeIn K cd28 "_law_text" = true) (k28 : PySem.W.keepIn K (.ref f28) = true)
    (a29 : PySem.W.nsIn K mainGlobals "law" = some (some (.ref f29))) (l29 : K.lookup f29 = some ⟨oc29, od29, .func (PySem.W.fnOf "law" "law" (defArgs st_law) (defBody st_law) (defScope st_law) .none kV29 dc29 pm29 an29 cd29 ct29), sl29⟩) (c29 : PySem.W.codeIn K cd29 "law" = true) (k29 : PySem.W.keepIn K (.ref f29) = true)
    (v_LETTERS : PySem.W.nsIn K mainGlobals "LETTERS" = some (some (.str "abcdefghijklmnopqrstuvwxyz" tk_LETTERS)))
    (v_LONGEST_NAME : PySem.W.nsIn K mainGlobals "LONGEST_NAME" = some (some (.int 8 tk_LONGEST_NAME)))
    (v_MOST_COLUMNS : PySem.W.nsIn K mainGlobals "MOST_COLUMNS" = some (some (.int 5 tk_MOST_COLUMNS)))
    (v_MOST_ROWS : PySem.W.nsIn K mainGlobals "MOST_ROWS" = some (some (.int 8 tk_MOST_ROWS)))
    (v_FIRST_TOO_LARGE : PySem.W.nsIn K mainGlobals "FIRST_TOO_LARGE" = some (some (.int 10000000000000000000000000000000000000000 tk_FIRST_TOO_LARGE)))
    (v_COLUMN : PySem.W.nsIn K mainGlobals "COLUMN" = some (some (.str "column" tk_COLUMN)))
    (v_ROW : PySem.W.nsIn K mainGlobals "ROW" = some (some (.str "row" tk_ROW)))
    (v_DIGITS : PySem.W.nsIn K mainGlobals "DIGITS" = some (some (.str "0123456789" tk_DIGITS)))
    (v_MOST_DIGITS : PySem.W.nsIn K mainGlobals "MOST_DIGITS" = some (some (.int 40 tk_MOST_DIGITS)))
    (z_abs : PySem.W.nsIn K mainGlobals "abs" = some none)
    (z_all : PySem.W.nsIn K mainGlobals "all" = some none)
    (z_bool : PySem.W.nsIn K mainGlobals "bool" = some none)
    (z_dict : PySem.W.nsIn K mainGlobals "dict" = some none)
    (z_enumerate : PySem.W.nsIn K mainGlobals "enumerate" = some none)
    (z_int : PySem.W.nsIn K mainGlobals "int" = some none)
    (z_isinstance : PySem.W.nsIn K mainGlobals "isinstance" = some none)
    (z_len : PySem.W.nsIn K mainGlobals "len" = some none)
    (z_list : PySem.W.nsIn K mainGlobals "list" = some none)
    (z_max : PySem.W.nsIn K mainGlobals "max" = some none)
    (z_min : PySem.W.nsIn K mainGlobals "min" = some none)
    (z_range : PySem.W.nsIn K mainGlobals "range" = some none)
    (z_set : PySem.W.nsIn K mainGlobals "set" = some none)
    (z_sorted : PySem.W.nsIn K mainGlobals "sorted" = some none)
    (z_str : PySem.W.nsIn K mainGlobals "str" = some none)
    (z_tuple : PySem.W.nsIn K mainGlobals "tuple" = some none)
    (z_zip : PySem.W.nsIn K mainGlobals "zip" = some none)
    : ∃ fd : FuncData, (∀ (s : Shared) (u : Value), BindsTo s fd ⟨[u], []⟩ [("_law_script", u)]) ∧ ∀ b : Heap, K.In b → b.Ns mainGlobals mg → FnG l.prog w K mg b CX0 9 fa fd ["_law_script"] (spLaw K [] 10 r_law) := by
  have e := hfa.symm.trans (PySem.W.mg_of X G a29)
  cases e
  have F0 := fun_mk (st := st_w_begin) l0 c0 k0
  have b0 := F0.binds (ps := ["_law_script"]) fun _ _ _ _ _ _ us hl => match us, hl with | [_], _ => rfl
  have F1 := fun_mk (st := st_w_take) l1 c1 k1
  have b1 := F1.binds (ps := ["_law_draw", "_law_bound"]) fun _ _ _ _ _ _ us hl => match us, hl with | [_, _], _ => rfl
  have F2 := fun_mk (st := st_T_eq) l2 c2 k2
  have b2 := F2.binds (ps := ["self", "other"]) fun _ _ _ _ _ _ us hl => match us, hl with | [_, _], _ => rfl
  have F3 := fun_mk (st := st_T_columns) l3 c3 k3
  have b3 := F3.binds (ps := ["self"]) fun _ _ _ _ _ _ us hl => match us, hl with | [_], _ => rfl
  have F4 := fun_mk (st := st_T_rows) l4 c4 k4
  have b4 := F4.binds (ps := ["self"]) fun _ _ _ _ _ _ us hl => match us, hl with | [_], _ => rfl
  have F5 := fun_mk (st := st_is_among) l5 c5 k5
  have b5 := F5.binds (ps := ["thing", "names"]) fun _ _ _ _ _ _ us hl => match us, hl with | [_, _], _ => rfl
  have F6 := fun_mk (st := st_T_getitem) l6 c6 k6
  have b6 := F6.binds (ps := ["self", "row"]) fun _ _ _ _ _ _ us hl => match us, hl with | [_, _], _ => rfl
  have F7 := fun_mk (st := st_row_text) l7 c7 k7
  have b7 := F7.binds (ps := ["table", "row"]) fun _ _ _ _ _ _ us hl => match us, hl with | [_, _], _ => rfl
  have F8 := fun_mk (st := st_lines_of) l8 c8 k8
  have b8 := F8.binds (ps := ["table"]) fun _ _ _ _ _ _ us hl => match us, hl with | [_], _ => rfl
  have F9 := fun_mk (st := st_format_table) l9 c9 k9
  have b9 := F9.binds (ps := ["table"]) fun _ _ _ _ _ _ us hl => match us, hl with | [_], _ => rfl
  have F10 := fun_mk (st := st_is_name) l10 c10 k10
  have b10 := F10.binds (ps := ["thing"]) fun _ _ _ _ _ _ us hl => match us, hl with | [_], _ => rfl
  have F11 := fun_mk (st := st_are_names) l11 c11 k11
  have b11 := F11.binds (ps := ["thing", "least", "most"]) fun _ _ _ _ _ _ us hl => match us, hl with | [_, _, _], _ => rfl
  have F12 := fun_mk (st := st_is_integer) l12 c12 k12
  have b12 := F12.binds (ps := ["thing"]) fun _ _ _ _ _ _ us hl => match us, hl with | [_], _ => rfl
  have F13 := fun_mk (st := st_is_value) l13 c13 k13
  have b13 := F13.binds (ps := ["thing"]) fun _ _ _ _ _ _ us hl => match us, hl with | [_], _ => rfl
  have F14 := fun_mk (st := st_is_row) l14 c14 k14
  have b14 := F14.binds (ps := ["thing", "many"]) fun _ _ _ _ _ _ us hl => match us, hl with | [_, _], _ => rfl
  have F15 := fun_mk (st := st_are_rows) l15 c15 k15
  have b15 := F15.binds (ps := ["thing", "many"]) fun _ _ _ _ _ _ us hl => match us, hl with | [_, _], _ => rfl
  have F16 := fun_mk (st := st_T_init) l16 c16 k16
  have b16 := F16.binds (ps := ["self", "columns", "rows"]) fun _ _ _ _ _ _ us hl => match us, hl with | [_, _, _], _ => rfl
  have F17 := fun_mk (st := st_columns_of) l17 c17 k17
  have b17 := F17.binds (ps := ["line"]) fun _ _ _ _ _ _ us hl => match us, hl with | [_], _ => rfl
  have F18 := fun_mk (st := st_value_of) l18 c18 k18
  have b18 := F18.binds (ps := ["word"]) fun _ _ _ _ _ _ us hl => match us, hl with | [_], _ => rfl
  have F19 := fun_mk (st := st_row_of) l19 c19 k19
  have b19 := F19.binds (ps := ["line", "many"]) fun _ _ _ _ _ _ us hl => match us, hl with | [_, _], _ => rfl
  have F20 := fun_mk (st := st_parse_table) l20 c20 k20
  have b20 := F20.binds (ps := ["text"]) fun _ _ _ _ _ _ us hl => match us, hl with | [_], _ => rfl
  have F21 := fun_mk (st := st_w_mixed) l21 c21 k21
  have b21 := F21.binds (ps := ["_law_draw", "_law_some"]) fun _ _ _ _ _ _ us hl => match us, hl with | [_, _], _ => rfl
  have F22 := fun_mk (st := st_w_pick) l22 c22 k22
  have b22 := F22.binds (ps := ["_law_draw", "_law_some"]) fun _ _ _ _ _ _ us hl => match us, hl with | [_, _], _ => rfl
  have F23 := fun_mk (st := st_w_names) l23 c23 k23
  have b23 := F23.binds (ps := ["_law_draw", "_law_many"]) fun _ _ _ _ _ _ us hl => match us, hl with | [_, _], _ => rfl
  have F24 := fun_mk (st := st_w_classes) l24 c24 k24
  have b24 := F24.binds (ps := ["_law_draw", "_law_many"]) fun _ _ _ _ _ _ us hl => match us, hl with | [_, _], _ => rfl
  have F25 := fun_mk (st := st_w_code) l25 c25 k25
  have b25 := F25.binds (ps := ["_law_draw", "_law_many"]) fun _ _ _ _ _ _ us hl => match us, hl with | [_, _], _ => rfl
  have F26 := fun_mk (st := st_w_model) l26 c26 k26
  have b26 := F26.binds (ps := ["_law_draw", "_law_width", "_law_height"]) fun _ _ _ _ _ _ us hl => match us, hl with | [_, _, _], _ => rfl
  have F27 := fun_mk (st := st_w_table) l27 c27 k27
  have b27 := F27.binds (ps := ["_law_model_here"]) fun _ _ _ _ _ _ us hl => match us, hl with | [_], _ => rfl
  have F28 := fun_mk (st := st_w_text) l28 c28 k28
  have b28 := F28.binds (ps := ["_law_model_here"]) fun _ _ _ _ _ _ us hl => match us, hl with | [_], _ => rfl
  have F29 := fun_mk (st := st_law) l29 c29 k29
  have b29 := F29.binds (ps := ["_law_script"]) fun _ _ _ _ _ _ us hl => match us, hl with | [_], _ => rfl
  refine ⟨PySem.W.fnOf "law" "law" (defArgs st_law) (defBody st_law) (defScope st_law) .none kV29 dc29 pm29 an29 cd29 ct29, fun s v => .of_eq rfl, fun base _ _ => d_law (A := ⟨f0, f1, f2, f3, f4, f5, f6, f7, f8, f9, f10, f11, f12, f13, f14, f15, f16, f17, f18, f19, f20, f21, f22, f23, f24, f25, f26, f27, f28, fa, PySem.W.fnOf "_law_begin" "_law_begin" (defArgs st_w_begin) (defBody st_w_begin) (defScope st_w_begin) .none kV0 dc0 pm0 an0 cd0 ct0, PySem.W.fnOf "_law_take" "_law_take" (defArgs st_w_take) (defBody st_w_take) (defScope st_w_take) .none kV1 dc1 pm1 an1 cd1 ct1, PySem.W.fnOf "__eq__" "Table.__eq__" (defArgs st_T_eq) (defBody st_T_eq) (defScope st_T_eq) .none kV2 dc2 pm2 an2 cd2 ct2, PySem.W.fnOf "columns" "Table.columns" (defArgs st_T_columns) (defBody st_T_columns) (defScope st_T_columns) .none kV3 dc3 pm3 an3 cd3 ct3, PySem.W.fnOf "rows" "Table.rows" (defArgs st_T_rows) (defBody st_T_rows) (defScope st_T_rows) .none kV4 dc4 pm4 an4 cd4 ct4, PySem.W.fnOf "is_among" "is_among" (defArgs st_is_among) (defBody st_is_among) (defScope st_is_among) .none kV5 dc5 pm5 an5 cd5 ct5, PySem.W.fnOf "__getitem__" "Table.__getitem__" (defArgs st_T_getitem) (defBody st_T_getitem) (defScope st_T_getitem) .none kV6 dc6 pm6 an6 cd6 ct6, PySem.W.fnOf "row_text" "row_text" (defArgs st_row_text) (defBody st_row_text) (defScope st_row_text) .none kV7 dc7 pm7 an7 cd7 ct7, PySem.W.fnOf "lines_of" "lines_of" (defArgs st_lines_of) (defBody st_lines_of) (defScope st_lines_of) .none kV8 dc8 pm8 an8 cd8 ct8, PySem.W.fnOf "format_table" "format_table" (defArgs st_format_table) (defBody st_format_table) (defScope st_format_table) .none kV9 dc9 pm9 an9 cd9 ct9, PySem.W.fnOf "is_name" "is_name" (defArgs st_is_name) (defBody st_is_name) (defScope st_is_name) .none kV10 dc10 pm10 an10 cd10 ct10, PySem.W.fnOf "are_names" "are_names" (defArgs st_are_names) (defBody st_are_names) (defScope st_are_names) .none kV11 dc11 pm11 an11 cd11 ct11, PySem.W.fnOf "is_integer" "is_integer" (defArgs st_is_integer) (defBody st_is_integer) (defScope st_is_integer) .none kV12 dc12 pm12 an12 cd12 ct12, PySem.W.fnOf "is_value" "is_value" (defArgs st_is_value) (defBody st_is_value) (defScope st_is_value) .none kV13 dc13 pm13 an13 cd13 ct13, PySem.W.fnOf "is_row" "is_row" (defArgs st_is_row) (defBody st_is_row) (defScope st_is_row) .none kV14 dc14 pm14 an14 cd14 ct14, PySem.W.fnOf "are_rows" "are_rows" (defArgs st_are_rows) (defBody st_are_rows) (defScope st_are_rows) .none kV15 dc15 pm15 an15 cd15 ct15, PySem.W.fnOf "__init__" "Table.__init__" (defArgs st_T_init) (defBody st_T_init) (defScope st_T_init) .none kV16 dc16 pm16 an16 cd16 ct16, PySem.W.fnOf "columns_of" "columns_of" (defArgs st_columns_of) (defBody st_columns_of) (defScope st_columns_of) .none kV17 dc17 pm17 an17 cd17 ct17, PySem.W.fnOf "value_of" "value_of" (defArgs st_value_of) (defBody st_value_of) (defScope st_value_of) .none kV18 dc18 pm18 an18 cd18 ct18, PySem.W.fnOf "row_of" "row_of" (defArgs st_row_of) (defBody st_row_of) (defScope st_row_of) .none kV19 dc19 pm19 an19 cd19 ct19, PySem.W.fnOf "parse_table" "parse_table" (defArgs st_parse_table) (defBody st_parse_table) (defScope st_parse_table) .none kV20 dc20 pm20 an20 cd20 ct20, PySem.W.fnOf "_law_mixed" "_law_mixed" (defArgs st_w_mixed) (defBody st_w_mixed) (defScope st_w_mixed) .none kV21 dc21 pm21 an21 cd21 ct21, PySem.W.fnOf "_law_pick" "_law_pick" (defArgs st_w_pick) (defBody st_w_pick) (defScope st_w_pick) .none kV22 dc22 pm22 an22 cd22 ct22, PySem.W.fnOf "_law_names" "_law_names" (defArgs st_w_names) (defBody st_w_names) (defScope st_w_names) .none kV23 dc23 pm23 an23 cd23 ct23, PySem.W.fnOf "_law_classes" "_law_classes" (defArgs st_w_classes) (defBody st_w_classes) (defScope st_w_classes) .none kV24 dc24 pm24 an24 cd24 ct24, PySem.W.fnOf "_law_code" "_law_code" (defArgs st_w_code) (defBody st_w_code) (defScope st_w_code) .none kV25 dc25 pm25 an25 cd25 ct25, PySem.W.fnOf "_law_model" "_law_model" (defArgs st_w_model) (defBody st_w_model) (defScope st_w_model) .none kV26 dc26 pm26 an26 cd26 ct26, PySem.W.fnOf "_law_table" "_law_table" (defArgs st_w_table) (defBody st_w_table) (defScope st_w_table) .none kV27 dc27 pm27 an27 cd27 ct27, PySem.W.fnOf "_law_text" "_law_text" (defArgs st_w_text) (defBody st_w_text) (defScope st_w_text) .none kV28 dc28 pm28 an28 cd28 ct28, PySem.W.fnOf "law" "law" (defArgs st_law) (defBody st_law) (defScope st_law) .none kV29 dc29 pm29 an29 cd29 ct29, cT, pp3, pp4, tk_LETTERS, tk_LONGEST_NAME, tk_MOST_COLUMNS, tk_MOST_ROWS, tk_FIRST_TOO_LARGE, tk_COLUMN, tk_ROW, tk_DIGITS, tk_MOST_DIGITS, e_InvalidTable, i_InvalidTable, cc_InvalidTable, cd_InvalidTable, e_UnknownItem, i_UnknownItem, cc_UnknownItem, cd_UnknownItem, e_InvalidText, i_InvalidText, cc_InvalidText, cd_InvalidText, e_FitError⟩) ?_⟩
  exact ⟨⟨⟨_, _, _, _, _, _, _, _, _, _, _, _, _, _, _, xE_InvalidTable, rfl, al_InvalidTable⟩, sa_InvalidTable, iC_InvalidTable, tC_InvalidTable, kC_InvalidTable, xC_InvalidTable, vC_InvalidTable, sC_InvalidTable, ty_InvalidTable, opq, ⟨_, _, _, ce_InvalidTable⟩, ⟨_, _, _, _, _, _, co_InvalidTable, v2_InvalidTable, fi_InvalidTable⟩, topS, PySem.W.mg_none_of X G zS⟩, ⟨⟨_, _, _, _, _, _, _, _, lE_InvalidTable⟩, cE_InvalidTable, rfl, rfl, rfl, rfl, rfl, rfl, by decide +kernel, ⟨_, rfl, rfl⟩⟩, PySem.W.mg_of X G aE_InvalidTable, ⟨ga_InvalidTable, gg_InvalidTable, xC_InvalidTable, hd_InvalidTable, ca_InvalidTable, xhn, xht, ob_InvalidTable⟩, PySem.W.exm_ref exF hdF tyF su_InvalidTable, no_InvalidTable, ⟨⟨_, _, _, _, _, _, _, _, _, _, _, _, _, _, _, xE_UnknownItem, rfl, al_UnknownItem⟩, sa_UnknownItem, iC_UnknownItem, tC_UnknownItem, kC_UnknownItem, xC_UnknownItem, vC_UnknownItem, sC_UnknownItem, ty_UnknownItem, opq, ⟨_, _, _, ce_UnknownItem⟩, ⟨_, _, _, _, _, _, co_UnknownItem, v2_UnknownItem, fi_UnknownItem⟩, topS, PySem.W.mg_none_of X G zS⟩, ⟨⟨_, _, _, _, _, _, _, _, lE_UnknownItem⟩, cE_UnknownItem, rfl, rfl, rfl, rfl, rfl, rfl, by decide +kernel, ⟨_, rfl, rfl⟩⟩, PySem.W.mg_of X G aE_UnknownItem, ⟨ga_UnknownItem, gg_UnknownItem, xC_UnknownItem, hd_UnknownItem, ca_UnknownItem, xhn, xht, ob_UnknownItem⟩, PySem.W.exm_ref exF hdF tyF su_UnknownItem, no_UnknownItem, ⟨⟨_, _, _, _, _, _, _, _, _, _, _, _, _, _, _, xE_InvalidText, rfl, al_InvalidText⟩, sa_InvalidText, iC_InvalidText, tC_InvalidText, kC_InvalidText, xC_InvalidText, vC_InvalidText, sC_InvalidText, ty_InvalidText, opq, ⟨_, _, _, ce_InvalidText⟩, ⟨_, _, _, _, _, _, co_InvalidText, v2_InvalidText, fi_InvalidText⟩, topS, PySem.W.mg_none_of X G zS⟩, ⟨⟨_, _, _, _, _, _, _, _, lE_InvalidText⟩, cE_InvalidText, rfl, rfl, rfl, rfl, rfl, rfl, by decide +kernel, ⟨_, rfl, rfl⟩⟩, PySem.W.mg_of X G aE_InvalidText, ⟨ga_InvalidText, gg_InvalidText, xC_InvalidText, hd_InvalidText, ca_InvalidText, xhn, xht, ob_InvalidText⟩, PySem.W.exm_ref exF hdF tyF su_InvalidText, no_InvalidText, PySem.W.mg_of X G aE_FitError, F0, PySem.W.mg_of X G a0, b0, F1, PySem.W.mg_of X G a1, b1, F2, a2, i2, b2, F3, ⟨a3, g3, t3, ⟨_, r3⟩⟩, b3, F4, ⟨a4, g4, t4, ⟨_, r4⟩⟩, b4, F5, PySem.W.mg_of X G a5, b5, F6, a6, i6, b6, F7, PySem.W.mg_of X G a7, b7, F8, PySem.W.mg_of X G a8, b8, F9, PySem.W.mg_of X G a9, b9, F10, PySem.W.mg_of X G a10, b10, F11, PySem.W.mg_of X G a11, b11, F12, PySem.W.mg_of X G a12, b12, F13, PySem.W.mg_of X G a13, b13, F14, PySem.W.mg_of X G a14, b14, F15, PySem.W.mg_of X G a15, b15, F16, ⟨mk, a16, i16, kc⟩, b16, F17, PySem.W.mg_of X G a17, b17, F18, PySem.W.mg_of X G a18, b18, F19, PySem.W.mg_of X G a19, b19, F20, PySem.W.mg_of X G a20, b20, F21, PySem.W.mg_of X G a21, b21, F22, PySem.W.mg_of X G a22, b22, F23, PySem.W.mg_of X G a23, b23, F24, PySem.W.mg_of X G a24, b24, F25, PySem.W.mg_of X G a25, b25, F26, PySem.W.mg_of X G a26, b26, F27, PySem.W.mg_of X G a27, b27, F28, PySem.W.mg_of X G a28, b28, F29, PySem.W.mg_of X G a29, b29, ⟨pg, hd, po, sa⟩, na_own_columns, na_own_rows, na_places, PySem.W.mg_of X G aC, ⟨⟨pg, hd, po, sa⟩, ha, hn, htk, hmo, kit_self cT⟩, neT, hmo, kb0 F9 fun _ _ _ _ _ _ _ => rfl, kb0 F20 fun _ _ _ _ _ _ _ => rfl, PySem.W.mg_none_of X G z_abs, PySem.W.mg_none_of X G z_all, PySem.W.mg_none_of X G z_bool, PySem.W.mg_none_of X G z_dict, PySem.W.mg_none_of X G z_enumerate, PySem.W.mg_none_of X G z_int, PySem.W.mg_none_of X G z_isinstance, PySem.W.mg_none_of X G z_len, PySem.W.mg_none_of X G z_list, PySem.W.mg_none_of X G z_max, PySem.W.mg_none_of X G z_min, PySem.W.mg_none_of X G z_range, PySem.W.mg_none_of X G z_set, PySem.W.mg_none_of X G z_sorted, PySem.W.mg_none_of X G z_str, PySem.W.mg_none_of X G z_tuple, PySem.W.mg_none_of X G z_zip, PySem.W.mg_of X G v_LETTERS, PySem.W.mg_of X G v_LONGEST_NAME, PySem.W.mg_of X G v_MOST_COLUMNS, PySem.W.mg_of X G v_MOST_ROWS, PySem.W.mg_of X G v_FIRST_TOO_LARGE, PySem.W.mg_of X G v_COLUMN, PySem.W.mg_of X G v_ROW, PySem.W.mg_of X G v_DIGITS, PySem.W.mg_of X G v_MOST_DIGITS⟩
end Sx
set_option Elab.async false
set_option linter.all false
set_option maxRecDepth 100000
set_option maxHeartbeats 4000000
set_option autoImplicit false
namespace Sx
open PySem L2
def az : Str := "abcdefghijklmnopqrstuvwxyz"
structure Nm (s : Str) : Prop where
  lo : 1 ≤ s.length
  hi : s.length ≤ 8
  az : ∀ c ∈ s.cps.toList, c ∈ az.cps.toList
theorem filter_tt {α : Type} (l : List α) : l.filter (fun _ => true) = l := List.filter_eq_self.mpr fun _ _ => rfl
theorem boolsOf_true {α : Type} (ds : List α) : boolsOf (ds.map fun _ => D.bl true) = some (ds.map fun _ => true) := by
  induction ds with
  | nil => rfl
  | cons d ds ih => simp only [List.map_cons, boolsOf, ih, Option.bind_some]
theorem all_true {α : Type} (ds : List α) : fAll [.lst (ds.map fun _ => D.bl true)] = some0 (.bl true) := by
  show (boolsOf _).bind _ = _
  rw [boolsOf_true]
  show some0 (.bl ((ds.map fun _ => true).all id)) = _
  rw [List.all_eq_true.mpr fun b hb => by obtain ⟨_, _, rfl⟩ := List.mem_map.mp hb; rfl]
theorem is_name_ok {s : Str} (h : Nm s) : f_is_name [.str s] = .ret (false, .bl true) := by
  have hl : s.length ≤ 65536 := Nat.le_trans h.hi (by decide)
  have c1 : rLc (iSeq (rVar 0)) none (tgN 1) rYes (run2 (rBor 1) (rC (.str "abcdefghijklmnopqrstuvwxyz")) fIn) [1] [some (.fz, .str s), none] = .ret (.fr (.lst ((signs s).map fun _ => .bl true)), [some (.fz, .str s), none]) := by
    refine (rLc_pure (en1 := [some (.fz, .str s), none]) (fun _ => true) (fun _ => .bl true) (ds := signs s) rfl (by unfold signs; rw [List.length_map]; exact Nat.le_trans h.hi (by decide)) fun d hd => ?_).trans (by rw [filter_tt]; rfl)
    obtain ⟨c, hc, rfl⟩ := List.mem_map.mp hd
    refine ⟨[some (.fz, .str s), some (.fz, .str ⟨#[c]⟩)], _, rfl, rfl, (fun z => by cases z), fun _ => ⟨.v (.bl true), [some (.fz, .str s), some (.fz, .str ⟨#[c]⟩)], ?_, rfl, rfl⟩⟩
    show ret1 (fInG false (.str ⟨#[c]⟩) (.str az)) _ = _
    rw [fIn_sign, decide_eq_true (h.az c hc)]
    rfl
  have e1 : fIsi [.str s, .ty "str"] = some0 (.bl true) := rfl
  have e2 : fLen [.str s] = some0 (.int s.length) := by simp [fLen, hl]
  have e3 : fLe (.int 1) (.int s.length) = some0 (.bl true) := by rw [fLe_int, decide_eq_true (by have := h.lo; omega)]
  have e4 : fLe (.int s.length) (.int 8) = some0 (.bl true) := by rw [fLe_int, decide_eq_true (by have := h.hi; omega)]
  have e5 : fAll [.lst ((signs s).map fun _ => .bl true)] = some0 (.bl true) := all_true _
  unfold f_is_name runFn r_is_name
  show ((sSeq _ _) [some (.fz, .str s), none]).bind _ = _
  simp only [sSeq, sIf, sRet, sNx, sSet, sPar, sTgt, sDrop, toT, rOr, rAnd, rNot, rIf, runN, run1, run2, rCons, rNil, rBor, rVar, rMov, rC, rChn, rDisp, rCall, rSlice, oNone, oSome, ret1, frc, frcs, onlyV, valO, Op.fz, mkO, boolOf, intOf, itemsOf, iSeq, tgN, T.ret_bind, T.ofOpt, retO, putO, flOf, some0, some1, Option.bind_some, Option.map_some, List.getElem?_cons_zero, List.getElem?_cons_succ, List.set_cons_zero, List.set_cons_succ, List.length_cons, List.length_nil, mkL, mkT, small, Bool.not_true, Bool.not_false, if_true, if_false, Bool.false_eq_true, ite_true, ite_false, Nat.reduceAdd, Nat.reduceLT, Nat.reduceLeDiff, e1, e2, e3, e4, e5, c1]
/-! lists of names -/
theorem strsOf_Sl (xs : List Str) : strsOf (Sl xs) = some xs := by
  induction xs with
  | nil => rfl
  | cons x xs ih => show (strsOf (Sl xs)).bind _ = _; rw [ih]; rfl
theorem mets_nodup {xs : List Str} (h : xs.Nodup) : mets xs = xs := by
  have : ∀ (ys σ : List Str), (σ ++ ys).Nodup → ys.foldl mStep σ = σ ++ ys := by
    intro ys
    induction ys with
    | nil => intro σ _; simp
    | cons y ys ih =>
      intro σ hn
      have no : σ.any (· == y) = false := by
        rw [List.any_eq_false]
        intro z hz e
        have e := beq_iff_eq.mp e
        subst e
        exact (List.nodup_append.mp hn).2.2 z hz z List.mem_cons_self rfl
      show ys.foldl mStep (mStep σ y) = _
      unfold mStep
      rw [no]
      show ys.foldl mStep (σ ++ [y]) = _
      rw [ih (σ ++ [y]) (by simpa using hn)]
      simp
  exact (this xs [] (by simpa using h))
/-- a def asked of all -/
theorem lc_asked {α : Type} {g : α → D} {f : Fn} {k : D} {xs : List α} {j i : Nat} {en : En} (hk : itemsOf (some k) = some (xs.map g)) (h : ∀ x ∈ xs, f [g x] = .ret (false, .bl true)) (hl : xs.length ≤ 4096) (h0 : en[j]? = some (some (.fz, k))) (hi : i < en.length) (hn : en[i]? = some none) :
    rLc (iSeq (rVar j)) none (tgN i) rYes (rCall f (rCons (rVar i) rNil)) [i] en = .ret (.fr (.lst (xs.map fun _ => .bl true)), en) := by
  have wp0 : wip en [i] = en := by
    show en.set i none = en
    apply List.ext_getElem?
    intro j
    by_cases e : i = j
    · subst e; rw [List.getElem?_set_self hi, hn]
    · rw [List.getElem?_set_ne e]
  have hb : back en en [i] = en := by
    show en.set i (match en[i]? with | some (some (.fz, d)) => some (.fz, d) | _ => none) = en
    rw [hn]
    exact wp0
  have hit : iSeq (rVar j) en = .ret (xs.map g, en) := by
    unfold iSeq rVar
    rw [h0]
    show (T.ofOpt (itemsOf (some k))).bind _ = _
    rw [hk]
    rfl
  refine (rLc_pure (en1 := en) (fun _ => true) (fun _ => .bl true) (ds := xs.map g) hit (by rw [List.length_map]; exact hl) fun d hd => ?_).trans (by rw [filter_tt, wp0, hb, List.map_map]; rfl)
  obtain ⟨x, hx, rfl⟩ := List.mem_map.mp hd
  have hs : (en.set i (some (.fz, g x)))[i]? = some (some (.fz, g x)) := List.getElem?_set_self hi
  refine ⟨en.set i (some (.fz, g x)), en.set i (some (.fz, g x)), by unfold tgN; rw [wp0, if_pos hi], rfl, (fun z => by cases z), fun _ => ⟨.v (.bl true), en.set i (some (.fz, g x)), ?_, rfl, ?_⟩⟩
  · simp only [rCall, rCons, rNil, rVar, hs, T.ret_bind, Op.fz, onlyV, Option.bind_some, T.ofOpt, h x hx, mkO]
    rfl
  · rw [wp0]
    show (en.set i (some (.fz, g x))).set i none = en
    rw [List.set_set]
    exact wp0
theorem lc_names {k : D} {xs : List Str} {i : Nat} {en : En} (hk : itemsOf (some k) = some (Sl xs)) (h : ∀ x ∈ xs, Nm x) (hl : xs.length ≤ 4096) (h0 : en[0]? = some (some (.fz, k))) (hi : i < en.length) (hi0 : i ≠ 0) (hn : en[i]? = some none) :
    rLc (iSeq (rVar 0)) none (tgN i) rYes (rCall f_is_name (rCons (rVar i) rNil)) [i] en = .ret (.fr (.lst (xs.map fun _ => .bl true)), en) := lc_asked (g := D.str) hk (fun x hx => is_name_ok (h x hx)) hl h0 hi hn
/-! sets -/
theorem ix_Sl {xs : List Str} {k : Nat} {x : Str} (h : xs[k]? = some x) : fIx (.tup (Sl xs)) (.int (k : Nat)) = some0 (.str x) ∧ fIx (.lst (Sl xs)) (.int (k : Nat)) = some0 (.str x) := by
  have : atI (Sl xs) (k : Nat) = some (.str x) := (ix_nat (by omega) (by unfold Sl; rw [List.getElem?_map]; show (xs[k]?).map _ = _; rw [h]; rfl)).1
  constructor <;> (unfold fIx; simp only [this, Option.bind_some])
/-! dependencies -/
theorem pd_Sl {xs : List Str} : ∀ d ∈ Sl xs, Pd 0 d := fun d hd => by
  obtain ⟨x, _, rfl⟩ := List.mem_map.mp hd
  exact .str x 0
theorem mem_Sl {x : Str} {xs : List Str} : D.str x ∈ Sl xs ↔ x ∈ xs := by
  unfold Sl
  rw [List.mem_map]
  exact ⟨fun ⟨y, h, e⟩ => by cases e; exact h, fun h => ⟨x, h, rfl⟩⟩
theorem in_Sl (x : Str) (xs : List Str) : fIn (.str x) (.lst (Sl xs)) = some0 (.bl (decide (x ∈ xs))) ∧ fNotIn (.str x) (.lst (Sl xs)) = some0 (.bl (decide (x ∉ xs))) ∧ fIn (.str x) (.tup (Sl xs)) = some0 (.bl (decide (x ∈ xs))) ∧ fNotIn (.str x) (.tup (Sl xs)) = some0 (.bl (decide (x ∉ xs))) := by
  refine ⟨?_, ?_, ?_, ?_⟩
  · show fInG false _ _ = _
    rw [fIn_lst false (.str x 0) pd_Sl (by decide)]
    simp only [mem_Sl]
    rfl
  · show fInG true _ _ = _
    rw [fIn_lst true (.str x 0) pd_Sl (by decide)]
    simp only [mem_Sl]
    rfl
  · show fInG false _ _ = _
    rw [fIn_tup false (.str x 0) pd_Sl (by decide)]
    simp only [mem_Sl]
    rfl
  · show fInG true _ _ = _
    rw [fIn_tup true (.str x 0) pd_Sl (by decide)]
    simp only [mem_Sl]
    rfl
/-! steps -/
theorem nodup_len {α : Type} [DecidableEq α] : ∀ {l m : List α}, l.Nodup → (∀ x ∈ l, x ∈ m) → l.length ≤ m.length
  | [], m, _, _ => Nat.zero_le _
  | x :: l, m, hn, hs => by
    have hx : x ∈ m := hs x List.mem_cons_self
    have h2 := nodup_len (l := l) (m := m.erase x) (List.nodup_cons.mp hn).2 fun y hy => by
      have : y ≠ x := fun e => (List.nodup_cons.mp hn).1 (e ▸ hy)
      exact (List.mem_erase_of_ne this).mpr (hs y (List.mem_cons_of_mem _ hy))
    rw [List.length_erase_of_mem hx] at h2
    have : 0 < m.length := List.length_pos_of_mem hx
    rw [List.length_cons]
    omega
theorem back_none {en : En} {i : Nat} (hn : en[i]? = some none) : wip en [i] = en ∧ back en en [i] = en := by
  have hi := lt_of_get hn
  have wp0 : en.set i none = en := by
    apply List.ext_getElem?
    intro j
    by_cases e : i = j
    · subst e; rw [List.getElem?_set_self hi, hn]
    · rw [List.getElem?_set_ne e]
  refine ⟨wp0, ?_⟩
  show en.set i (match en[i]? with | some (some (.fz, d)) => some (.fz, d) | _ => none) = en
  rw [hn]
  exact wp0
theorem Sl_snoc (xs : List Str) (x : Str) : Sl xs ++ [.str x] = Sl (xs ++ [x]) := by simp [Sl]
/-! comprehensions over dependencies -/
/-! the law's own closure -/
/-- the texts that the list in slot b has not -/
theorem lc_out {ri : RunI} {o : List Str} {ks : List Str} {f : Fg} {b i : Nat} {en : En} (hr : ri en = .ret (Sl o, en)) (hl : o.length ≤ 4096) (hb : en[b]? = some (some (f, .lst (Sl ks)))) (hbi : b ≠ i) (hn : en[i]? = some none) :
    rLc ri none (tgN i) (toT (run2 (rBor i) (rBor b) fNotIn)) (rVar i) [i] en = .ret (.fr (.lst (Sl (o.filter fun x => decide (x ∉ ks)))), en) := by
  obtain ⟨wp0, bk⟩ := back_none hn
  have hi := lt_of_get hn
  refine (rLc_map (en1 := en) (g := D.str) (fun x => decide (x ∉ ks)) D.str hr hl fun x hx => ?_).trans (by rw [wp0, bk]; rfl)
  have hs : (en.set i (some (.fz, D.str x)))[i]? = some (some (.fz, .str x)) := List.getElem?_set_self hi
  have hb2 : (en.set i (some (.fz, D.str x)))[b]? = some (some (f, .lst (Sl ks))) := by rw [List.getElem?_set_ne hbi.symm]; exact hb
  have wD : wip (en.set i (some (.fz, .str x))) [i] = en := by
    show (en.set i (some (.fz, .str x))).set i none = en
    rw [List.set_set]
    exact wp0
  refine ⟨en.set i (some (.fz, .str x)), en.set i (some (.fz, .str x)), by unfold tgN; rw [wp0, if_pos hi], ?_, fun _ => by rw [wD, wp0], fun _ => ⟨.v (.str x), en.set i (some (.fz, .str x)), ?_, rfl, by rw [wD, wp0]⟩⟩
  · simp only [toT, run2, rBor, hs, hb2, T.ret_bind, Op.fz, frc, Option.bind_some, ret1, (in_Sl x ks).2.1, some0, T.ofOpt, mkO, if_false, Bool.false_eq_true, boolOf]
  · simp only [rVar, hs]
theorem eq_nil_Sl (l : List Str) : fEq (.lst (Sl l)) (.lst []) = some0 (.bl (decide (l = []))) ∧ fNe (.lst (Sl l)) (.lst []) = some0 (.bl (decide (l ≠ []))) := by
  have h : (D.lst (Sl l) = D.lst []) ↔ l = [] := by
    rw [D.lst.injEq]
    unfold Sl
    simp
  constructor
  · rw [fEq_pd (Pd.lst pd_Sl) (Pd.lst (n := 0) fun d hd => by simp at hd) (by decide)]
    congr 3
    exact propext h
  · rw [fNe_pd (Pd.lst pd_Sl) (Pd.lst (n := 0) fun d hd => by simp at hd) (by decide)]
    congr 3
    exact propext (not_congr h)
/-! both closures are one -/
end Sx
set_option Elab.async false
set_option linter.all false
set_option maxRecDepth 100000
set_option maxHeartbeats 4000000
set_option autoImplicit false
namespace Sx
open PySem L2
/-! derivations -/
theorem fEq_str (a b : Str) : fEq (.str a) (.str b) = some0 (.bl (decide (a = b))) := by
  rw [fEq_pd (.str a 0) (.str b 0) (by decide)]
  congr 3
  exact propext ⟨fun h => by cases h; rfl, fun h => by rw [h]⟩
theorem cutN (l : List D) (n : Nat) : cutD l none (some (n : Int)) = l.take n := by
  unfold cutD
  rw [HT.sIx_none, HT.sIx_nat, Nat.sub_zero, List.drop_zero]
  by_cases h : n ≤ l.length
  · rw [Nat.min_eq_left h]
  · rw [Nat.min_eq_right (by omega), List.take_length, List.take_of_length_le (by omega)]
end Sx
set_option Elab.async false
set_option linter.all false
set_option maxRecDepth 100000
set_option maxHeartbeats 4000000
set_option autoImplicit false
namespace Sx
open PySem L2
/-! derivations judged -/
open Classical in
theorem fEq_no {n m : Nat} {x y : D} (hx : Pd n x) (hy : Pd m y) (hn : n ≤ 60) (h : ¬ x = y) : fEq x y = some0 (.bl false) := by
  rw [fEq_pd hx hy hn, decide_eq_false h]
open Classical in
theorem fEq_yes {n m : Nat} {x y : D} (hx : Pd n x) (hy : Pd m y) (hn : n ≤ 60) (h : x = y) : fEq x y = some0 (.bl true) := by
  rw [fEq_pd hx hy hn, decide_eq_true h]
open Classical in
theorem fNe_no {n m : Nat} {x y : D} (hx : Pd n x) (hy : Pd m y) (hn : n ≤ 60) (h : x = y) : fNe x y = some0 (.bl false) := by
  rw [fNe_pd hx hy hn, decide_eq_false (not_not_intro h)]
open Classical in
theorem fNe_yes {n m : Nat} {x y : D} (hx : Pd n x) (hy : Pd m y) (hn : n ≤ 60) (h : ¬ x = y) : fNe x y = some0 (.bl true) := by
  rw [fNe_pd hx hy hn, decide_eq_true h]
end Sx
set_option Elab.async false
set_option linter.all false
set_option maxRecDepth 100000
set_option maxHeartbeats 4000000
set_option autoImplicit false
namespace Sx
open PySem L2
/-! the law's own judging -/
theorem last_Sl {l : List Str} {x : Str} (h : ∃ p, l = p ++ [x]) : fIx (.lst (Sl l)) (.int (-1)) = some0 (.str x) := by
  obtain ⟨p, rfl⟩ := h
  have : atI (Sl (p ++ [x])) (-1) = some (.str x) := by
    unfold atI ixN
    rw [if_neg (by decide), if_pos (by unfold Sl; simp; omega)]
    show (Sl (p ++ [x]))[_]? = _
    unfold Sl
    rw [List.map_append, List.length_append, List.length_map]
    have : (-1 + ((p.length + (List.map D.str [x]).length : Nat) : Int)).toNat = p.length := by
      have : (List.map D.str [x]).length = 1 := rfl
      rw [this]
      omega
    rw [this, List.getElem?_append_right (by simp)]
    simp
  unfold fIx
  simp only [this, Option.bind_some]
end Sx
set_option Elab.async false
set_option linter.all false
set_option maxRecDepth 100000
set_option maxHeartbeats 4000000
set_option autoImplicit false
namespace Sx
open PySem L2
/-! draws -/
theorem ch_bind {α β : Type} (n : Nat) (k : Nat → T α) (f : α → T β) : (T.ch n k).bind f = .ch n fun i => (k i).bind f := rfl
theorem take_run {n : Nat} (h0 : 0 < n) (h1 : n ≤ 1073741824) : f_w_take [.drw, .int (n : Nat)] = .ch n fun i => .ret (false, .int i) := by
  show (if 0 < (n : Int) ∧ (n : Int) ≤ 1073741824 then T.ch (n : Int).toNat _ else .fail) = _
  rw [if_pos ⟨by omega, by omega⟩, Int.toNat_natCast]
theorem take_lit {n : Int} (h : 0 < n ∧ n ≤ 1073741824) : f_w_take [.drw, .int n] = .ch n.toNat fun i => .ret (false, .int i) := if_pos h
theorem ix_lst {xs : List D} {i : Nat} {x : D} (h : xs[i]? = some x) : fIx (.lst xs) (.int (i : Nat)) = some0 x := by
  unfold fIx
  simp only [(ix_nat (k := (i : Nat)) (by omega) (by simpa using h)).1, Option.bind_some]
theorem pick_str {z : Str} {Q : Bool × D → Prop} (h0 : 0 < z.length) (h1 : z.length ≤ 4096) (h : ∀ c ∈ z.cps.toList, Q (false, .str ⟨#[c]⟩)) : (f_w_pick [.drw, .str z]).wp Q := by
  have hl : z.length ≤ 65536 := by omega
  have e1 : fLen [.str z] = some0 (.int (z.length : Nat)) := by simp [fLen, hl]
  have e2 := take_run (n := z.length) h0 (by omega)
  have he : en0 2 [.drw, .str z] = [some (.fz, .drw), some (.fz, .str z)] := rfl
  unfold f_w_pick runFn r_w_pick
  rw [he]
  simp only [sSeq, sIf, sRet, sNx, sSet, sPar, sTgt, sDrop, toT, rOr, rAnd, rNot, rIf, runN, run1, run2, rCons, rNil, rBor, rVar, rMov, rC, rChn, rDisp, rCall, rSlice, oNone, oSome, ret1, frc, frcs, onlyV, valO, Op.fz, mkO, boolOf, intOf, itemsOf, iSeq, tgN, T.ret_bind, T.ofOpt, retO, putO, flOf, some0, some1, Option.bind_some, Option.map_some, List.getElem?_cons_zero, List.getElem?_cons_succ, List.set_cons_zero, List.set_cons_succ, List.length_cons, List.length_nil, mkL, mkT, small, Bool.not_true, Bool.not_false, if_true, if_false, Bool.false_eq_true, ite_true, ite_false, Nat.reduceAdd, Nat.reduceLT, Nat.reduceLeDiff, e1, e2, ch_bind]
  intro i hi
  have hi' : i < z.cps.toList.length := by simpa [Str.length] using hi
  obtain ⟨c, hc⟩ : ∃ c, z.cps.toList[i]? = some c := ⟨_, List.getElem?_eq_getElem hi'⟩
  have e3 : fIx (.str z) (.int (i : Nat)) = some0 (.str ⟨#[c]⟩) := by
    have a := (ix_nat (xs := z.cps.toList) (k := (i : Nat)) (v := c) (by omega) (by rw [Int.toNat_natCast]; exact hc)).1
    unfold fIx
    simp only [if_pos hl, a, Option.bind_some]
  simp only [sSeq, sIf, sRet, sNx, sSet, sPar, sTgt, sDrop, toT, rOr, rAnd, rNot, rIf, runN, run1, run2, rCons, rNil, rBor, rVar, rMov, rC, rChn, rDisp, rCall, rSlice, oNone, oSome, ret1, frc, frcs, onlyV, valO, Op.fz, mkO, boolOf, intOf, itemsOf, iSeq, tgN, T.ret_bind, T.ofOpt, retO, putO, flOf, some0, some1, Option.bind_some, Option.map_some, List.getElem?_cons_zero, List.getElem?_cons_succ, List.set_cons_zero, List.set_cons_succ, List.length_cons, List.length_nil, mkL, mkT, small, Bool.not_true, Bool.not_false, if_true, if_false, Bool.false_eq_true, ite_true, ite_false, Nat.reduceAdd, Nat.reduceLT, Nat.reduceLeDiff, e3]
  exact h c (List.mem_of_getElem? hc)
theorem erase_perm : ∀ {l : List D} {i : Nat} {y : D}, l[i]? = some y → (y :: l.eraseIdx i).Perm l
  | [], i, y, h => by simp at h
  | x :: l, 0, y, h => by
    simp at h
    subst h
    exact .refl _
  | x :: l, i + 1, y, h => by
    have h : l[i]? = some y := by simpa using h
    show (y :: x :: l.eraseIdx i).Perm (x :: l)
    exact (List.Perm.swap x y _).trans ((erase_perm h).cons x)
end Sx
set_option Elab.async false
set_option linter.all false
set_option maxRecDepth 100000
set_option maxHeartbeats 4000000
set_option autoImplicit false
namespace Sx
open PySem L2
/-! comprehensions whose tests draw -/
end Sx
set_option Elab.async false
set_option linter.all false
set_option maxRecDepth 100000
set_option maxHeartbeats 4000000
set_option autoImplicit false
namespace Sx
open PySem L2
theorem fNe_str (a b : Str) : fNe (.str a) (.str b) = some0 (.bl (decide (a ≠ b))) := by
  by_cases h : a = b
  · rw [decide_eq_false (not_not_intro h)]
    exact fNe_no (.str a 0) (.str b 0) (by decide) (by rw [h])
  · rw [decide_eq_true h]
    exact fNe_yes (.str a 0) (.str b 0) (by decide) fun z => h (by cases z; rfl)
end Sx
set_option Elab.async false
set_option linter.all false
set_option maxRecDepth 100000
set_option maxHeartbeats 4000000
set_option autoImplicit false
namespace Sx
open PySem L2
/-! texts -/
theorem glued_list (parts : List Str) : (Txt.join "" parts).cps.toList = parts.flatMap fun p => p.cps.toList := by
  have f : ∀ (l : List Str) (acc : Array Nat), (l.foldl (fun acc p => acc ++ ("" : Str).cps ++ p.cps) acc).toList = acc.toList ++ l.flatMap fun p => p.cps.toList := by
    intro l
    induction l with
    | nil => intro acc; simp
    | cons p l ih =>
      intro acc
      rw [List.foldl_cons, ih]
      have : ("" : Str).cps = #[] := rfl
      simp [this]
  show ((parts.drop 1).foldl (fun acc p => acc ++ ("" : Str).cps ++ p.cps) (parts.headD Str.empty).cps).toList = _
  rw [f]
  cases parts with
  | nil => rfl
  | cons p l => simp
theorem nm_join {cs : List Nat} (h1 : 1 ≤ cs.length) (h2 : cs.length ≤ 8) (h : ∀ c ∈ cs, c ∈ az.cps.toList) : Nm (Txt.join "" (cs.map fun c => ⟨#[c]⟩)) := by
  have e : (Txt.join "" (cs.map fun c => (⟨#[c]⟩ : Str))).cps.toList = cs := by
    rw [glued_list, List.flatMap_map]
    induction cs with
    | nil => rfl
    | cons c cs _ => simp
  have l : (Txt.join "" (cs.map fun c => (⟨#[c]⟩ : Str))).length = cs.length := by
    show Array.size _ = _
    rw [← Array.length_toList, e]
  exact ⟨by rw [l]; exact h1, by rw [l]; exact h2, by rw [e]; exact h⟩
theorem nm_of {s : Str} {l : List Nat} (e : s.cps.toList = l) (h1 : 1 ≤ l.length) (h2 : l.length ≤ 8) (h : ∀ c ∈ l, c ∈ az.cps.toList) : Nm s := by
  have n : s.length = l.length := by
    show Array.size _ = _
    rw [← Array.length_toList, e]
  exact ⟨by rw [n]; exact h1, by rw [n]; exact h2, by rw [e]; exact h⟩
theorem Nm.list {s : Str} (h : Nm s) : 1 ≤ s.cps.toList.length ∧ s.cps.toList.length ≤ 8 := by
  have : s.cps.toList.length = s.length := Array.length_toList
  have := h.lo
  have := h.hi
  omega
theorem app_list (a b : Str) : (a ++ b).cps.toList = a.cps.toList ++ b.cps.toList := by
  show (a.cps ++ b.cps).toList = _
  exact Array.toList_append
theorem cut_list (z : Str) (n : Nat) (hi : Option Int) (e : HT.sIx z.length z.length hi = n) : (cutS z none hi).cps.toList = z.cps.toList.take n := by
  unfold cutS
  simp [HT.sIx_none, e]
/-- word[:-1] + letter -/
theorem nm_last {s : Str} {c : Nat} (h : Nm s) (hc : c ∈ az.cps.toList) : Nm (cutS s none (some (-1)) ++ ⟨#[c]⟩) := by
  obtain ⟨h1, h2⟩ := h.list
  have l : s.cps.toList.length = s.length := Array.length_toList
  have e : HT.sIx s.length s.length (some (-1)) = s.length - 1 := by
    unfold HT.sIx
    simp only
    rw [if_pos (by decide)]
    omega
  refine nm_of (l := s.cps.toList.take (s.length - 1) ++ [c]) (by rw [app_list, cut_list s _ _ e]) ?_ ?_ ?_
  · simp
  · rw [List.length_append, List.length_take]; simp; omega
  · intro x hx
    rcases List.mem_append.mp hx with hx | hx
    · exact h.az x (List.mem_of_mem_take hx)
    · rw [List.mem_singleton] at hx; rw [hx]; exact hc
/-- word[:7] + letter -/
theorem nm_seven {s : Str} {c : Nat} (h : Nm s) (hc : c ∈ az.cps.toList) : Nm (cutS s none (some 7) ++ ⟨#[c]⟩) := by
  obtain ⟨h1, h2⟩ := h.list
  have l : s.cps.toList.length = s.length := Array.length_toList
  have e : HT.sIx s.length s.length (some 7) = min 7 s.length := by
    rw [show (some (7 : Int)) = some ((7 : Nat) : Int) from rfl, HT.sIx_nat]
  refine nm_of (l := s.cps.toList.take (min 7 s.length) ++ [c]) (by rw [app_list, cut_list s _ _ e]) ?_ ?_ ?_
  · simp
  · rw [List.length_append, List.length_take]; simp; omega
  · intro x hx
    rcases List.mem_append.mp hx with hx | hx
    · exact h.az x (List.mem_of_mem_take hx)
    · rw [List.mem_singleton] at hx; rw [hx]; exact hc
theorem az_nodup : az.cps.toList.Nodup := by decide +kernel
theorem az_len : az.cps.toList.length = 26 := by decide +kernel
theorem sev_inj {s : Str} {c d : Nat} (h : cutS s none (some 7) ++ (⟨#[c]⟩ : Str) = cutS s none (some 7) ++ ⟨#[d]⟩) : c = d := by
  have := congrArg (fun z : Str => z.cps.toList) h
  simp only [app_list] at this
  have := List.append_cancel_left this
  simpa using this
/-- one of the others is new -/
theorem fresh_sev {found : List Str} {s : Str} (hl : found.length < 26) : ∃ c ∈ az.cps.toList, cutS s none (some 7) ++ (⟨#[c]⟩ : Str) ∉ found := by
  refine Classical.byContradiction fun z => ?_
  have all : ∀ c ∈ az.cps.toList, cutS s none (some 7) ++ (⟨#[c]⟩ : Str) ∈ found := fun c hc => Classical.byContradiction fun q => z ⟨c, hc, q⟩
  have nd : (az.cps.toList.map fun c => cutS s none (some 7) ++ (⟨#[c]⟩ : Str)).Nodup := by
    exact List.pairwise_map.mpr (az_nodup.imp fun {a b} ne e => ne (sev_inj e))
  have := nodup_len (m := found) nd fun x hx => by
    obtain ⟨c, hc, rfl⟩ := List.mem_map.mp hx
    exact all c hc
  rw [List.length_map, az_len] at this
  omega
end Sx
set_option Elab.async false
set_option linter.all false
set_option maxRecDepth 100000
set_option maxHeartbeats 4000000
set_option autoImplicit false
namespace Sx
open PySem L2
/-! a turn of the names -/
def sev (w : Str) (c : Nat) : Str := cutS w none (some 7) ++ ⟨#[c]⟩
abbrev E11 (m : D) (pool found : List Str) (t : Slot) (w : Str) (o : Slot) : En := [some (.fz, .drw), some (.fz, m), some (.ow, .lst (Sl pool)), some (.fz, .str az), some (.ow, .lst (Sl found)), t, some (.fz, .str w), o, none, none, none]
theorem lc_others {m : D} {pool found : List Str} {t o : Slot} {w : Str} (hw : Nm w) :
    rLc (iSeq (rVar 3)) none (tgN 9) rYes (run2 (rSlice (rBor 6) oNone (oSome (rC (.int 7)))) (rBor 9) fAdd) [9] (E11 m pool found t w o) = .ret (.fr (.lst (Sl (az.cps.toList.map (sev w)))), E11 m pool found t w o) := by
  have hl : w.length ≤ 65536 := Nat.le_trans hw.hi (by decide)
  have e1 : fSl (.str w) none (some 7) = some0 (.str (cutS w none (some 7))) := by
    unfold fSl
    simp only [if_pos hl]
  have lc : (cutS w none (some 7)).length ≤ 8 := by
    have e : HT.sIx w.length w.length (some 7) = min 7 w.length := by rw [show (some (7 : Int)) = some ((7 : Nat) : Int) from rfl, HT.sIx_nat]
    have q := cut_list w _ _ e
    have : (cutS w none (some 7)).cps.toList.length = (cutS w none (some 7)).length := Array.length_toList
    rw [← this, q, List.length_take]
    have := hw.hi
    omega
  refine (rLc_map (en1 := E11 m pool found t w o) (g := fun c => D.str ⟨#[c]⟩) (xs := az.cps.toList) (fun _ => true) (fun c => .str (sev w c)) rfl (by rw [az_len]; decide) fun c hc => ?_).trans (by rw [filter_tt]; unfold Sl; rw [List.map_map]; rfl)
  have e2 : fAdd (.str (cutS w none (some 7))) (.str ⟨#[c]⟩) = some0 (.str (sev w c)) := by
    show (if (cutS w none (some 7)).length + (⟨#[c]⟩ : Str).length ≤ 65536 then some0 (.str (cutS w none (some 7) ++ ⟨#[c]⟩)) else none) = _
    have l1 : (⟨#[c]⟩ : Str).length = 1 := rfl
    rw [if_pos (by omega)]
    rfl
  refine ⟨[some (.fz, .drw), some (.fz, m), some (.ow, .lst (Sl pool)), some (.fz, .str az), some (.ow, .lst (Sl found)), t, some (.fz, .str w), o, none, some (.fz, .str ⟨#[c]⟩), none], _, rfl, rfl, (fun z => by cases z), fun _ => ⟨.v (.str (sev w c)), [some (.fz, .drw), some (.fz, m), some (.ow, .lst (Sl pool)), some (.fz, .str az), some (.ow, .lst (Sl found)), t, some (.fz, .str w), o, none, some (.fz, .str ⟨#[c]⟩), none], ?_, rfl, rfl⟩⟩
  simp only [sSeq, sIf, sRet, sNx, sSet, sPar, sTgt, sDrop, toT, rOr, rAnd, rNot, rIf, runN, run1, run2, rCons, rNil, rBor, rVar, rMov, rC, rChn, rDisp, rCall, rSlice, oNone, oSome, ret1, frc, frcs, onlyV, valO, Op.fz, mkO, boolOf, intOf, itemsOf, iSeq, tgN, T.ret_bind, T.ofOpt, retO, putO, flOf, some0, some1, Option.bind_some, Option.map_some, List.getElem?_cons_zero, List.getElem?_cons_succ, List.set_cons_zero, List.set_cons_succ, List.length_cons, List.length_nil, mkL, mkT, small, Bool.not_true, Bool.not_false, if_true, if_false, Bool.false_eq_true, ite_true, ite_false, Nat.reduceAdd, Nat.reduceLT, Nat.reduceLeDiff, e1, e2]
end Sx
set_option Elab.async false
set_option linter.all false
set_option maxRecDepth 100000
set_option maxHeartbeats 4000000
set_option autoImplicit false
namespace Sx
open PySem L2
theorem wp_if {rc : RunT} {a b : RunS} {en : En} {Q : Fl × En → Prop} (h : (rc en).wp fun x => (if x.1 then a x.2 else b x.2).wp Q) : (sIf rc a b en).wp Q :=
  (T.wp_bind _ _ _).mpr h
theorem wp_nx {a b : RunS} {en : En} {Q : Fl × En → Prop} (h : (a en).wp fun r => ∃ e, r = (.nx, e) ∧ (b e).wp Q) : (sSeq a b en).wp Q :=
  wp_seq (T.wp_mono h fun _ q => .inl q)
theorem fEq_int (i j : Int) : fEq (.int i) (.int j) = some0 (.bl (decide (i = j))) := by
  by_cases z : i = j
  · rw [decide_eq_true z]; exact fEq_yes (.int _ 0) (.int _ 0) (by decide) (by rw [z])
  · rw [decide_eq_false z]; exact fEq_no (.int _ 0) (.int _ 0) (by decide) fun q => z (by cases q; rfl)
theorem coin {j : Nat} {n : Int} {en : En} (k : 0 < n ∧ n ≤ 1073741824) (h0 : en[j]? = some (some (.fz, .drw))) :
    toT (run2 (rCall f_w_take (rCons (rVar j) (rCons (rC (.int n)) rNil))) (rC (.int 0)) fEq) en = .ch n.toNat fun i => .ret (decide ((i : Int) = 0), en) := by
  have e2 := take_lit k
  unfold toT run2 rCall rCons rNil rVar rC
  simp only [h0, sSeq, sIf, sRet, sNx, sSet, sPar, sTgt, sDrop, toT, rOr, rAnd, rNot, rIf, runN, run1, run2, rCons, rNil, rBor, rVar, rMov, rC, rChn, rDisp, rCall, rSlice, oNone, oSome, ret1, frc, frcs, onlyV, valO, Op.fz, mkO, boolOf, intOf, itemsOf, iSeq, tgN, T.ret_bind, T.ofOpt, retO, putO, flOf, some0, some1, Option.bind_some, Option.map_some, List.getElem?_cons_zero, List.getElem?_cons_succ, List.set_cons_zero, List.set_cons_succ, List.length_cons, List.length_nil, mkL, mkT, small, Bool.not_true, Bool.not_false, if_true, if_false, Bool.false_eq_true, ite_true, ite_false, Nat.reduceAdd, Nat.reduceLT, Nat.reduceLeDiff, e2, ch_bind, fEq_int]
theorem map_erase {α β : Type} (f : α → β) : ∀ (l : List α) (i : Nat), (l.map f).eraseIdx i = (l.eraseIdx i).map f
  | [], _ => rfl
  | _ :: _, 0 => rfl
  | x :: l, i + 1 => by
    show f x :: (l.map f).eraseIdx i = f x :: (l.eraseIdx i).map f
    rw [map_erase f l i]
/-! one turn -/
abbrev EN (m : D) (pool found : List Str) (t w o : Slot) : En := [some (.fz, .drw), some (.fz, m), some (.ow, .lst (Sl pool)), some (.fz, .str az), some (.ow, .lst (Sl found)), t, w, o, none, none, none]
theorem n_pop {m : D} {pool found : List Str} {t w o : Slot} (h0 : pool ≠ []) (hl : pool.length < 4000) (hp : ∀ x ∈ pool, Nm x) :
    ((sSet 6 (rPopI 2 (rCall f_w_take (rCons (rVar 0) (rCons (runN (rCons (rBor 2) rNil) fLen) rNil))))) (EN m pool found t w o)).wp fun r => ∃ x pool', r = (.nx, EN m pool' found t (some (.fz, .str x)) o) ∧ Nm x ∧ pool'.length + 1 = pool.length ∧ ∀ y ∈ pool', Nm y := by
  have ll : (Sl pool).length = pool.length := List.length_map ..
  have e1 : fLen [.lst (Sl pool)] = some0 (.int (pool.length : Nat)) := by rw [← ll]; rfl
  have e2 := take_run (n := pool.length) (List.length_pos_iff.mpr h0) (by omega)
  simp only [EN, sSeq, sIf, sRet, sNx, sSet, sPar, sTgt, sDrop, toT, rOr, rAnd, rNot, rIf, runN, run1, run2, rCons, rNil, rBor, rVar, rMov, rC, rChn, rDisp, rCall, rSlice, oNone, oSome, ret1, frc, frcs, onlyV, valO, Op.fz, mkO, boolOf, intOf, itemsOf, iSeq, tgN, T.ret_bind, T.ofOpt, retO, putO, flOf, some0, some1, Option.bind_some, Option.map_some, List.getElem?_cons_zero, List.getElem?_cons_succ, List.set_cons_zero, List.set_cons_succ, List.length_cons, List.length_nil, mkL, mkT, small, Bool.not_true, Bool.not_false, if_true, if_false, Bool.false_eq_true, ite_true, ite_false, Nat.reduceAdd, Nat.reduceLT, Nat.reduceLeDiff, rPopI, ownL, e1, e2, ch_bind]
  intro i hi
  obtain ⟨y, hy⟩ : ∃ y, pool[i]? = some y := ⟨_, List.getElem?_eq_getElem hi⟩
  have hy' : (Sl pool)[i]? = some (.str y) := by unfold Sl; rw [List.getElem?_map, hy]; rfl
  have hc : (0 : Int) ≤ (i : Nat) ∧ ((i : Nat) : Int) < 4096 := by omega
  simp only [sSeq, sIf, sRet, sNx, sSet, sPar, sTgt, sDrop, toT, rOr, rAnd, rNot, rIf, runN, run1, run2, rCons, rNil, rBor, rVar, rMov, rC, rChn, rDisp, rCall, rSlice, oNone, oSome, ret1, frc, frcs, onlyV, valO, Op.fz, mkO, boolOf, intOf, itemsOf, iSeq, tgN, T.ret_bind, T.ofOpt, retO, putO, flOf, some0, some1, Option.bind_some, Option.map_some, List.getElem?_cons_zero, List.getElem?_cons_succ, List.set_cons_zero, List.set_cons_succ, List.length_cons, List.length_nil, mkL, mkT, small, Bool.not_true, Bool.not_false, if_true, if_false, Bool.false_eq_true, ite_true, ite_false, Nat.reduceAdd, Nat.reduceLT, Nat.reduceLeDiff, if_pos hc, Int.toNat_natCast, hy', ownL]
  refine ⟨y, pool.eraseIdx i, ?_, hp y (List.mem_of_getElem? hy), ?_, fun z hz => hp z (List.mem_of_mem_eraseIdx hz)⟩
  · unfold Sl
    rw [map_erase]
  · rw [List.length_eraseIdx, if_pos hi]; omega
theorem pick_az {Q : Bool × D → Prop} (h : ∀ c ∈ az.cps.toList, Q (false, .str ⟨#[c]⟩)) : (f_w_pick [.drw, .str az]).wp Q :=
  pick_str (by show 0 < az.cps.size; rw [← Array.length_toList, az_len]; decide) (by show az.cps.size ≤ _; rw [← Array.length_toList, az_len]; decide) h
/-- a comprehension whose value is drawn -/
theorem rLcL_drawn {α : Type} {P : α → Prop} {y : α → D} {t : Tg} {re : Run} {vs : List Nat} {e0 : En} : ∀ (xs : List D) (acc : List α),
    (∀ d ∈ xs, ∃ e2, t d e0 = some e2 ∧ (re e2).wp fun o => ∃ a, P a ∧ valO o.1 = some (y a) ∧ wip o.2 vs = e0) →
    (rLcL t rYes re vs xs e0 (acc.map y)).wp fun r => ∃ ys : List α, ys.length = xs.length ∧ (∀ a ∈ ys, P a) ∧ r = ((acc ++ ys).map y, e0)
  | [], acc, _ => ⟨[], rfl, by simp, by simp [rLcL]⟩
  | d :: ds, acc, h => by
    obtain ⟨e2, h1, h2⟩ := h d List.mem_cons_self
    rw [rLcL, h1]
    show ((re e2).bind _).wp _
    refine (T.wp_bind _ _ _).mpr (T.wp_mono h2 fun o ⟨a, pa, h3, h4⟩ => ?_)
    show ((T.ofOpt (valO o.1)).bind _).wp _
    rw [h3]
    show (rLcL t rYes re vs ds (wip o.2 vs) (acc.map y ++ [y a])).wp _
    rw [h4]
    have ih := rLcL_drawn (P := P) (y := y) (t := t) (re := re) (vs := vs) (e0 := e0) ds (acc ++ [a]) fun d hd => h d (List.mem_cons_of_mem _ hd)
    rw [List.map_append] at ih
    exact T.wp_mono ih fun r ⟨ys, l, p, q⟩ => ⟨a :: ys, by simp [l], fun b hb => (List.mem_cons.mp hb).elim (fun e => e ▸ pa) (p b), by rw [q]; simp⟩
theorem rLc_drawn {α : Type} (P : α → Prop) (y : α → D) (R : List D → Prop) {ri : RunI} {l : Option Nat} {t : Tg} {re : Run} {vs : List Nat} {en en1 : En} (hi : (ri en).wp fun r => r.2 = en1 ∧ r.1.length ≤ 4096 ∧ R r.1)
    (h : ∀ xs, R xs → ∀ d ∈ xs, ∃ e2, t d (wip en1 vs) = some e2 ∧ (re e2).wp fun o => ∃ a, P a ∧ valO o.1 = some (y a) ∧ wip o.2 vs = wip en1 vs) :
    (rLc ri l t rYes re vs en).wp fun r => ∃ (xs : List D) (ys : List α), R xs ∧ ys.length = xs.length ∧ (∀ a ∈ ys, P a) ∧ r = (.fr (.lst (ys.map y)), unl l (back (wip en1 vs) en1 vs)) := by
  unfold rLc
  refine (T.wp_bind _ _ _).mpr (T.wp_mono hi fun r ⟨h1, hl, hR⟩ => ?_)
  obtain ⟨xs, e⟩ := r
  cases h1
  show (if xs.length ≤ 4096 then _ else _ : T (Op × En)).wp _
  rw [if_pos hl]
  refine (T.wp_bind _ _ _).mpr (T.wp_mono (rLcL_drawn (P := P) (y := y) xs [] (h xs hR)) fun r ⟨ys, a, b, c⟩ => ⟨xs, ys, hR, a, b, ?_⟩)
  rw [c]
  simp
theorem wp_strM {x : Str} {f : Str → List D → Option (Bool × D)} {rs : Runs} {en : En} {Q : Op × En → Prop} (h : (rs en).wp fun b => ∃ r, ((frcs b.2 b.1).bind fun ds => f x ds) = some r ∧ Q (mkO r, b.2)) : (rStrM (rC (.str x)) rs f en).wp Q := by
  show ((rs en).bind fun b => ret1 ((frcs b.2 b.1).bind fun ds => f x ds) b.2).wp Q
  exact (T.wp_bind _ _ _).mpr (T.wp_mono h fun r ⟨d, h1, q⟩ => by
    show (ret1 _ r.2).wp _
    rw [h1]
    exact q)
theorem wp_run2 {ra rb : Run} {f : D → D → Option (Bool × D)} {en : En} {Q : Op × En → Prop} (h : (ra en).wp fun a => (rb a.2).wp fun b => ∃ r, ((frc b.2 a.1.fz).bind fun x => (frc b.2 b.1.fz).bind fun y => f x y) = some r ∧ Q (mkO r, b.2)) : (run2 ra rb f en).wp Q :=
  (T.wp_bind _ _ _).mpr (T.wp_mono h fun a h => (T.wp_bind _ _ _).mpr (T.wp_mono h fun r ⟨d, h1, q⟩ => by
    show (ret1 _ r.2).wp _
    rw [h1]
    exact q))
def wordR : RunS := (sSeq (sSet 6 (rStrM (rC (.str "")) (rCons (rLc (iRange (rCons (run2 (rC (.int 1)) (rCall f_w_take (rCons (rVar 0) (rCons (rC (.int 8)) rNil))) fAdd) rNil)) none (tgN 8) rYes (rCall f_w_pick (rCons (rVar 0) (rCons (rVar 3) rNil))) [8]) rNil) fJoin)) sNx)
theorem n_word {m : D} {pool found : List Str} {t w o : Slot} : (wordR (EN m pool found t w o)).wp fun r => ∃ x, r = (.nx, EN m pool found t (some (.fz, .str x)) o) ∧ Nm x := by
  have e2 := take_lit (n := 8) (by decide)
  have c := rLc_drawn (l := none) (t := tgN 8) (vs := [8]) (fun c => c ∈ az.cps.toList) (fun c => D.str ⟨#[c]⟩) (fun xs => 1 ≤ xs.length ∧ xs.length ≤ 8) (ri := iRange (rCons (run2 (rC (.int 1)) (rCall f_w_take (rCons (rVar 0) (rCons (rC (.int 8)) rNil))) fAdd) rNil)) (re := rCall f_w_pick (rCons (rVar 0) (rCons (rVar 3) rNil)))
    (en := EN m pool found t w o) (en1 := EN m pool found t w o) (by
      simp only [EN, iRange, sSeq, sIf, sRet, sNx, sSet, sPar, sTgt, sDrop, toT, rOr, rAnd, rNot, rIf, runN, run1, run2, rCons, rNil, rBor, rVar, rMov, rC, rChn, rDisp, rCall, rSlice, oNone, oSome, ret1, frc, frcs, onlyV, valO, Op.fz, mkO, boolOf, intOf, itemsOf, iSeq, tgN, T.ret_bind, T.ofOpt, retO, putO, flOf, some0, some1, Option.bind_some, Option.map_some, List.getElem?_cons_zero, List.getElem?_cons_succ, List.set_cons_zero, List.set_cons_succ, List.length_cons, List.length_nil, mkL, mkT, small, Bool.not_true, Bool.not_false, if_true, if_false, Bool.false_eq_true, ite_true, ite_false, Nat.reduceAdd, Nat.reduceLT, Nat.reduceLeDiff, e2, ch_bind]
      intro i hi
      have hi : i < 8 := hi
      have a1 : fAdd (.int 1) (.int (i : Nat)) = some0 (.int (1 + (i : Int))) := rfl
      have a2 : 1 + (i : Int) ≤ 4096 ∧ -4096 ≤ 1 + (i : Int) := by omega
      have a3 : (1 + (i : Int)).toNat = 1 + i := by omega
      simp only [sSeq, sIf, sRet, sNx, sSet, sPar, sTgt, sDrop, toT, rOr, rAnd, rNot, rIf, runN, run1, run2, rCons, rNil, rBor, rVar, rMov, rC, rChn, rDisp, rCall, rSlice, oNone, oSome, ret1, frc, frcs, onlyV, valO, Op.fz, mkO, boolOf, intOf, itemsOf, iSeq, tgN, T.ret_bind, T.ofOpt, retO, putO, flOf, some0, some1, Option.bind_some, Option.map_some, List.getElem?_cons_zero, List.getElem?_cons_succ, List.set_cons_zero, List.set_cons_succ, List.length_cons, List.length_nil, mkL, mkT, small, Bool.not_true, Bool.not_false, if_true, if_false, Bool.false_eq_true, ite_true, ite_false, Nat.reduceAdd, Nat.reduceLT, Nat.reduceLeDiff, a1, if_pos a2, a3]
      refine ⟨rfl, ?_, ?_, ?_⟩ <;> (rw [List.length_map, List.length_range]; omega)) (fun xs _ d _ => ⟨[some (.fz, .drw), some (.fz, m), some (.ow, .lst (Sl pool)), some (.fz, .str az), some (.ow, .lst (Sl found)), t, w, o, some (.fz, d), none, none], rfl, wp_call (wp_eq rfl ⟨_, rfl, pick_az fun c hc => ⟨c, hc, rfl, rfl⟩⟩)⟩)
  unfold wordR
  refine wp_nx (wp_set (wp_strM (wp_cons (T.wp_mono c fun r ⟨xs, cs, hx, hl, hc, e⟩ => ?_))))
  rw [e]
  have s1 : cs.map (fun c => D.str ⟨#[c]⟩) = Sl (cs.map fun c => ⟨#[c]⟩) := by unfold Sl; rw [List.map_map]; rfl
  have s2 : ∀ l : List Nat, ((l.map fun c => (⟨#[c]⟩ : Str)).map (·.length)).sum = l.length := fun l => by
    induction l with
    | nil => rfl
    | cons c l ih =>
      rw [List.map_cons, List.map_cons, List.sum_cons, ih, List.length_cons]
      have : (⟨#[c]⟩ : Str).length = 1 := rfl
      omega
  have s3 : fJoin "" [.lst (Sl (cs.map fun c => ⟨#[c]⟩))] = some0 (.str (Txt.join "" (cs.map fun c => ⟨#[c]⟩))) := by
    unfold fJoin
    simp only [strsOf_Sl, Option.bind_some]
    rw [if_pos]
    rw [s2, List.length_map]
    have : ("" : Str).length = 0 := rfl
    rw [this]
    omega
  refine wp_eq (x := ([], EN m pool found t w o)) rfl ⟨(false, .str (Txt.join "" (cs.map fun c => ⟨#[c]⟩))), ?_, EN m pool found t (some (.fz, .str (Txt.join "" (cs.map fun c => ⟨#[c]⟩)))) o, rfl, _, rfl, _, rfl, nm_join (by omega) (by omega) hc⟩
  rw [s1]
  exact s3
def lastR : RunS := (sSeq (sSet 6 (run2 (rSlice (run2 (rBor 4) (run1 (rC (.int 1)) fNeg) fIx) oNone (oSome (run1 (rC (.int 1)) fNeg))) (rCall f_w_pick (rCons (rVar 0) (rCons (rVar 3) rNil))) fAdd)) sNx)
theorem n_last {m : D} {pool found : List Str} {t w o : Slot} (hf : found ≠ []) (hn : ∀ x ∈ found, Nm x) : (lastR (EN m pool found t w o)).wp fun r => ∃ x, r = (.nx, EN m pool found t (some (.fz, .str x)) o) ∧ Nm x := by
  obtain ⟨p, z, hz⟩ : ∃ p z, found = p ++ [z] := by
    rcases List.eq_nil_or_concat found with h | ⟨p, z, h⟩
    · exact absurd h hf
    · exact ⟨p, z, by simpa using h⟩
  have nz : Nm z := hn z (by rw [hz]; simp)
  have zl : z.length ≤ 65536 := Nat.le_trans nz.hi (by decide)
  have e1 := last_Sl ⟨p, hz⟩
  have e2 : fNeg (.int 1) = some0 (.int (-1)) := rfl
  have e3 : fSl (.str z) none (some (-1)) = some0 (.str (cutS z none (some (-1)))) := by
    unfold fSl
    simp only [if_pos zl]
  have a : rSlice (run2 (rBor 4) (run1 (rC (.int 1)) fNeg) fIx) oNone (oSome (run1 (rC (.int 1)) fNeg)) (EN m pool found t w o) = .ret (.v (.str (cutS z none (some (-1)))), EN m pool found t w o) := by
    simp only [EN, sSeq, sIf, sRet, sNx, sSet, sPar, sTgt, sDrop, toT, rOr, rAnd, rNot, rIf, runN, run1, run2, rCons, rNil, rBor, rVar, rMov, rC, rChn, rDisp, rCall, rSlice, oNone, oSome, ret1, frc, frcs, onlyV, valO, Op.fz, mkO, boolOf, intOf, itemsOf, iSeq, tgN, T.ret_bind, T.ofOpt, retO, putO, flOf, some0, some1, Option.bind_some, Option.map_some, List.getElem?_cons_zero, List.getElem?_cons_succ, List.set_cons_zero, List.set_cons_succ, List.length_cons, List.length_nil, mkL, mkT, small, Bool.not_true, Bool.not_false, if_true, if_false, Bool.false_eq_true, ite_true, ite_false, Nat.reduceAdd, Nat.reduceLT, Nat.reduceLeDiff, e1, e2, e3]
  unfold lastR
  refine wp_nx (wp_set (wp_run2 (wp_eq a (wp_call (wp_eq (x := ([.v .drw, .v (.str az)], EN m pool found t w o)) rfl ⟨_, rfl, pick_az fun c hc => ?_⟩)))))
  have nl := nm_last nz hc
  have ll : (cutS z none (some (-1)) ++ (⟨#[c]⟩ : Str)).length = (cutS z none (some (-1))).length + (⟨#[c]⟩ : Str).length := by
    show Array.size (_ ++ _) = _
    exact Array.size_append
  have e4 : fAdd (.str (cutS z none (some (-1)))) (.str ⟨#[c]⟩) = some0 (.str (cutS z none (some (-1)) ++ ⟨#[c]⟩)) := by
    show (if (cutS z none (some (-1))).length + (⟨#[c]⟩ : Str).length ≤ 65536 then some0 (.str (cutS z none (some (-1)) ++ (⟨#[c]⟩ : Str))) else none) = _
    rw [if_pos]
    have := nl.hi
    omega
  exact ⟨_, e4, _, rfl, _, rfl, _, rfl, nl⟩
theorem rLc_to {ri ri' : RunI} {l : Option Nat} {t : Tg} {rt : RunT} {re : Run} {vs : List Nat} {en en1 : En} {xs : List D} (h : ri en = .ret (xs, en1)) (h' : ri' en1 = .ret (xs, en1)) : rLc ri l t rt re vs en = rLc ri' l t rt re vs en1 := by
  unfold rLc
  rw [h, h']
def newR : RunS := (sSeq (sSet 7 (run2 (rDisp mkL (rCons (rVar 6) rNil)) (rLc (iSeq (rVar 3)) none (tgN 9) rYes (run2 (rSlice (rBor 6) oNone (oSome (rC (.int 7)))) (rBor 9) fAdd) [9]) fAdd))
    (sSeq (sDrop (rApp 4 (run2 (rLc (iSeq (rVar 7)) none (tgN 10) (toT (run2 (rBor 10) (rBor 4) fNotIn)) (rVar 10) [10]) (rC (.int 0)) fIx)))
    sNx))
theorem n_new {m : D} {pool found : List Str} {t o : Slot} {w : Str} (hw : Nm w) (hl : found.length < 26) : ∃ x o', newR (EN m pool found t (some (.fz, .str w)) o) = .ret (.nx, EN m pool (found ++ [x]) t (some (.fz, .str w)) o') ∧ Nm x ∧ x ∉ found := by
  have c1 := lc_others (m := m) (pool := pool) (found := found) (t := t) (o := o) hw
  have la : (az.cps.toList.map (sev w)).length = 26 := by rw [List.length_map, az_len]
  have e1 : fAdd (.lst [.str w]) (.lst (Sl (az.cps.toList.map (sev w)))) = some1 (.lst (Sl (w :: az.cps.toList.map (sev w)))) := by
    show (if [D.str w].length + (Sl (az.cps.toList.map (sev w))).length ≤ 4096 then some1 (.lst ([.str w] ++ Sl (az.cps.toList.map (sev w)))) else none) = _
    rw [if_pos]
    · rfl
    · show 1 + (Sl _).length ≤ 4096
      unfold Sl
      rw [List.length_map, la]
      decide
  have s1 : sSet 7 (run2 (rDisp mkL (rCons (rVar 6) rNil)) (rLc (iSeq (rVar 3)) none (tgN 9) rYes (run2 (rSlice (rBor 6) oNone (oSome (rC (.int 7)))) (rBor 9) fAdd) [9]) fAdd) (EN m pool found t (some (.fz, .str w)) o) = .ret (.nx, EN m pool found t (some (.fz, .str w)) (some (.ow, .lst (Sl (w :: az.cps.toList.map (sev w)))))) := by
    unfold E11 at c1
    simp only [EN, sSet, run2, rDisp, rCons, rVar, rNil, List.getElem?_cons_zero, List.getElem?_cons_succ, T.ret_bind, Op.fz, onlyV, Option.bind_some, mkL, small, List.length_cons, List.length_nil, Nat.reduceAdd, Nat.reduceLeDiff, if_true, ret1, T.ofOpt, mkO, c1, frc, e1, some1, putO, Nat.reduceLT, List.set_cons_zero, List.set_cons_succ]
  obtain ⟨c, hc, hcn⟩ := fresh_sev (s := w) hl
  have c2 := lc_out (ri := iSeq (rVar 7)) (o := w :: az.cps.toList.map (sev w)) (ks := found) (f := .ow) (b := 4) (i := 10) (en := EN m pool found t (some (.fz, .str w)) (some (.fz, .lst (Sl (w :: az.cps.toList.map (sev w)))))) rfl (by rw [List.length_cons, la]; decide) rfl (by decide) rfl
  have c3 := (rLc_to (ri := iSeq (rVar 7)) (ri' := iSeq (rVar 7)) (l := none) (t := tgN 10) (rt := toT (run2 (rBor 10) (rBor 4) fNotIn)) (re := rVar 10) (vs := [10]) (en := EN m pool found t (some (.fz, .str w)) (some (.ow, .lst (Sl (w :: az.cps.toList.map (sev w)))))) (en1 := EN m pool found t (some (.fz, .str w)) (some (.fz, .lst (Sl (w :: az.cps.toList.map (sev w)))))) rfl rfl).trans c2
  have ne : (w :: az.cps.toList.map (sev w)).filter (fun x => decide (x ∉ found)) ≠ [] := fun z => by
    have := List.filter_eq_nil_iff.mp z (sev w c) (List.mem_cons_of_mem _ (List.mem_map.mpr ⟨c, hc, rfl⟩))
    exact this (decide_eq_true hcn)
  obtain ⟨x, r, hx⟩ := List.exists_cons_of_ne_nil ne
  have hm := List.mem_filter.mp (show x ∈ (w :: az.cps.toList.map (sev w)).filter (fun x => decide (x ∉ found)) by rw [hx]; exact List.mem_cons_self)
  rw [hx] at c3
  have nx : Nm x := by
    rcases List.mem_cons.mp hm.1 with rfl | h
    · exact hw
    · obtain ⟨d, hd, rfl⟩ := List.mem_map.mp h
      exact nm_seven hw hd
  have e5 : fIx (.lst (Sl (x :: r))) (.int 0) = some0 (.str x) := (ix_Sl (k := 0) rfl).2
  have l4 : (Sl found).length < 4096 := by unfold Sl; rw [List.length_map]; omega
  refine ⟨x, some (.fz, .lst (Sl (w :: az.cps.toList.map (sev w)))), ?_, nx, of_decide_eq_true hm.2⟩
  have s2 : sDrop (rApp 4 (run2 (rLc (iSeq (rVar 7)) none (tgN 10) (toT (run2 (rBor 10) (rBor 4) fNotIn)) (rVar 10) [10]) (rC (.int 0)) fIx)) (EN m pool found t (some (.fz, .str w)) (some (.ow, .lst (Sl (w :: az.cps.toList.map (sev w)))))) = .ret (.nx, EN m pool (found ++ [x]) t (some (.fz, .str w)) (some (.fz, .lst (Sl (w :: az.cps.toList.map (sev w)))))) := by
    simp only [EN] at c3
    simp only [EN, sDrop, rApp, ownL, run2, List.getElem?_cons_zero, List.getElem?_cons_succ, T.ofOpt, T.ret_bind, c3, rC, Op.fz, frc, Option.bind_some, e5, ret1, some0, mkO, valO, if_pos l4, List.set_cons_zero, List.set_cons_succ, Sl_snoc, Bool.false_eq_true, if_false]
  unfold newR sSeq
  rw [s1, T.ret_bind]
  simp only [s2, T.ret_bind]
  rfl
end Sx
set_option Elab.async false
set_option linter.all false
set_option maxRecDepth 100000
set_option maxHeartbeats 1000000
set_option autoImplicit false
namespace Sx
open PySem L2
def nturnR : RunS := (sSeq (sSet 6 (rPopI 2 (rCall f_w_take (rCons (rVar 0) (rCons (runN (rCons (rBor 2) rNil) fLen) rNil)))))
    (sSeq (sIf (toT (run2 (rCall f_w_take (rCons (rVar 0) (rCons (rC (.int 3)) rNil))) (rC (.int 0)) fEq)) wordR sNx)
    (sSeq (sIf (toT (rAnd (run2 (rBor 4) (rDisp mkL rNil) fNe) (run2 (rCall f_w_take (rCons (rVar 0) (rCons (rC (.int 8)) rNil))) (rC (.int 0)) fEq))) lastR sNx)
    newR)))
theorem nturn {m : D} {pool found : List Str} {t w o : Slot} (h0 : pool ≠ []) (hl : pool.length < 4000) (hp : ∀ x ∈ pool, Nm x) (hf : found.length < 26) (hn : ∀ x ∈ found, Nm x) :
    (nturnR (EN m pool found t w o)).wp fun r => ∃ x pool' w' o', r = (.nx, EN m pool' (found ++ [x]) t w' o') ∧ Nm x ∧ x ∉ found ∧ pool'.length + 1 = pool.length ∧ ∀ y ∈ pool', Nm y := by
  unfold nturnR
  refine wp_nx (T.wp_mono (n_pop h0 hl hp) fun r ⟨x, pool', e, nx, lp, hp'⟩ => ⟨_, e, ?_⟩)
  have fin : ∀ y, Nm y → (newR (EN m pool' found t (some (.fz, .str y)) o)).wp fun r => ∃ x pool' w' o', r = (.nx, EN m pool' (found ++ [x]) t w' o') ∧ Nm x ∧ x ∉ found ∧ pool'.length + 1 = pool.length ∧ ∀ y ∈ pool', Nm y := fun y ny => by
    obtain ⟨x, o', e, h1, h2⟩ := n_new (m := m) (pool := pool') (found := found) (t := t) (o := o) ny hf
    exact wp_eq e ⟨x, pool', _, o', rfl, h1, h2, lp, hp'⟩
  have two : ∀ y, Nm y → (sSeq (sIf (toT (rAnd (run2 (rBor 4) (rDisp mkL rNil) fNe) (run2 (rCall f_w_take (rCons (rVar 0) (rCons (rC (.int 8)) rNil))) (rC (.int 0)) fEq))) lastR sNx) newR (EN m pool' found t (some (.fz, .str y)) o)).wp fun r => ∃ x pool' w' o', r = (.nx, EN m pool' (found ++ [x]) t w' o') ∧ Nm x ∧ x ∉ found ∧ pool'.length + 1 = pool.length ∧ ∀ y ∈ pool', Nm y := fun y ny => by
    have c := coin (j := 0) (n := 8) (en := EN m pool' found t (some (.fz, .str y)) o) (by decide) rfl
    have e1 := (eq_nil_Sl found).2
    have e2 := take_lit (n := 8) (by decide)
    refine wp_nx (wp_if ?_)
    by_cases z : found = []
    · rw [decide_eq_false (not_not_intro z)] at e1
      have : toT (rAnd (run2 (rBor 4) (rDisp mkL rNil) fNe) (run2 (rCall f_w_take (rCons (rVar 0) (rCons (rC (.int 8)) rNil))) (rC (.int 0)) fEq)) (EN m pool' found t (some (.fz, .str y)) o) = .ret (false, EN m pool' found t (some (.fz, .str y)) o) := by
        simp only [EN, sSeq, sIf, sRet, sNx, sSet, sPar, sTgt, sDrop, toT, rOr, rAnd, rNot, rIf, runN, run1, run2, rCons, rNil, rBor, rVar, rMov, rC, rChn, rDisp, rCall, rSlice, oNone, oSome, ret1, frc, frcs, onlyV, valO, Op.fz, mkO, boolOf, intOf, itemsOf, iSeq, tgN, T.ret_bind, T.ofOpt, retO, putO, flOf, some0, some1, Option.bind_some, Option.map_some, List.getElem?_cons_zero, List.getElem?_cons_succ, List.set_cons_zero, List.set_cons_succ, List.length_cons, List.length_nil, mkL, mkT, small, Bool.not_true, Bool.not_false, if_true, if_false, Bool.false_eq_true, ite_true, ite_false, Nat.reduceAdd, Nat.reduceLT, Nat.reduceLeDiff, e1, Nat.zero_le]
      rw [this]
      exact ⟨_, rfl, fin y ny⟩
    · rw [decide_eq_true z] at e1
      have : toT (rAnd (run2 (rBor 4) (rDisp mkL rNil) fNe) (run2 (rCall f_w_take (rCons (rVar 0) (rCons (rC (.int 8)) rNil))) (rC (.int 0)) fEq)) (EN m pool' found t (some (.fz, .str y)) o) = .ch 8 fun i => .ret (decide ((i : Int) = 0), EN m pool' found t (some (.fz, .str y)) o) := by
        simp only [EN, sSeq, sIf, sRet, sNx, sSet, sPar, sTgt, sDrop, toT, rOr, rAnd, rNot, rIf, runN, run1, run2, rCons, rNil, rBor, rVar, rMov, rC, rChn, rDisp, rCall, rSlice, oNone, oSome, ret1, frc, frcs, onlyV, valO, Op.fz, mkO, boolOf, intOf, itemsOf, iSeq, tgN, T.ret_bind, T.ofOpt, retO, putO, flOf, some0, some1, Option.bind_some, Option.map_some, List.getElem?_cons_zero, List.getElem?_cons_succ, List.set_cons_zero, List.set_cons_succ, List.length_cons, List.length_nil, mkL, mkT, small, Bool.not_true, Bool.not_false, if_true, if_false, Bool.false_eq_true, ite_true, ite_false, Nat.reduceAdd, Nat.reduceLT, Nat.reduceLeDiff, e1, Nat.zero_le, e2, ch_bind, fEq_int]
        rfl
      rw [this]
      intro i hi
      show (if decide ((i : Int) = 0) = true then _ else _ : T (Fl × En)).wp _
      split
      · exact T.wp_mono (n_last z hn) fun r ⟨x, e, nx⟩ => ⟨_, e, fin x nx⟩
      · exact ⟨_, rfl, fin y ny⟩
  refine wp_nx (wp_if ?_)
  rw [coin (j := 0) (n := 3) (by decide) rfl]
  intro i hi
  show (if decide ((i : Int) = 0) = true then _ else _ : T (Fl × En)).wp _
  split
  · exact T.wp_mono n_word fun r ⟨x, e, nx⟩ => ⟨_, e, two x nx⟩
  · exact ⟨_, rfl, two x nx⟩
theorem wp_loop {l : Option Nat} {t : Tg} {rb : RunS} {Q : Fl × En → Prop} (I : List D → En → Prop) (hend : ∀ en, I [] en → Q (.nx, unl l en))
    (step : ∀ d ds en, I (d :: ds) en → ∃ e1, t d en = some e1 ∧ (rb e1).wp fun r => (r.1 = .nx ∧ I ds r.2) ∨ ∃ c, r.1 = .rt c ∧ Q (.rt c, r.2)) : ∀ (ds : List D) (en : En), I ds en → (sForL l t rb ds en).wp Q
  | [], en, h => hend en h
  | d :: ds, en, h => by
    obtain ⟨e1, h1, h2⟩ := step d ds en h
    rw [sForL]
    simp only [h1, T.ofOpt, T.ret_bind]
    refine (T.wp_bind _ _ _).mpr (T.wp_mono h2 fun r q => ?_)
    obtain ⟨f, e⟩ := r
    rcases q with ⟨rfl, q⟩ | ⟨c, rfl, q⟩
    · exact wp_loop I hend step ds e q
    · exact q
def nmB (s : Str) : Bool := decide (1 ≤ s.length) && decide (s.length ≤ 8) && s.cps.toList.all fun c => decide (c ∈ az.cps.toList)
theorem nmB_ok {s : Str} (h : nmB s = true) : Nm s := by
  unfold nmB at h
  simp only [Bool.and_eq_true, decide_eq_true_eq, List.all_eq_true] at h
  exact ⟨h.1.1, h.1.2, h.2⟩
def pool0 : List Str := ["a", "b", "ab", "ba", "row", "column", "one", "other", "tell", "zzzzzzzz", "x", "y", "none", "name"]
theorem pool0_ok : ∀ x ∈ pool0, Nm x := fun x hx => by
  have : pool0.all nmB = true := by decide +kernel
  exact nmB_ok (List.all_eq_true.mp this x hx)
theorem names_wp {n : Nat} (hn : n ≤ 14) : (f_w_names [.drw, .int (n : Nat)]).wp fun r => ∃ xs, r = (true, .lst (Sl xs)) ∧ xs.length = n ∧ xs.Nodup ∧ ∀ x ∈ xs, Nm x := by
  have he : en0 11 [.drw, .int (n : Nat)] = [some (.fz, .drw), some (.fz, .int (n : Nat)), none, none, none, none, none, none, none, none, none] := rfl
  have hR : r_w_names = (sSeq (sSet 2 (rDisp mkL (rCons (rC (.str "a")) (rCons (rC (.str "b")) (rCons (rC (.str "ab")) (rCons (rC (.str "ba")) (rCons (rC (.str "row")) (rCons (rC (.str "column")) (rCons (rC (.str "one")) (rCons (rC (.str "other")) (rCons (rC (.str "tell")) (rCons (rC (.str "zzzzzzzz")) (rCons (rC (.str "x")) (rCons (rC (.str "y")) (rCons (rC (.str "none")) (rCons (rC (.str "name")) rNil))))))))))))))))
    (sSeq (sPar 3 4 (rC (.str az)) (rDisp mkL rNil))
    (sSeq (sFor (iRange (rCons (rVar 1) rNil)) none (tgN 5) nturnR)
    (sSeq (sRet (rMov 4)) sNx)))) := by
    unfold r_w_names nturnR wordR lastR newR
    rfl
  unfold f_w_names
  refine wp_fn ?_
  rw [he, hR]
  have s1 : sSet 2 (rDisp mkL (rCons (rC (.str "a")) (rCons (rC (.str "b")) (rCons (rC (.str "ab")) (rCons (rC (.str "ba")) (rCons (rC (.str "row")) (rCons (rC (.str "column")) (rCons (rC (.str "one")) (rCons (rC (.str "other")) (rCons (rC (.str "tell")) (rCons (rC (.str "zzzzzzzz")) (rCons (rC (.str "x")) (rCons (rC (.str "y")) (rCons (rC (.str "none")) (rCons (rC (.str "name")) rNil))))))))))))))) [some (.fz, .drw), some (.fz, .int (n : Nat)), none, none, none, none, none, none, none, none, none] = .ret (.nx, [some (.fz, .drw), some (.fz, .int (n : Nat)), some (.ow, .lst (Sl pool0)), none, none, none, none, none, none, none, none]) := by
    rfl
  have s2 : sPar 3 4 (rC (.str az)) (rDisp mkL rNil) [some (.fz, .drw), some (.fz, .int (n : Nat)), some (.ow, .lst (Sl pool0)), none, none, none, none, none, none, none, none] = .ret (.nx, EN (.int (n : Nat)) pool0 [] none none none) := by
    rfl
  refine wp_nx (wp_eq s1 ⟨_, rfl, wp_nx (wp_eq s2 ⟨_, rfl, wp_nx ?_⟩)⟩)
  have it : iRange (rCons (rVar 1) rNil) (EN (.int (n : Nat)) pool0 [] none none none) = .ret ((List.range n).map fun k => D.int (0 + (k : Nat)), EN (.int (n : Nat)) pool0 [] none none none) := by
    have a2 : (n : Int) ≤ 4096 ∧ -4096 ≤ (n : Int) := by omega
    simp only [EN, iRange, sSeq, sIf, sRet, sNx, sSet, sPar, sTgt, sDrop, toT, rOr, rAnd, rNot, rIf, runN, run1, run2, rCons, rNil, rBor, rVar, rMov, rC, rChn, rDisp, rCall, rSlice, oNone, oSome, ret1, frc, frcs, onlyV, valO, Op.fz, mkO, boolOf, intOf, itemsOf, iSeq, tgN, T.ret_bind, T.ofOpt, retO, putO, flOf, some0, some1, Option.bind_some, Option.map_some, List.getElem?_cons_zero, List.getElem?_cons_succ, List.set_cons_zero, List.set_cons_succ, List.length_cons, List.length_nil, mkL, mkT, small, Bool.not_true, Bool.not_false, if_true, if_false, Bool.false_eq_true, ite_true, ite_false, Nat.reduceAdd, Nat.reduceLT, Nat.reduceLeDiff, if_pos a2, Int.toNat_natCast]
  unfold sFor
  rw [it, T.ret_bind]
  refine wp_loop (fun ds en => ∃ pool found t w o, en = EN (.int (n : Nat)) pool found t w o ∧ ds.length ≤ pool.length ∧ pool.length ≤ 14 ∧ (∀ x ∈ pool, Nm x) ∧ found.length + ds.length = n ∧ found.Nodup ∧ ∀ x ∈ found, Nm x) ?_ ?_ _ _ ⟨pool0, [], none, none, none, rfl, by rw [List.length_map, List.length_range]; exact hn, by decide, pool0_ok, by simp, .nil, by simp⟩
  · rintro en ⟨pool, found, t, w, o, rfl, _, _, _, hl, nd, hf⟩
    refine ⟨_, rfl, wp_seq (T.wp_mono (R := fun r => (∃ e, r = (.nx, e) ∧ (sNx e).wp fun r => ∃ c, flOf r.1 = some c ∧ ∃ xs, c = (true, .lst (Sl xs)) ∧ xs.length = n ∧ xs.Nodup ∧ ∀ x ∈ xs, Nm x) ∨ r.1 ≠ .nx ∧ ∃ c, flOf r.1 = some c ∧ ∃ xs, c = (true, .lst (Sl xs)) ∧ xs.length = n ∧ xs.Nodup ∧ ∀ x ∈ xs, Nm x) (wp_ret (wp_eq (x := (.fr (.lst (Sl found)), (EN (.int (n : Nat)) pool found t w o).set 4 none)) rfl ⟨_, rfl, .inr ⟨(by intro z; cases z), _, rfl, found, rfl, by simpa using hl, nd, hf⟩⟩)) fun _ h => h)⟩
  · rintro d ds en ⟨pool, found, t, w, o, rfl, hp, hp2, hpn, hl, nd, hf⟩
    rw [List.length_cons] at hp hl
    refine ⟨EN (.int (n : Nat)) pool found (some (.fz, d)) w o, rfl, T.wp_mono (nturn (fun z => by rw [z] at hp; simp at hp) (by omega) hpn (by omega) hf) fun r ⟨x, pool', w', o', e, nx, xn, lp, hp'⟩ => .inl ?_⟩
    rw [e]
    refine ⟨rfl, pool', found ++ [x], _, w', o', rfl, by omega, by omega, hp', by rw [List.length_append]; simp; omega, ?_, fun y hy => ?_⟩
    · exact List.nodup_append.mpr ⟨nd, by simp, fun a ha b hb e => xn (by rw [← List.mem_singleton.mp hb, ← e]; exact ha)⟩
    · rcases List.mem_append.mp hy with hy | hy
      · exact hf y hy
      · rw [List.mem_singleton] at hy; rw [hy]; exact nx
end Sx
set_option Elab.async false
set_option linter.all false
set_option maxRecDepth 100000
set_option maxHeartbeats 1000000
set_option autoImplicit false
namespace Sx
open PySem L2
/-! comprehensions that draw, by an invariant -/
end Sx
set_option Elab.async false
set_option linter.all false
set_option maxRecDepth 100000
set_option maxHeartbeats 1000000
set_option autoImplicit false
namespace Sx
open PySem L2
/-! values, rows -/
def big : Int := 10000000000000000000000000000000000000000
def IsVal (d : D) : Prop := (∃ i : Int, d = .int i ∧ -big < i ∧ i < big) ∨ ∃ s, d = .str s ∧ Nm s
theorem is_integer_int (i : Int) : f_is_integer [.int i] = .ret (false, .bl true) := by
  have e1 : fIsi [.int i, .ty "int"] = some0 (.bl true) := rfl
  have e2 : fIsi [.int i, .ty "bool"] = some0 (.bl false) := rfl
  unfold f_is_integer runFn r_is_integer
  show ((sSeq _ _) [some (.fz, .int i)]).bind _ = _
  simp only [sSeq, sIf, sRet, sNx, sSet, sPar, sTgt, sDrop, toT, rOr, rAnd, rNot, rIf, runN, run1, run2, rCons, rNil, rBor, rVar, rMov, rC, rChn, rDisp, rCall, rSlice, oNone, oSome, ret1, frc, frcs, onlyV, valO, Op.fz, mkO, boolOf, intOf, itemsOf, iSeq, tgN, T.ret_bind, T.ofOpt, retO, putO, flOf, some0, some1, Option.bind_some, Option.map_some, List.getElem?_cons_zero, List.getElem?_cons_succ, List.set_cons_zero, List.set_cons_succ, List.length_cons, List.length_nil, mkL, mkT, small, Bool.not_true, Bool.not_false, if_true, if_false, Bool.false_eq_true, ite_true, ite_false, Nat.reduceAdd, Nat.reduceLT, Nat.reduceLeDiff, e1, e2]
theorem is_integer_str (s : Str) : f_is_integer [.str s] = .ret (false, .bl false) := by
  have e1 : fIsi [.str s, .ty "int"] = some0 (.bl false) := rfl
  unfold f_is_integer runFn r_is_integer
  show ((sSeq _ _) [some (.fz, .str s)]).bind _ = _
  simp only [sSeq, sIf, sRet, sNx, sSet, sPar, sTgt, sDrop, toT, rOr, rAnd, rNot, rIf, runN, run1, run2, rCons, rNil, rBor, rVar, rMov, rC, rChn, rDisp, rCall, rSlice, oNone, oSome, ret1, frc, frcs, onlyV, valO, Op.fz, mkO, boolOf, intOf, itemsOf, iSeq, tgN, T.ret_bind, T.ofOpt, retO, putO, flOf, some0, some1, Option.bind_some, Option.map_some, List.getElem?_cons_zero, List.getElem?_cons_succ, List.set_cons_zero, List.set_cons_succ, List.length_cons, List.length_nil, mkL, mkT, small, Bool.not_true, Bool.not_false, if_true, if_false, Bool.false_eq_true, ite_true, ite_false, Nat.reduceAdd, Nat.reduceLT, Nat.reduceLeDiff, e1]
theorem is_value_ok {d : D} (h : IsVal d) : f_is_value [d] = .ret (false, .bl true) := by
  rcases h with ⟨i, rfl, h1, h2⟩ | ⟨s, rfl, hs⟩
  · have e1 : fNeg (.int 10000000000000000000000000000000000000000) = some0 (.int (-big)) := rfl
    have e2 : fLt (.int (-big)) (.int i) = some0 (.bl true) := by rw [fLt_int, decide_eq_true h1]
    have e3 : fLt (.int i) (.int 10000000000000000000000000000000000000000) = some0 (.bl true) := by rw [fLt_int]; exact congrArg (fun b => some0 (D.bl b)) (decide_eq_true h2)
    unfold f_is_value runFn r_is_value
    show ((sSeq _ _) [some (.fz, .int i)]).bind _ = _
    simp only [sSeq, sIf, sRet, sNx, sSet, sPar, sTgt, sDrop, toT, rOr, rAnd, rNot, rIf, runN, run1, run2, rCons, rNil, rBor, rVar, rMov, rC, rChn, rDisp, rCall, rSlice, oNone, oSome, ret1, frc, frcs, onlyV, valO, Op.fz, mkO, boolOf, intOf, itemsOf, iSeq, tgN, T.ret_bind, T.ofOpt, retO, putO, flOf, some0, some1, Option.bind_some, Option.map_some, List.getElem?_cons_zero, List.getElem?_cons_succ, List.set_cons_zero, List.set_cons_succ, List.length_cons, List.length_nil, mkL, mkT, small, Bool.not_true, Bool.not_false, if_true, if_false, Bool.false_eq_true, ite_true, ite_false, Nat.reduceAdd, Nat.reduceLT, Nat.reduceLeDiff, is_integer_int, e1, e2, e3]
  · unfold f_is_value runFn r_is_value
    show ((sSeq _ _) [some (.fz, .str s)]).bind _ = _
    simp only [sSeq, sIf, sRet, sNx, sSet, sPar, sTgt, sDrop, toT, rOr, rAnd, rNot, rIf, runN, run1, run2, rCons, rNil, rBor, rVar, rMov, rC, rChn, rDisp, rCall, rSlice, oNone, oSome, ret1, frc, frcs, onlyV, valO, Op.fz, mkO, boolOf, intOf, itemsOf, iSeq, tgN, T.ret_bind, T.ofOpt, retO, putO, flOf, some0, some1, Option.bind_some, Option.map_some, List.getElem?_cons_zero, List.getElem?_cons_succ, List.set_cons_zero, List.set_cons_succ, List.length_cons, List.length_nil, mkL, mkT, small, Bool.not_true, Bool.not_false, if_true, if_false, Bool.false_eq_true, ite_true, ite_false, Nat.reduceAdd, Nat.reduceLT, Nat.reduceLeDiff, is_integer_str, is_name_ok hs]
theorem is_row_ok {vs : List D} (h : ∀ v ∈ vs, IsVal v) (hl : vs.length ≤ 4096) : f_is_row [.tup vs, .int (vs.length : Nat)] = .ret (false, .bl true) := by
  have e1 : fIsi [.tup vs, .ty "tuple"] = some0 (.bl true) := rfl
  have e2 : fLen [.tup vs] = some0 (.int (vs.length : Nat)) := rfl
  have e3 : fEq (.int (vs.length : Nat)) (.int (vs.length : Nat)) = some0 (.bl true) := by rw [fEq_int]; simp
  have e5 : fAll [.lst (vs.map fun _ => .bl true)] = some0 (.bl true) := all_true _
  have c1 := lc_asked (f := f_is_value) (g := id) (k := .tup vs) (xs := vs) (j := 0) (i := 2) (en := [some (.fz, .tup vs), some (.fz, .int (vs.length : Nat)), none]) (by simp [itemsOf]) (fun x hx => is_value_ok (h x hx)) hl rfl (by simp) rfl
  unfold f_is_row runFn r_is_row
  show ((sSeq _ _) [some (.fz, .tup vs), some (.fz, .int (vs.length : Nat)), none]).bind _ = _
  simp only [sSeq, sIf, sRet, sNx, sSet, sPar, sTgt, sDrop, toT, rOr, rAnd, rNot, rIf, runN, run1, run2, rCons, rNil, rBor, rVar, rMov, rC, rChn, rDisp, rCall, rSlice, oNone, oSome, ret1, frc, frcs, onlyV, valO, Op.fz, mkO, boolOf, intOf, itemsOf, iSeq, tgN, T.ret_bind, T.ofOpt, retO, putO, flOf, some0, some1, Option.bind_some, Option.map_some, List.getElem?_cons_zero, List.getElem?_cons_succ, List.set_cons_zero, List.set_cons_succ, List.length_cons, List.length_nil, mkL, mkT, small, Bool.not_true, Bool.not_false, if_true, if_false, Bool.false_eq_true, ite_true, ite_false, Nat.reduceAdd, Nat.reduceLT, Nat.reduceLeDiff, e1, e2, e3, e5, c1]
abbrev Rows := List (Str × List D)
def rowsD (rows : Rows) : List (Key × D) := rows.map fun r => ((Sum.inr r.1 : Key), D.tup r.2)
theorem valD_rows {rows : Rows} : ∀ {r : Str × List D}, (rows.map (·.1)).Nodup → r ∈ rows → valD (rowsD rows) (.inr r.1) = some (.tup r.2) := by
  induction rows with
  | nil => intro r _ h; simp at h
  | cons q rows ih =>
    intro r nd h
    rw [List.map_cons, List.nodup_cons] at nd
    rcases List.mem_cons.mp h with rfl | h
    · simp [valD, rowsD, List.find?_cons]
    · have ne : ¬ (Sum.inr q.1 : Key) = .inr r.1 := fun e => nd.1 (List.mem_map.mpr ⟨r, h, (Sum.inr.inj e).symm⟩)
      have := ih nd.2 h
      unfold valD rowsD at this ⊢
      rw [List.map_cons, List.find?_cons, decide_eq_false ne]
      exact this
theorem fGt_int (i j : Int) : fGt (.int i) (.int j) = some0 (.bl (decide (j < i))) := by
  show some0 (.bl (PySem.W.dataLt (.int j) (.int i))) = _
  rw [PySem.W.dataLt_int]
theorem are_rows_ok {rows : Rows} {n : Nat} (hn : ∀ r ∈ rows, Nm r.1) (nd : (rows.map (·.1)).Nodup) (hl : rows.length ≤ 8) (hv : ∀ r ∈ rows, r.2.length = n ∧ ∀ v ∈ r.2, IsVal v) (h5 : n ≤ 100) : f_are_rows [.dK (rowsD rows), .int (n : Nat)] = .ret (false, .bl true) := by
  have len : (rowsD rows).length = rows.length := List.length_map ..
  have e1 : fIsi [.dK (rowsD rows), .ty "dict"] = some0 (.bl true) := rfl
  have e2 : fLenD [.dK (rowsD rows)] = some0 (.int (rows.length : Nat)) := by show some0 (.int ((rowsD rows).length : Nat)) = _; rw [len]
  have e3 : fGt (.int (rows.length : Nat)) (.int 8) = some0 (.bl false) := by rw [fGt_int, decide_eq_false (by omega)]
  have e5 : fAll [.lst (rows.map fun _ => .bl true)] = some0 (.bl true) := all_true _
  have c1 : rLkd (pthV 0) (rLc (iKy (pthV 0)) none (tgN 2) rYes (rAnd (rCall f_is_name (rCons (rVar 2) rNil)) (rCall f_is_row (rCons (run2 (rBor 0) (rBor 2) fIxD) (rCons (rVar 1) rNil)))) [2]) [some (.fz, .dK (rowsD rows)), some (.fz, .int (n : Nat)), none] = .ret (.fr (.lst (rows.map fun _ => .bl true)), [some (.fz, .dK (rowsD rows)), some (.fz, .int (n : Nat)), none]) := by
    show rLc _ _ _ _ _ _ _ = _
    refine (rLc_map (en1 := [some (.fz, .dK (rowsD rows)), some (.fz, .int (n : Nat)), none]) (g := fun r : Str × List D => D.str r.1) (xs := rows) (fun _ => true) (fun _ => .bl true) ?_ (by omega) fun r hr => ?_).trans (by rw [filter_tt]; rfl)
    · show T.ret ((rowsD rows).map fun kv => kD kv.1, _) = _
      unfold rowsD
      rw [List.map_map]
      rfl
    · obtain ⟨h1, h2⟩ := hv r hr
      have a1 := is_name_ok (hn r hr)
      have a2 := is_row_ok h2 (by omega)
      rw [h1] at a2
      have a3 : fIxD (.dK (rowsD rows)) (.str r.1) = some (false, .tup r.2) := by
        show (valD (rowsD rows) (.inr r.1)).map _ = _
        rw [valD_rows nd hr]
        rfl
      refine ⟨[some (.fz, .dK (rowsD rows)), some (.fz, .int (n : Nat)), some (.fz, .str r.1)], _, rfl, rfl, (fun z => by cases z), fun _ => ⟨.v (.bl true), [some (.fz, .dK (rowsD rows)), some (.fz, .int (n : Nat)), some (.fz, .str r.1)], ?_, rfl, rfl⟩⟩
      simp only [sSeq, sIf, sRet, sNx, sSet, sPar, sTgt, sDrop, toT, rOr, rAnd, rNot, rIf, runN, run1, run2, rCons, rNil, rBor, rVar, rMov, rC, rChn, rDisp, rCall, rSlice, oNone, oSome, ret1, frc, frcs, onlyV, valO, Op.fz, mkO, boolOf, intOf, itemsOf, iSeq, tgN, T.ret_bind, T.ofOpt, retO, putO, flOf, some0, some1, Option.bind_some, Option.map_some, List.getElem?_cons_zero, List.getElem?_cons_succ, List.set_cons_zero, List.set_cons_succ, List.length_cons, List.length_nil, mkL, mkT, small, Bool.not_true, Bool.not_false, if_true, if_false, Bool.false_eq_true, ite_true, ite_false, Nat.reduceAdd, Nat.reduceLT, Nat.reduceLeDiff, a1, a2, a3]
  unfold f_are_rows runFn r_are_rows
  show ((sSeq _ _) [some (.fz, .dK (rowsD rows)), some (.fz, .int (n : Nat)), none]).bind _ = _
  simp only [sSeq, sIf, sRet, sNx, sSet, sPar, sTgt, sDrop, toT, rOr, rAnd, rNot, rIf, runN, run1, run2, rCons, rNil, rBor, rVar, rMov, rC, rChn, rDisp, rCall, rSlice, oNone, oSome, ret1, frc, frcs, onlyV, valO, Op.fz, mkO, boolOf, intOf, itemsOf, iSeq, tgN, T.ret_bind, T.ofOpt, retO, putO, flOf, some0, some1, Option.bind_some, Option.map_some, List.getElem?_cons_zero, List.getElem?_cons_succ, List.set_cons_zero, List.set_cons_succ, List.length_cons, List.length_nil, mkL, mkT, small, Bool.not_true, Bool.not_false, if_true, if_false, Bool.false_eq_true, ite_true, ite_false, Nat.reduceAdd, Nat.reduceLT, Nat.reduceLeDiff, e1, e2, e3, e5, c1]
end Sx
set_option Elab.async false
set_option linter.all false
set_option maxRecDepth 100000
set_option maxHeartbeats 1000000
set_option autoImplicit false
namespace Sx
open PySem L2
/-! dict comprehensions whose keys are distinct -/
theorem putD_new {acc : List (Key × D)} {k : Key} {d : D} (h : k ∉ acc.map (·.1)) : putD acc k d = acc ++ [(k, d)] := by
  unfold putD
  rw [if_neg]
  intro z
  obtain ⟨kv, hm, e⟩ := List.any_eq_true.mp z
  exact h (List.mem_map.mpr ⟨kv, hm, of_decide_eq_true e⟩)
theorem keyOf_kD (k : Key) : keyOf (kD k) = some k := by cases k <;> rfl
theorem rDcL_map {α : Type} {g : α → D} {t : Tg} {rk re : Run} {vs : List Nat} {e0 : En} (kk : α → Key) (y : α → D) : ∀ (xs : List α) (acc : List (Key × D)), (acc.map (·.1) ++ xs.map kk).Nodup →
    (∀ d ∈ xs, ∃ e2 o e3 o' e4, t (g d) e0 = some e2 ∧ rk e2 = .ret (o, e3) ∧ valO o = some (kD (kk d)) ∧ re e3 = .ret (o', e4) ∧ valO o' = some (y d) ∧ wip e4 vs = e0) →
    rDcL t rYes rk re vs (xs.map g) e0 acc = .ret (acc ++ xs.map fun d => (kk d, y d), e0)
  | [], acc, _, _ => by simp [rDcL]
  | d :: ds, acc, nd, h => by
    obtain ⟨e2, o, e3, o', e4, h1, h2, h3, h4, h5, h6⟩ := h d List.mem_cons_self
    have new : kk d ∉ acc.map (·.1) := fun z => (List.nodup_append.mp nd).2.2 _ z _ (by simp) rfl
    have nd2 : ((acc ++ [(kk d, y d)]).map (·.1) ++ ds.map kk).Nodup := by simpa using nd
    have ih := rDcL_map (g := g) (t := t) (rk := rk) (re := re) (vs := vs) (e0 := e0) kk y ds (acc ++ [(kk d, y d)]) nd2 fun d hd => h d (List.mem_cons_of_mem _ hd)
    rw [List.map_cons, rDcL, h1]
    show ((rk e2).bind _) = _
    rw [h2]
    show ((T.ofOpt ((valO o).bind keyOf)).bind _) = _
    rw [h3]
    show ((T.ofOpt (keyOf (kD (kk d)))).bind _) = _
    rw [keyOf_kD]
    show ((re e3).bind _) = _
    rw [h4]
    show ((T.ofOpt (valO o')).bind _) = _
    rw [h5]
    show rDcL t rYes rk re vs (ds.map g) (wip e4 vs) (putD acc (kk d) (y d)) = _
    rw [h6, putD_new new, ih]
    simp
theorem rDc_map {α : Type} {g : α → D} {ri : RunI} {l : Option Nat} {t : Tg} {rk re : Run} {vs : List Nat} {en en1 : En} {xs : List α} (kk : α → Key) (y : α → D) (hi : ri en = .ret (xs.map g, en1)) (hl : xs.length ≤ 4096) (nd : (xs.map kk).Nodup)
    (h : ∀ d ∈ xs, ∃ e2 o e3 o' e4, t (g d) (wip en1 vs) = some e2 ∧ rk e2 = .ret (o, e3) ∧ valO o = some (kD (kk d)) ∧ re e3 = .ret (o', e4) ∧ valO o' = some (y d) ∧ wip e4 vs = wip en1 vs) :
    rDc ri l t rYes rk re vs en = .ret (.fr (.dK (xs.map fun d => (kk d, y d))), unl l (back (wip en1 vs) en1 vs)) := by
  unfold rDc
  rw [hi]
  show (if (xs.map g).length ≤ 4096 then _ else _) = _
  rw [if_pos (by rw [List.length_map]; exact hl), rDcL_map kk y xs [] (by simpa using nd) h]
  rfl
/-! the names of a table -/
theorem are_names_15 {k : D} {xs : List Str} (hk : k = .lst (Sl xs) ∨ k = .tup (Sl xs)) (h : ∀ x ∈ xs, Nm x) (nd : xs.Nodup) (h1 : 1 ≤ xs.length) (hl : xs.length ≤ 5) : f_are_names [k, .int 1, .int 5] = .ret (false, .bl true) := by
  have hk' : itemsOf (some k) = some (Sl xs) := by rcases hk with rfl | rfl <;> rfl
  have len : (Sl xs).length = xs.length := List.length_map ..
  have e1 : fIsi [k, .tup [.ty "list", .ty "tuple"]] = some0 (.bl true) := by rcases hk with rfl | rfl <;> rfl
  have e2 : fLen [k] = some0 (.int xs.length) := by rcases hk with rfl | rfl <;> (show some0 (.int ((Sl xs).length : Nat)) = _; rw [len])
  have e3 : fLe (.int 1) (.int xs.length) = some0 (.bl true) := by rw [fLe_int, decide_eq_true (by omega)]
  have e4 : fLe (.int xs.length) (.int 5) = some0 (.bl true) := by rw [fLe_int, decide_eq_true (by omega)]
  have e5 : fAll [.lst (xs.map fun _ => .bl true)] = some0 (.bl true) := all_true _
  have e6 : fLenS k = some0 (.int xs.length) := by
    rcases hk with rfl | rfl <;> (unfold fLenS; simp only [strsOf_Sl, Option.bind_some, if_pos (show xs.length < 4000 by omega), mets_nodup nd]; rfl)
  have e7 : fEq (.int xs.length) (.int xs.length) = some0 (.bl true) := by rw [fEq_pd (.int _ 0) (.int _ 0) (by decide)]; simp
  have c1 := lc_names (i := 3) (en := [some (.fz, k), some (.fz, .int 1), some (.fz, .int 5), none]) hk' h (by omega) rfl (by simp) (by decide) rfl
  unfold f_are_names runFn r_are_names
  show ((sSeq _ _) [some (.fz, k), some (.fz, .int 1), some (.fz, .int 5), none]).bind _ = _
  simp only [sSeq, sIf, sRet, sNx, sSet, sPar, sTgt, sDrop, toT, rOr, rAnd, rNot, rIf, runN, run1, run2, rCons, rNil, rBor, rVar, rMov, rC, rChn, rDisp, rCall, rSlice, oNone, oSome, ret1, frc, frcs, onlyV, valO, Op.fz, mkO, boolOf, intOf, itemsOf, iSeq, tgN, T.ret_bind, T.ofOpt, retO, putO, flOf, some0, some1, Option.bind_some, Option.map_some, List.getElem?_cons_zero, List.getElem?_cons_succ, List.set_cons_zero, List.set_cons_succ, List.length_cons, List.length_nil, mkL, mkT, small, Bool.not_true, Bool.not_false, if_true, if_false, Bool.false_eq_true, ite_true, ite_false, Nat.reduceAdd, Nat.reduceLT, Nat.reduceLeDiff, e1, e2, e3, e4, e5, e6, e7, c1]
/-! the table of two rows -/
def plcD (cols : List Str) : List (Key × D) := cols.zipIdx.map fun p => ((Sum.inr p.1 : Key), D.int (p.2 : Nat))
def tabD (cols : List Str) (rows : Rows) : D := .obj 0 [("own_columns", .tup (Sl cols)), ("own_rows", .dK (rowsD rows)), ("places", .dK (plcD cols))]
theorem enum_Sl (cols : List Str) : enumD (Sl cols) = cols.zipIdx.map fun p => D.tup [.int (p.2 : Nat), .str p.1] := by
  unfold enumD Sl
  rw [List.zipIdx_map, List.map_map]
  rfl
theorem zip_fst (cols : List Str) (n : Nat) : (cols.zipIdx n).map (·.1) = cols := by
  induction cols generalizing n with
  | nil => rfl
  | cons c cols ih => rw [List.zipIdx_cons, List.map_cons, ih]
end Sx
set_option Elab.async false
set_option linter.all false
set_option maxRecDepth 100000
set_option maxHeartbeats 1000000
set_option autoImplicit false
namespace Sx
open PySem L2
/-! what a table answers -/
theorem fld_cols (cols : List Str) (rows : Rows) : fFld 0 "own_columns" (tabD cols rows) = some0 (.tup (Sl cols)) := rfl
theorem fld_rows (cols : List Str) (rows : Rows) : fFld 0 "own_rows" (tabD cols rows) = some0 (.dK (rowsD rows)) := rfl
end Sx
set_option Elab.async false
set_option linter.all false
set_option maxRecDepth 100000
set_option maxHeartbeats 1000000
set_option autoImplicit false
namespace Sx
open PySem L2
/-! drawn classes -/
theorem intsD_map (ns : List Int) : intsD (ns.map D.int) = some ns := by
  induction ns with
  | nil => rfl
  | cons n ns ih => show (intsD (ns.map D.int)).map _ = _; rw [ih]; rfl
theorem maxI_some : ∀ {ns : List Int}, ns ≠ [] → ∃ m, maxI ns = some m
  | [], h => absurd rfl h
  | [i], _ => ⟨i, rfl⟩
  | i :: j :: r, _ => by
    obtain ⟨m, hm⟩ := maxI_some (ns := j :: r) (by simp)
    exact ⟨_, by show (maxI (j :: r)).map _ = _; rw [hm]; rfl⟩
def natD (ns : List Nat) : List D := ns.map fun n => D.int (n : Nat)
theorem natsOf_natD (ns : List Nat) : natsOf (natD ns) = some ns := by
  induction ns with
  | nil => rfl
  | cons n ns ih =>
    show (if (0 : Int) ≤ (n : Nat) then (natsOf (natD ns)).map fun r => (Int.toNat (n : Nat)) :: r else none) = _
    rw [if_pos (by omega), ih]
    rfl
abbrev EK (h : D) (ns : List Nat) (t : Slot) : En := [some (.fz, .drw), some (.fz, h), some (.ow, .lst (natD ns)), t]
def kturnR : RunS := (sSeq (sDrop (rApp 2 (rCall f_w_take (rCons (rVar 0) (rCons (run2 (runN (rCons (run2 (rBor 2) (rDisp mkL (rCons (run1 (rC (.int 1)) fNeg) rNil)) fAdd) rNil) fMaxL) (rC (.int 2)) fAdd) rNil)))))
    sNx)
theorem kturn {h : D} {ns : List Nat} {t : Slot} (hl : ns.length < 1000) (hn : ∀ n ∈ ns, n < ns.length) :
    (kturnR (EK h ns t)).wp fun r => ∃ j, r = (.nx, EK h (ns ++ [j]) t) ∧ j ≤ ns.length := by
  have e1 : fNeg (.int 1) = some0 (.int (-1)) := rfl
  have le : (natD ns).length = ns.length := List.length_map ..
  have e2 : fAdd (.lst (natD ns)) (.lst [.int (-1)]) = some1 (.lst ((ns.map (fun n : Nat => (n : Int)) ++ [-1]).map D.int)) := by
    show (if (natD ns).length + 1 ≤ 4096 then some1 (.lst (natD ns ++ [.int (-1)])) else none) = _
    rw [if_pos (by omega), List.map_append, List.map_map]
    rfl
  obtain ⟨m, hm⟩ := maxI_some (ns := ns.map (fun n : Nat => (n : Int)) ++ [-1]) (by simp)
  obtain ⟨m1, m2⟩ := maxI_ok hm
  have lo : -1 ≤ m := m2 _ (by simp)
  have hi : m < ns.length := by
    rcases List.mem_append.mp m1 with h | h
    · obtain ⟨n, h', e'⟩ := List.mem_map.mp h
      have := hn n h'
      omega
    · rw [List.mem_singleton] at h
      omega
  have e3 : fMaxL [.lst ((ns.map (fun n : Nat => (n : Int)) ++ [-1]).map D.int)] = some0 (.int m) := by
    show (intsD _).bind _ = _
    rw [intsD_map]
    show (maxI _).bind _ = _
    rw [hm]
    rfl
  have e4 : fAdd (.int m) (.int 2) = some0 (.int (m + 2)) := rfl
  have e5 := take_lit (n := m + 2) (by omega)
  have l4 : (natD ns).length < 4096 := by omega
  unfold kturnR
  simp only [EK, sSeq, sIf, sRet, sNx, sSet, sPar, sTgt, sDrop, toT, rOr, rAnd, rNot, rIf, runN, run1, run2, rCons, rNil, rBor, rVar, rMov, rC, rChn, rDisp, rCall, rSlice, oNone, oSome, ret1, frc, frcs, onlyV, valO, Op.fz, mkO, boolOf, intOf, itemsOf, iSeq, tgN, T.ret_bind, T.ofOpt, retO, putO, flOf, some0, some1, Option.bind_some, Option.map_some, List.getElem?_cons_zero, List.getElem?_cons_succ, List.set_cons_zero, List.set_cons_succ, List.length_cons, List.length_nil, mkL, mkT, small, Bool.not_true, Bool.not_false, if_true, if_false, Bool.false_eq_true, ite_true, ite_false, Nat.reduceAdd, Nat.reduceLT, Nat.reduceLeDiff, rApp, ownL, e1, e2, e3, e4, e5, ch_bind, if_pos l4]
  intro i hi2
  refine ⟨i, ?_, by omega⟩
  show (Fl.nx, _) = _
  unfold natD
  rw [List.map_append]
  rfl
theorem classes_wp {n : Nat} (hn : n ≤ 100) : (f_w_classes [.drw, .int (n : Nat)]).wp fun r => ∃ ns : List Nat, r = (true, .lst (natD ns)) ∧ ns.length = n ∧ ∀ k ∈ ns, k < n := by
  have he : en0 4 [.drw, .int (n : Nat)] = [some (.fz, .drw), some (.fz, .int (n : Nat)), none, none] := rfl
  have hR : r_w_classes = (sSeq (sSet 2 (rDisp mkL rNil)) (sSeq (sFor (iRange (rCons (rVar 1) rNil)) none (tgN 3) kturnR) (sSeq (sRet (rMov 2)) sNx))) := by
    unfold r_w_classes kturnR
    rfl
  unfold f_w_classes
  refine wp_fn ?_
  rw [he, hR]
  have kt := @kturn
  generalize kturnR = R at kt ⊢
  have s1 : sSet 2 (rDisp mkL rNil) [some (.fz, .drw), some (.fz, .int (n : Nat)), none, none] = .ret (.nx, EK (.int (n : Nat)) [] none) := rfl
  refine wp_nx (wp_eq s1 ⟨_, rfl, wp_nx ?_⟩)
  have it : iRange (rCons (rVar 1) rNil) (EK (.int (n : Nat)) [] none) = .ret ((List.range n).map fun k => D.int (0 + (k : Nat)), EK (.int (n : Nat)) [] none) := by
    have a2 : (n : Int) ≤ 4096 ∧ -4096 ≤ (n : Int) := by omega
    simp only [EK, iRange, sSeq, sIf, sRet, sNx, sSet, sPar, sTgt, sDrop, toT, rOr, rAnd, rNot, rIf, runN, run1, run2, rCons, rNil, rBor, rVar, rMov, rC, rChn, rDisp, rCall, rSlice, oNone, oSome, ret1, frc, frcs, onlyV, valO, Op.fz, mkO, boolOf, intOf, itemsOf, iSeq, tgN, T.ret_bind, T.ofOpt, retO, putO, flOf, some0, some1, Option.bind_some, Option.map_some, List.getElem?_cons_zero, List.getElem?_cons_succ, List.set_cons_zero, List.set_cons_succ, List.length_cons, List.length_nil, mkL, mkT, small, Bool.not_true, Bool.not_false, if_true, if_false, Bool.false_eq_true, ite_true, ite_false, Nat.reduceAdd, Nat.reduceLT, Nat.reduceLeDiff, if_pos a2, Int.toNat_natCast]
  unfold sFor
  rw [it, T.ret_bind]
  refine wp_loop (fun ds en => ∃ ns t, en = EK (.int (n : Nat)) ns t ∧ ns.length + ds.length = n ∧ ∀ k ∈ ns, k < ns.length) ?_ ?_ _ _ ⟨[], none, rfl, by simp, by simp⟩
  · rintro en ⟨ns, t, rfl, hl, hk⟩
    refine ⟨_, rfl, ?_⟩
    have hl : ns.length = n := by simpa using hl
    refine wp_eq (x := (.rt (true, .lst (natD ns)), (EK (.int (n : Nat)) ns t).set 2 none)) rfl ⟨_, rfl, ns, rfl, hl, fun k h => by rw [← hl]; exact hk k h⟩
  · rintro d ds en ⟨ns, t, rfl, hl, hk⟩
    rw [List.length_cons] at hl
    refine ⟨EK (.int (n : Nat)) ns (some (.fz, d)), rfl, T.wp_mono (kt (by omega) hk) fun r ⟨j, e, hj⟩ => .inl ?_⟩
    rw [e]
    refine ⟨rfl, ns ++ [j], _, rfl, by rw [List.length_append]; simp; omega, fun k h => ?_⟩
    rw [List.length_append, List.length_singleton]
    rcases List.mem_append.mp h with h | h
    · have := hk k h; omega
    · rw [List.mem_singleton] at h; omega
/-! mixed -/
abbrev EM (some' : D) (l f : List D) : En := [some (.fz, .drw), some (.fz, some'), some (.ow, .lst l), some (.ow, .lst f)]
def mturnR : RunS := (sSeq (sDrop (rApp 3 (rPopI 2 (rCall f_w_take (rCons (rVar 0) (rCons (runN (rCons (rBor 2) rNil) fLen) rNil))))))
    sNx)
theorem mturn {s : D} {l f : List D} (h0 : l ≠ []) (hl : l.length + f.length < 1000) :
    (mturnR (EM s l f)).wp fun r => ∃ l' y, r = (.nx, EM s l' (f ++ [y])) ∧ (y :: l').Perm l := by
  have e1 : fLen [.lst l] = some0 (.int (l.length : Nat)) := rfl
  have e2 := take_run (n := l.length) (List.length_pos_iff.mpr h0) (by omega)
  have l4 : f.length < 4096 := by omega
  unfold mturnR
  simp only [EM, sSeq, sIf, sRet, sNx, sSet, sPar, sTgt, sDrop, toT, rOr, rAnd, rNot, rIf, runN, run1, run2, rCons, rNil, rBor, rVar, rMov, rC, rChn, rDisp, rCall, rSlice, oNone, oSome, ret1, frc, frcs, onlyV, valO, Op.fz, mkO, boolOf, intOf, itemsOf, iSeq, tgN, T.ret_bind, T.ofOpt, retO, putO, flOf, some0, some1, Option.bind_some, Option.map_some, List.getElem?_cons_zero, List.getElem?_cons_succ, List.set_cons_zero, List.set_cons_succ, List.length_cons, List.length_nil, mkL, mkT, small, Bool.not_true, Bool.not_false, if_true, if_false, Bool.false_eq_true, ite_true, ite_false, Nat.reduceAdd, Nat.reduceLT, Nat.reduceLeDiff, rApp, rPopI, ownL, e1, e2, ch_bind]
  intro i hi
  obtain ⟨y, hy⟩ : ∃ y, l[i]? = some y := ⟨_, List.getElem?_eq_getElem hi⟩
  have hc : (0 : Int) ≤ (i : Nat) ∧ ((i : Nat) : Int) < 4096 := by omega
  simp only [sSeq, sIf, sRet, sNx, sSet, sPar, sTgt, sDrop, toT, rOr, rAnd, rNot, rIf, runN, run1, run2, rCons, rNil, rBor, rVar, rMov, rC, rChn, rDisp, rCall, rSlice, oNone, oSome, ret1, frc, frcs, onlyV, valO, Op.fz, mkO, boolOf, intOf, itemsOf, iSeq, tgN, T.ret_bind, T.ofOpt, retO, putO, flOf, some0, some1, Option.bind_some, Option.map_some, List.getElem?_cons_zero, List.getElem?_cons_succ, List.set_cons_zero, List.set_cons_succ, List.length_cons, List.length_nil, mkL, mkT, small, Bool.not_true, Bool.not_false, if_true, if_false, Bool.false_eq_true, ite_true, ite_false, Nat.reduceAdd, Nat.reduceLT, Nat.reduceLeDiff, if_pos hc, Int.toNat_natCast, hy, ownL, if_pos l4]
  exact ⟨l.eraseIdx i, y, rfl, erase_perm hy⟩
theorem wp_while {c : RunT} {b : RunS} {Q : Fl × En → Prop} (I : En → Prop) (μ : En → Nat) (hend : ∀ en, I en → (c en).wp fun r => if r.1 then (b r.2).wp fun q => q.1 = .nx ∧ I q.2 ∧ μ q.2 < μ en else Q (.nx, r.2)) : ∀ (n : Nat) (en : En), I en → μ en < n → (sWhile c b n en).wp Q
  | 0, en, _, hn => absurd hn (Nat.not_lt_zero _)
  | n + 1, en, hi, hn => by
    have h := hend en hi
    unfold sWhile
    refine (T.wp_bind _ _ _).mpr (T.wp_mono h fun r q => ?_)
    obtain ⟨t, e⟩ := r
    cases t with
    | false => exact q
    | true =>
      have q : (b e).wp _ := q
      refine (T.wp_bind _ _ _).mpr (T.wp_mono q fun r ⟨h1, h2, h3⟩ => ?_)
      obtain ⟨f, e2⟩ := r
      cases h1
      have h3 : μ e2 < μ en := h3
      exact wp_while I μ hend n e2 h2 (by omega)
theorem nil_not (l : List D) : fNilG not (.lst l) (.lst []) = some0 (.bl (decide (l ≠ []))) := by cases l <;> rfl
theorem mixed_wp {xs : List D} (hl : xs.length < 200) : (f_w_mixed [.drw, .lst xs]).wp fun r => ∃ ys, r = (true, .lst ys) ∧ ys.Perm xs := by
  have he : en0 4 [.drw, .lst xs] = [some (.fz, .drw), some (.fz, .lst xs), none, none] := rfl
  have hR : r_w_mixed = (sSeq (sPar 2 3 (runN (rCons (rBor 1) rNil) fList) (rDisp mkL rNil)) (sSeq (sWhile (toT (run2 (rBor 2) (rDisp mkL rNil) (fNilG not))) mturnR 200) (sSeq (sRet (rMov 3)) sNx))) := by
    unfold r_w_mixed mturnR
    rfl
  unfold f_w_mixed
  refine wp_fn ?_
  rw [he, hR]
  have mt := @mturn
  generalize mturnR = R at mt ⊢
  have e1 : fList [.lst xs] = some1 (.lst xs) := rfl
  have s1 : sPar 2 3 (runN (rCons (rBor 1) rNil) fList) (rDisp mkL rNil) [some (.fz, .drw), some (.fz, .lst xs), none, none] = .ret (.nx, EM (.lst xs) xs []) := rfl
  refine wp_nx (wp_eq s1 ⟨_, rfl, wp_nx ?_⟩)
  refine wp_while (fun en => ∃ l f, en = EM (.lst xs) l f ∧ (l ++ f).Perm xs) (fun en => match en with | [_, _, some (_, .lst l), _] => l.length | _ => 0) ?_ 200 _ ⟨xs, [], rfl, by rw [List.append_nil]⟩ hl
  rintro en ⟨l, f, rfl, hperm⟩
  have ct : toT (run2 (rBor 2) (rDisp mkL rNil) (fNilG not)) (EM (.lst xs) l f) = .ret (decide (l ≠ []), EM (.lst xs) l f) := by
    have e := nil_not l
    simp only [EM, sSeq, sIf, sRet, sNx, sSet, sPar, sTgt, sDrop, toT, rOr, rAnd, rNot, rIf, runN, run1, run2, rCons, rNil, rBor, rVar, rMov, rC, rChn, rDisp, rCall, rSlice, oNone, oSome, ret1, frc, frcs, onlyV, valO, Op.fz, mkO, boolOf, intOf, itemsOf, iSeq, tgN, T.ret_bind, T.ofOpt, retO, putO, flOf, some0, some1, Option.bind_some, Option.map_some, List.getElem?_cons_zero, List.getElem?_cons_succ, List.set_cons_zero, List.set_cons_succ, List.length_cons, List.length_nil, mkL, mkT, small, Bool.not_true, Bool.not_false, if_true, if_false, Bool.false_eq_true, ite_true, ite_false, Nat.reduceAdd, Nat.reduceLT, Nat.reduceLeDiff, e, Nat.zero_le]
  refine wp_eq ct ?_
  have len : l.length + f.length = xs.length := by rw [← List.length_append]; exact hperm.length_eq
  by_cases h0 : l = []
  · rw [decide_eq_false (not_not_intro h0)]
    subst h0
    show ∃ e, _ ∧ _
    refine ⟨_, rfl, ?_⟩
    exact wp_eq (x := (.rt (true, .lst f), (EM (.lst xs) [] f).set 3 none)) rfl ⟨_, rfl, f, rfl, hperm⟩
  · rw [decide_eq_true h0]
    refine T.wp_mono (mt (s := .lst xs) (l := l) (f := f) h0 (by omega)) fun r ⟨l', y, e, p⟩ => ?_
    rw [e]
    refine ⟨rfl, ⟨l', f ++ [y], rfl, ?_⟩, ?_⟩
    · have p1 : (l' ++ (f ++ [y])).Perm (y :: l' ++ f) := by
        rw [← List.append_assoc, List.cons_append]
        exact List.perm_append_comm
      exact p1.trans ((p.append_right f).trans hperm)
    · show l'.length < l.length
      have := p.length_eq
      rw [List.length_cons] at this
      omega
def codeL : List D := [.int 0, .int 1, .int 2, .int (-1), .int (10 ^ 39), .int (-(10 ^ 39)), .int (10 ^ 39 + 1), .str "a", .str "b", .str "zz", .str "abcdefgh", .str "abcdefgi", .int 7, .str "x"]
theorem codeL_val : ∀ d ∈ codeL, IsVal d := by
  have i : ∀ {k : Int}, -big < k ∧ k < big → IsVal (.int k) := fun h => .inl ⟨_, rfl, h.1, h.2⟩
  have s : ∀ {x : Str}, nmB x = true → IsVal (.str x) := fun h => .inr ⟨_, rfl, nmB_ok h⟩
  intro d hd
  unfold codeL at hd
  simp only [List.mem_cons, List.not_mem_nil, or_false] at hd
  rcases hd with rfl | rfl | rfl | rfl | rfl | rfl | rfl | rfl | rfl | rfl | rfl | rfl | rfl | rfl
  all_goals first | exact i (by unfold big; decide) | exact s (by decide +kernel)
theorem val_pd {d : D} (h : IsVal d) : Pd 3 d := by
  rcases h with ⟨i, rfl, _, _⟩ | ⟨s, rfl, _⟩
  · exact .int _ _
  · exact .str _ _
theorem pow39 : fPow (.int 10) (.int 39) = some0 (.int (10 ^ 39)) := by
  show (if decide ((0 : Int) ≤ 39 ∧ (39 : Int) ≤ 1000 ∧ (10 : Int).natAbs < 2 ^ 60) = true then some0 (D.int ((10 : Int) ^ (39 : Int).toNat)) else none) = _
  rw [if_pos (by decide)]
  have : (39 : Int).toNat = 39 := rfl
  rw [this]
theorem neg_int (i : Int) : fNeg (.int i) = some0 (.int (-i)) := rfl
theorem add_int (i j : Int) : fAdd (.int i) (.int j) = some0 (.int (i + j)) := rfl
@[irreducible] def codeSetR : RunS := sSet 2 (rDisp mkL (rCons (rC (.int 0)) (rCons (rC (.int 1)) (rCons (rC (.int 2)) (rCons (run1 (rC (.int 1)) fNeg) (rCons (run2 (rC (.int 10)) (rC (.int 39)) fPow) (rCons (run1 (run2 (rC (.int 10)) (rC (.int 39)) fPow) fNeg) (rCons (run2 (run2 (rC (.int 10)) (rC (.int 39)) fPow) (rC (.int 1)) fAdd) (rCons (rC (.str "a")) (rCons (rC (.str "b")) (rCons (rC (.str "zz")) (rCons (rC (.str "abcdefgh")) (rCons (rC (.str "abcdefgi")) (rCons (rC (.int 7)) (rCons (rC (.str "x")) rNil)))))))))))))))
theorem code_set {m : Slot} : codeSetR [some (.fz, .drw), m, none] = .ret (.nx, [some (.fz, .drw), m, some (.ow, .lst codeL)]) := by
  unfold codeSetR
  generalize hP : fPow = P
  have pw := pow39
  rw [hP] at pw
  simp only [sSeq, sIf, sRet, sNx, sSet, sPar, sTgt, sDrop, toT, rOr, rAnd, rNot, rIf, runN, run1, run2, rCons, rNil, rBor, rVar, rMov, rC, rChn, rDisp, rCall, rSlice, oNone, oSome, ret1, frc, frcs, onlyV, valO, Op.fz, mkO, boolOf, intOf, itemsOf, iSeq, tgN, T.ret_bind, T.ofOpt, retO, putO, flOf, some0, some1, Option.bind_some, Option.map_some, List.getElem?_cons_zero, List.getElem?_cons_succ, List.set_cons_zero, List.set_cons_succ, List.length_cons, List.length_nil, mkL, mkT, small, Bool.not_true, Bool.not_false, if_true, if_false, Bool.false_eq_true, ite_true, ite_false, Nat.reduceAdd, Nat.reduceLT, Nat.reduceLeDiff, pw, neg_int, add_int]
  rfl
def IsVal2 (d : D) : Prop := IsVal d ∧ d ∈ codeL
theorem codeL_val2 : ∀ d ∈ codeL, IsVal2 d := fun d h => ⟨codeL_val d h, h⟩
theorem code_wp {n : Nat} (hn : n ≤ 14) : (f_w_code [.drw, .int (n : Nat)]).wp fun r => ∃ ys, r = (true, .lst ys) ∧ ys.length = n ∧ ∀ d ∈ ys, IsVal2 d := by
  have he : en0 3 [.drw, .int (n : Nat)] = [some (.fz, .drw), some (.fz, .int (n : Nat)), none] := rfl
  unfold f_w_code
  refine wp_fn ?_
  rw [he]
  have hR : r_w_code = sSeq codeSetR (sSeq (sRet (rSlice (rCall f_w_mixed (rCons (rVar 0) (rCons (rVar 2) rNil))) oNone (oSome (rVar 1)))) sNx) := by
    unfold r_w_code codeSetR
    rfl
  rw [hR]
  have cs := @code_set
  generalize codeSetR = CS at cs ⊢
  refine wp_nx (wp_eq cs ⟨_, rfl, ?_⟩)
  have mw := mixed_wp (xs := codeL) (by decide)
  have cv := codeL_val2
  have cl : codeL.length = 14 := rfl
  generalize codeL = L at mw cv cl ⊢
  generalize f_w_mixed = F at mw ⊢
  unfold sSeq sRet rSlice rCall
  refine (T.wp_bind _ _ _).mpr ((T.wp_bind _ _ _).mpr ((T.wp_bind _ _ _).mpr ((T.wp_bind _ _ _).mpr (wp_eq (x := ([.v .drw, .v (.lst L)], [some (.fz, .drw), some (.fz, .int (n : Nat)), some (.fz, .lst L)])) rfl ?_))))
  show (((F [.drw, .lst L]).bind _).wp _)
  refine (T.wp_bind _ _ _).mpr (T.wp_mono mw fun r ⟨ys, e, p⟩ => ?_)
  rw [e]
  have e3 : fSl (.lst ys) none (some (n : Int)) = some1 (.lst (ys.take n)) := by
    show some1 (.lst (cutD ys none (some (n : Int)))) = _
    rw [cutN]
  simp only [sSeq, sIf, sRet, sNx, sSet, sPar, sTgt, sDrop, toT, rOr, rAnd, rNot, rIf, runN, run1, run2, rCons, rNil, rBor, rVar, rMov, rC, rChn, rDisp, rCall, rSlice, oNone, oSome, ret1, frc, frcs, onlyV, valO, Op.fz, mkO, boolOf, intOf, itemsOf, iSeq, tgN, T.ret_bind, T.ofOpt, retO, putO, flOf, some0, some1, Option.bind_some, Option.map_some, List.getElem?_cons_zero, List.getElem?_cons_succ, List.set_cons_zero, List.set_cons_succ, List.length_cons, List.length_nil, mkL, mkT, small, Bool.not_true, Bool.not_false, if_true, if_false, Bool.false_eq_true, ite_true, ite_false, Nat.reduceAdd, Nat.reduceLT, Nat.reduceLeDiff, e3]
  have ly := p.length_eq
  refine ⟨_, rfl, ys.take n, ?_, by rw [List.length_take]; omega, fun d hd => cv d (p.mem_iff.mp (List.mem_of_mem_take hd))⟩
  show (true, D.lst (cutD ys none (some (n : Int)))) = _
  rw [cutN]
end Sx
set_option Elab.async false
set_option linter.all false
set_option maxRecDepth 100000
set_option maxHeartbeats 1000000
set_option autoImplicit false
namespace Sx
open PySem L2
/-! the drawn model -/
def mdl (names cols : List Str) (v : Str → Str → D) : Mdl := names.map fun x => (x, cols.map fun c => ((Sum.inr c : Key), v x c))
theorem as_fun {names : List Str} : ∀ {ds : List D}, names.Nodup → ds.length = names.length → ∃ g : Str → D, names.map g = ds := by
  induction names with
  | nil => intro ds _ h; exact ⟨fun _ => .non, by rw [List.map_nil]; exact (List.length_eq_zero_iff.mp h).symm⟩
  | cons x names ih =>
    intro ds nd h
    cases ds with
    | nil => cases h
    | cons d ds =>
      rw [List.nodup_cons] at nd
      obtain ⟨g, hg⟩ := ih (ds := ds) nd.2 (by simpa using h)
      refine ⟨fun y => if y = x then d else g y, ?_⟩
      rw [List.map_cons, if_pos rfl]
      congr 1
      rw [← hg]
      exact List.map_congr_left fun y hy => if_neg fun (e : y = x) => nd.1 (by rw [← e]; exact hy)
theorem fill_mdl {names done : List Str} {c : Str} {v : Str → Str → D} {g : Str → D} (hc : c ∉ done) : fillM (.inr c) (mdl names done v) (names.map g) = mdl names (done ++ [c]) (fun x k => if k = c then g x else v x k) := by
  unfold fillM mdl
  rw [List.zipWith_map, List.zipWith_self]
  refine List.map_congr_left fun x _ => ?_
  show (x, putD (done.map fun k => ((Sum.inr k : Key), v x k)) (.inr c) (g x)) = _
  rw [putD_new, List.map_append]
  · congr 2
    · refine List.map_congr_left fun k hk => ?_
      show (_, v x k) = (_, if k = c then g x else v x k)
      rw [if_neg fun e => hc (by rw [← e]; exact hk)]
    · show [(Sum.inr c, g x)] = [(Sum.inr c, if c = c then g x else v x c)]
      rw [if_pos rfl]
  · intro z
    rw [List.map_map] at z
    obtain ⟨k, hk, e⟩ := List.mem_map.mp z
    exact hc (by rw [← Sum.inr.inj e]; exact hk)
theorem pickD_ok {code : List D} : ∀ {ns : List Nat}, (∀ n ∈ ns, n < code.length) → ∃ ds, pickD code ns = some ds ∧ ds.length = ns.length ∧ ∀ d ∈ ds, d ∈ code
  | [], _ => ⟨[], rfl, rfl, by simp⟩
  | n :: ns, h => by
    obtain ⟨ds, e, l, m⟩ := pickD_ok (ns := ns) fun k hk => h k (List.mem_cons_of_mem _ hk)
    have hn := h n List.mem_cons_self
    refine ⟨code[n] :: ds, ?_, by simp [l], fun d hd => (List.mem_cons.mp hd).elim (fun e => by rw [e]; exact List.getElem_mem hn) (m d)⟩
    show (code[n]?).bind _ = _
    rw [List.getElem?_eq_getElem hn]
    show (pickD code ns).map _ = _
    rw [e]
    rfl
theorem modelT_wp {names : List Str} (nd : names.Nodup) (hl : names.length ≤ 14) : ∀ (cols done : List Str) (v : Str → Str → D), (done ++ cols).Nodup → (∀ x ∈ names, ∀ c ∈ done, IsVal2 (v x c)) → done.length + cols.length ≤ 1000 →
    (modelT f_w_classes f_w_code (names.length : Nat) cols (mdl names done v)).wp fun m => ∃ v' : Str → Str → D, (∀ x ∈ names, ∀ c ∈ done ++ cols, IsVal2 (v' x c)) ∧ m = mdl names (done ++ cols) v'
  | [], done, v, _, hv, _ => ⟨v, by rw [List.append_nil]; exact hv, by rw [List.append_nil]⟩
  | c :: cols, done, v, hn, hv, hs => by
    unfold modelT
    refine (T.wp_bind _ _ _).mpr (T.wp_mono (classes_wp (n := names.length) (by omega)) fun r ⟨ns, e, ln, hk⟩ => ?_)
    rw [e]
    refine (T.wp_bind _ _ _).mpr (T.wp_mono (code_wp (n := names.length) hl) fun r ⟨ys, e2, ly, hy⟩ => ?_)
    rw [e2]
    obtain ⟨ds, hd, ld, hm⟩ := pickD_ok (code := ys) (ns := ns) fun k h => by rw [ly]; exact hk k h
    obtain ⟨g, hg⟩ := as_fun (ds := ds) nd (by omega)
    have hc : c ∉ done := fun z => (List.nodup_append.mp hn).2.2 _ z _ List.mem_cons_self rfl
    have e3 : turnM c (mdl names done v) (.lst (natD ns)) (.lst ys) = some (mdl names (done ++ [c]) fun x k => if k = c then g x else v x k) := by
      show (natsOf (natD ns)).bind _ = _
      rw [natsOf_natD]
      show (pickD ys ns).bind _ = _
      rw [hd]
      show (if _ ∧ _ then _ else _) = _
      rw [if_pos, ← hg, fill_mdl hc]
      refine ⟨by rw [ld, ln]; unfold mdl; rw [List.length_map], List.all_eq_true.mpr fun z hz => ?_⟩
      obtain ⟨x, _, rfl⟩ := List.mem_map.mp hz
      refine decide_eq_true ?_
      show (done.map _).length ≤ 1000
      rw [List.length_map]
      omega
    show ((T.ofOpt (turnM c (mdl names done v) (.lst (natD ns)) (.lst ys))).bind _).wp _
    rw [e3]
    have ih := modelT_wp nd hl cols (done ++ [c]) (fun x k => if k = c then g x else v x k) (by simpa using hn) (fun x hx k hk => by
      show IsVal2 (if k = c then g x else v x k)
      by_cases q : k = c
      · rw [if_pos q]
        exact hy _ (hm _ (by rw [← hg]; exact List.mem_map.mpr ⟨x, hx, rfl⟩))
      · rw [if_neg q]
        rcases List.mem_append.mp hk with h | h
        · exact hv x hx k h
        · exact absurd (List.mem_singleton.mp h) q) (by rw [List.length_append, List.length_singleton]; rw [List.length_cons] at hs; omega)
    rw [List.append_assoc] at ih
    exact ih
theorem wp_par {i j : Nat} {ra rb : Run} {en : En} {Q : Fl × En → Prop} (h : (ra en).wp fun a => (rb a.2).wp fun b => ∃ e, putO i (a.1, b.2) = some e ∧ ∃ e', putO j (b.1, e) = some e' ∧ Q (.nx, e')) : (sPar i j ra rb en).wp Q :=
  (T.wp_bind _ _ _).mpr (T.wp_mono h fun a h => (T.wp_bind _ _ _).mpr (T.wp_mono h fun b ⟨e, h1, e', h2, q⟩ => by
    show ((T.ofOpt (putO i (a.1, b.2))).bind _).wp _
    rw [h1]
    show ((T.ofOpt (putO j (b.1, e))).bind _).wp _
    rw [h2]
    exact q))
def modD (names cols : List Str) (v : Str → Str → D) : D := .tup [.lst (Sl cols), mdlD (mdl names cols v)]
theorem model_wp {w h : Nat} (hw : w ≤ 14) (hh : h ≤ 14) : (f_w_model [.drw, .int (w : Nat), .int (h : Nat)]).wp fun r => ∃ (cols names : List Str) (v : Str → Str → D), r = (false, modD names cols v) ∧ cols.length = w ∧ cols.Nodup ∧ (∀ x ∈ cols, Nm x) ∧ names.length = h ∧ names.Nodup ∧ (∀ x ∈ names, Nm x) ∧
    ∀ x ∈ names, ∀ c ∈ cols, IsVal2 (v x c) := by
  have he : en0 12 [.drw, .int (w : Nat), .int (h : Nat)] = [some (.fz, .drw), some (.fz, .int (w : Nat)), some (.fz, .int (h : Nat)), none, none, none, none, none, none, none, none, none] := rfl
  unfold f_w_model
  refine wp_fn ?_
  rw [he]
  unfold r_w_model
  have nw := @names_wp
  have mw := @modelT_wp
  generalize f_w_names = F at nw ⊢
  refine wp_nx ?_
  refine wp_par (wp_call (wp_eq (x := ([.v .drw, .v (.int (w : Nat))], [some (.fz, .drw), some (.fz, .int (w : Nat)), some (.fz, .int (h : Nat)), none, none, none, none, none, none, none, none, none])) rfl ⟨_, rfl, T.wp_mono (nw hw) fun r ⟨cols, e, lc, cn, cm⟩ => ?_⟩))
  rw [e]
  refine wp_call (wp_eq (x := ([.v .drw, .v (.int (h : Nat))], [some (.fz, .drw), some (.fz, .int (w : Nat)), some (.fz, .int (h : Nat)), none, none, none, none, none, none, none, none, none])) rfl ⟨_, rfl, T.wp_mono (nw hh) fun r ⟨names, e2, ln, nn, nm⟩ => ?_⟩)
  rw [e2]
  refine ⟨_, rfl, _, rfl, ?_⟩
  refine ⟨_, rfl, ?_⟩
  show (sModel f_w_classes f_w_code [some (.fz, .drw), some (.fz, .int (w : Nat)), some (.fz, .int (h : Nat)), some (.ow, .lst (Sl cols)), some (.ow, .lst (Sl names)), none, none, none, none, none, none, none]).wp _
  subst ln
  have mw := mw nn hh cols [] (fun _ _ => .non) cn (by simp) (by simp; omega)
  generalize f_w_classes = C1 at mw ⊢
  generalize f_w_code = C2 at mw ⊢
  show ((T.ofOpt (strsOf (Sl cols))).bind _).wp _
  rw [strsOf_Sl]
  show ((T.ofOpt (strsOf (Sl names))).bind _).wp _
  rw [strsOf_Sl]
  show (if names.Nodup ∧ names.length ≤ 1000 ∧ noLk _ = true ∧ (Fg.ow ≠ .lk) ∧ (Fg.ow ≠ .lk) then _ else _ : T (Fl × En)).wp _
  rw [if_pos ⟨nn, by omega, rfl, by decide, by decide⟩]
  refine (T.wp_bind _ _ _).mpr (T.wp_mono mw fun m ⟨v', hv, e3⟩ => ?_)
  refine ⟨_, rfl, cols, names, v', ?_, lc, cn, cm, rfl, nn, nm, hv⟩
  rw [e3]
  rfl
end Sx
set_option Elab.async false
set_option linter.all false
set_option maxRecDepth 100000
set_option maxHeartbeats 1000000
set_option autoImplicit false
namespace Sx
open PySem L2
/-! a table of a model -/
def RW (names : List Str) (f : Str → List D) : Rows := names.map fun x => (x, f x)
theorem rw_names (names : List Str) (f : Str → List D) : (RW names f).map (·.1) = names := by
  unfold RW
  rw [List.map_map]
  exact List.map_id _
theorem rw_mem {names : List Str} {f : Str → List D} {x : Str} (h : x ∈ names) : (x, f x) ∈ RW names f := List.mem_map.mpr ⟨x, h, rfl⟩
theorem ix_rw {names : List Str} {f : Str → List D} {x : Str} (nd : names.Nodup) (h : x ∈ names) : fIxD (.dK (rowsD (RW names f))) (.str x) = some (false, .tup (f x)) := by
  show (valD (rowsD (RW names f)) (.inr x)).map _ = _
  rw [valD_rows (by rw [rw_names]; exact nd) (rw_mem h)]
  rfl
theorem strKs_map {f : Str → D} : ∀ names : List Str, strKs (names.map fun x => ((Sum.inr x : Key), f x)) = some names
  | [] => rfl
  | x :: names => by
    show (strKs (names.map fun x => ((Sum.inr x : Key), f x))).bind _ = _
    rw [strKs_map names]
    rfl
theorem sortU_dK {names : List Str} {f : Str → D} (hl : names.length < 64) : fSortU [.dK (names.map fun x => ((Sum.inr x : Key), f x))] = some1 (.lst (Sl (srt names))) := by
  show (strKs _).bind _ = _
  rw [strKs_map]
  exact if_pos hl
theorem srt_len (xs : List Str) : (srt xs).length = xs.length := (srt_perm xs).length_eq
theorem srt_nd {xs : List Str} (h : xs.Nodup) : (srt xs).Nodup := (srt_perm xs).nodup_iff.mpr h
theorem inr_nd {xs : List Str} (h : xs.Nodup) : (xs.map fun x => (Sum.inr x : Key)).Nodup := List.Pairwise.map _ (fun _ _ h z => h (Sum.inr.inj z)) h
theorem init_gen {kc : D} {cols names : List Str} {f : Str → List D} (hk : kc = .lst (Sl cols) ∨ kc = .tup (Sl cols)) (hn : ∀ x ∈ cols, Nm x) (nd : cols.Nodup) (h1 : 1 ≤ cols.length) (h5 : cols.length ≤ 5)
    (nn : names.Nodup) (nm : ∀ x ∈ names, Nm x) (n8 : names.length ≤ 8) (hv : ∀ x ∈ names, (f x).length = cols.length ∧ ∀ d ∈ f x, IsVal d) :
    k_T_init (enI 5 0 [kc, .dK (rowsD (RW names f))]) = .ret [some (.ow, tabD cols (RW (srt names) f)), some (.fz, kc), some (.fz, .dK (rowsD (RW names f))), none, none] := by
  have rn := rw_names names f
  have a1 := are_names_15 hk hn nd h1 h5
  have a2 : f_are_rows [.dK (rowsD (RW names f)), .int (cols.length : Nat)] = .ret (false, .bl true) := are_rows_ok (fun r hr => by
      obtain ⟨x, hx, rfl⟩ := List.mem_map.mp hr
      exact nm x hx) (by rw [rn]; exact nn) (by unfold RW; rw [List.length_map]; exact n8) (fun r hr => by
      obtain ⟨x, hx, rfl⟩ := List.mem_map.mp hr
      exact hv x hx) (by omega)
  have len : (Sl cols).length = cols.length := List.length_map ..
  have e2 : fLen [kc] = some0 (.int cols.length) := by rcases hk with rfl | rfl <;> (show some0 (.int ((Sl cols).length : Nat)) = _; rw [len])
  have e3 : fTuple [kc] = some0 (.tup (Sl cols)) := by rcases hk with rfl | rfl <;> rfl
  have er : rowsD (RW names f) = names.map fun x => ((Sum.inr x : Key), D.tup (f x)) := by
    unfold rowsD RW
    rw [List.map_map]
    rfl
  have e4 : fSortU [.dK (rowsD (RW names f))] = some1 (.lst (Sl (srt names))) := by
    rw [er]
    exact sortU_dK (by omega)
  have ix : ∀ x ∈ srt names, fIxD (.dK (rowsD (RW names f))) (.str x) = some (false, .tup (f x)) := fun x hx => ix_rw nn (srt_mem.mp hx)
  have es : (srt names).map (fun x => ((Sum.inr x : Key), D.tup (f x))) = rowsD (RW (srt names) f) := by
    unfold rowsD RW
    rw [List.map_map]
    rfl
  generalize rowsD (RW names f) = Q at a2 e4 ix ⊢
  let o1 : Slot := some (.ow, .obj 0 [("own_columns", .tup (Sl cols))])
  let o2 : Slot := some (.ow, .obj 0 [("own_columns", .tup (Sl cols)), ("own_rows", .dK (rowsD (RW (srt names) f)))])
  have c1 : rDc (iSeq (runN (rCons (rVar 2) rNil) fSortU)) none (tgN 3) rYes (rVar 3) (run2 (rBor 2) (rBor 3) fIxD) [3] [o1, some (.fz, kc), some (.fz, .dK Q), none, none] = .ret (.fr (.dK (rowsD (RW (srt names) f))), [o1, some (.fz, kc), some (.fz, .dK Q), none, none]) := by
    refine (rDc_map (en1 := [o1, some (.fz, kc), some (.fz, .dK Q), none, none]) (g := D.str) (xs := srt names) (fun x => Sum.inr x) (fun x => .tup (f x)) ?_ (by rw [srt_len]; omega) (inr_nd (srt_nd nn)) fun x hx => ?_).trans (by rw [es]; rfl)
    · simp only [sSeq, sIf, sRet, sNx, sSet, sPar, sTgt, sDrop, toT, rOr, rAnd, rNot, rIf, runN, run1, run2, rCons, rNil, rBor, rVar, rMov, rC, rChn, rDisp, rCall, rSlice, oNone, oSome, ret1, frc, frcs, onlyV, valO, Op.fz, mkO, boolOf, intOf, itemsOf, iSeq, tgN, T.ret_bind, T.ofOpt, retO, putO, flOf, some0, some1, Option.bind_some, Option.map_some, List.getElem?_cons_zero, List.getElem?_cons_succ, List.set_cons_zero, List.set_cons_succ, List.length_cons, List.length_nil, mkL, mkT, small, Bool.not_true, Bool.not_false, if_true, if_false, Bool.false_eq_true, ite_true, ite_false, Nat.reduceAdd, Nat.reduceLT, Nat.reduceLeDiff, e4]
      rfl
    · have a3 := ix x hx
      refine ⟨[o1, some (.fz, kc), some (.fz, .dK Q), some (.fz, .str x), none], .v (.str x), [o1, some (.fz, kc), some (.fz, .dK Q), some (.fz, .str x), none], .v (.tup (f x)), [o1, some (.fz, kc), some (.fz, .dK Q), some (.fz, .str x), none], rfl, rfl, rfl, ?_, rfl, rfl⟩
      simp only [sSeq, sIf, sRet, sNx, sSet, sPar, sTgt, sDrop, toT, rOr, rAnd, rNot, rIf, runN, run1, run2, rCons, rNil, rBor, rVar, rMov, rC, rChn, rDisp, rCall, rSlice, oNone, oSome, ret1, frc, frcs, onlyV, valO, Op.fz, mkO, boolOf, intOf, itemsOf, iSeq, tgN, T.ret_bind, T.ofOpt, retO, putO, flOf, some0, some1, Option.bind_some, Option.map_some, List.getElem?_cons_zero, List.getElem?_cons_succ, List.set_cons_zero, List.set_cons_succ, List.length_cons, List.length_nil, mkL, mkT, small, Bool.not_true, Bool.not_false, if_true, if_false, Bool.false_eq_true, ite_true, ite_false, Nat.reduceAdd, Nat.reduceLT, Nat.reduceLeDiff, a3]
  have c2 : rDc (iEnumU (rCons (rVar 1) rNil)) none (tgTup 2 (tgCons (tgN 4) (tgCons (tgN 3) tgNil))) rYes (rVar 3) (rVar 4) [4, 3] [o2, some (.fz, kc), some (.fz, .dK Q), none, none] = .ret (.fr (.dK (plcD cols)), [o2, some (.fz, kc), some (.fz, .dK Q), none, none]) := by
    refine (rDc_map (en1 := [o2, some (.fz, kc), some (.fz, .dK Q), none, none]) (g := fun p : Str × Nat => D.tup [.int (p.2 : Nat), .str p.1]) (xs := cols.zipIdx) (fun p => Sum.inr p.1) (fun p => .int (p.2 : Nat)) ?_ (by rw [List.length_zipIdx]; omega) ?_ fun p hp => ?_).trans (by rfl)
    · rw [← enum_Sl]
      rcases hk with rfl | rfl <;> rfl
    · have := zip_fst cols 0
      rw [show (fun p : Str × Nat => (Sum.inr p.1 : Key)) = Sum.inr ∘ (·.1) from rfl, ← List.map_map, this]
      exact inr_nd nd
    · exact ⟨[o2, some (.fz, kc), some (.fz, .dK Q), some (.fz, .str p.1), some (.fz, .int (p.2 : Nat))], .v (.str p.1), [o2, some (.fz, kc), some (.fz, .dK Q), some (.fz, .str p.1), some (.fz, .int (p.2 : Nat))], .v (.int (p.2 : Nat)), [o2, some (.fz, kc), some (.fz, .dK Q), some (.fz, .str p.1), some (.fz, .int (p.2 : Nat))], rfl, rfl, rfl, rfl, rfl, rfl⟩
  have s1 : (kGd (toT (rNot (rCall f_are_names (rCons (rVar 1) (rCons (rC (.int 1)) (rCons (rC (.int 5)) rNil))))))) [some (.ow, .obj 0 []), some (.fz, kc), some (.fz, .dK Q), none, none] = .ret [some (.ow, .obj 0 []), some (.fz, kc), some (.fz, .dK Q), none, none] := by
    unfold kGd
    simp only [sSeq, sIf, sRet, sNx, sSet, sPar, sTgt, sDrop, toT, rOr, rAnd, rNot, rIf, runN, run1, run2, rCons, rNil, rBor, rVar, rMov, rC, rChn, rDisp, rCall, rSlice, oNone, oSome, ret1, frc, frcs, onlyV, valO, Op.fz, mkO, boolOf, intOf, itemsOf, iSeq, tgN, T.ret_bind, T.ofOpt, retO, putO, flOf, some0, some1, Option.bind_some, Option.map_some, List.getElem?_cons_zero, List.getElem?_cons_succ, List.set_cons_zero, List.set_cons_succ, List.length_cons, List.length_nil, mkL, mkT, small, Bool.not_true, Bool.not_false, if_true, if_false, Bool.false_eq_true, ite_true, ite_false, Nat.reduceAdd, Nat.reduceLT, Nat.reduceLeDiff, a1]
  have s2 : (kGd (toT (rNot (rCall f_are_rows (rCons (rVar 2) (rCons (runN (rCons (rBor 1) rNil) fLen) rNil)))))) [some (.ow, .obj 0 []), some (.fz, kc), some (.fz, .dK Q), none, none] = .ret [some (.ow, .obj 0 []), some (.fz, kc), some (.fz, .dK Q), none, none] := by
    unfold kGd
    simp only [sSeq, sIf, sRet, sNx, sSet, sPar, sTgt, sDrop, toT, rOr, rAnd, rNot, rIf, runN, run1, run2, rCons, rNil, rBor, rVar, rMov, rC, rChn, rDisp, rCall, rSlice, oNone, oSome, ret1, frc, frcs, onlyV, valO, Op.fz, mkO, boolOf, intOf, itemsOf, iSeq, tgN, T.ret_bind, T.ofOpt, retO, putO, flOf, some0, some1, Option.bind_some, Option.map_some, List.getElem?_cons_zero, List.getElem?_cons_succ, List.set_cons_zero, List.set_cons_succ, List.length_cons, List.length_nil, mkL, mkT, small, Bool.not_true, Bool.not_false, if_true, if_false, Bool.false_eq_true, ite_true, ite_false, Nat.reduceAdd, Nat.reduceLT, Nat.reduceLeDiff, e2, a2]
  have s3 : (kFld 0 0 "own_columns" (runN (rCons (rBor 1) rNil) fTuple)) [some (.ow, .obj 0 []), some (.fz, kc), some (.fz, .dK Q), none, none] = .ret [o1, some (.fz, kc), some (.fz, .dK Q), none, none] := by
    unfold kFld
    simp only [sSeq, sIf, sRet, sNx, sSet, sPar, sTgt, sDrop, toT, rOr, rAnd, rNot, rIf, runN, run1, run2, rCons, rNil, rBor, rVar, rMov, rC, rChn, rDisp, rCall, rSlice, oNone, oSome, ret1, frc, frcs, onlyV, valO, Op.fz, mkO, boolOf, intOf, itemsOf, iSeq, tgN, T.ret_bind, T.ofOpt, retO, putO, flOf, some0, some1, Option.bind_some, Option.map_some, List.getElem?_cons_zero, List.getElem?_cons_succ, List.set_cons_zero, List.set_cons_succ, List.length_cons, List.length_nil, mkL, mkT, small, Bool.not_true, Bool.not_false, if_true, if_false, Bool.false_eq_true, ite_true, ite_false, Nat.reduceAdd, Nat.reduceLT, Nat.reduceLeDiff, e3]
    rfl
  have s4 : (kFld 0 0 "own_rows" (rDc (iSeq (runN (rCons (rVar 2) rNil) fSortU)) none (tgN 3) rYes (rVar 3) (run2 (rBor 2) (rBor 3) fIxD) [3])) [o1, some (.fz, kc), some (.fz, .dK Q), none, none] = .ret [o2, some (.fz, kc), some (.fz, .dK Q), none, none] := by
    unfold kFld
    rw [c1]
    rfl
  have s5 : (kFld 0 0 "places" (rDc (iEnumU (rCons (rVar 1) rNil)) none (tgTup 2 (tgCons (tgN 4) (tgCons (tgN 3) tgNil))) rYes (rVar 3) (rVar 4) [4, 3])) [o2, some (.fz, kc), some (.fz, .dK Q), none, none] = .ret [some (.ow, tabD cols (RW (srt names) f)), some (.fz, kc), some (.fz, .dK Q), none, none] := by
    unfold kFld
    rw [c2]
    rfl
  have e0 : enI 5 0 [kc, .dK Q] = [some (.ow, .obj 0 []), some (.fz, kc), some (.fz, .dK Q), none, none] := rfl
  rw [e0]
  unfold k_T_init kSeq
  rw [s1]
  show ((kGd _ _).bind _) = _
  rw [s2]
  show ((kFld _ _ _ _ _).bind _) = _
  rw [s3]
  show ((kFld _ _ _ _ _).bind _) = _
  rw [s4]
  show ((kFld _ _ _ _ _).bind _) = _
  rw [s5]
  rfl
theorem rows_gen (cols names : List Str) (f : Str → List D) : f_T_rows [tabD cols (RW names f)] = .ret (false, .tup (Sl names)) := by
  have e1 := fld_rows cols (RW names f)
  have e2 : fTupleD [.dK (rowsD (RW names f))] = some0 (.tup (Sl names)) := by
    show some0 (.tup ((rowsD (RW names f)).map fun kv => kD kv.1)) = _
    unfold rowsD RW
    rw [List.map_map, List.map_map]
    rfl
  unfold f_T_rows runFn r_T_rows
  show ((sSeq _ _) [some (.fz, tabD cols (RW names f))]).bind _ = _
  simp only [sSeq, sIf, sRet, sNx, sSet, sPar, sTgt, sDrop, toT, rOr, rAnd, rNot, rIf, runN, run1, run2, rCons, rNil, rBor, rVar, rMov, rC, rChn, rDisp, rCall, rSlice, oNone, oSome, ret1, frc, frcs, onlyV, valO, Op.fz, mkO, boolOf, intOf, itemsOf, iSeq, tgN, T.ret_bind, T.ofOpt, retO, putO, flOf, some0, some1, Option.bind_some, Option.map_some, List.getElem?_cons_zero, List.getElem?_cons_succ, List.set_cons_zero, List.set_cons_succ, List.length_cons, List.length_nil, mkL, mkT, small, Bool.not_true, Bool.not_false, if_true, if_false, Bool.false_eq_true, ite_true, ite_false, Nat.reduceAdd, Nat.reduceLT, Nat.reduceLeDiff, e1, e2]
theorem valD_map {g : Str → D} {x : Str} : ∀ {xs : List Str}, x ∈ xs → valD (xs.map fun x => ((Sum.inr x : Key), g x)) (.inr x) = some (g x)
  | [], h => by simp at h
  | y :: xs, h => by
    by_cases e : y = x
    · subst e
      simp [valD, List.find?_cons]
    · have ne : ¬ (Sum.inr y : Key) = .inr x := fun z => e (Sum.inr.inj z)
      have ih := valD_map (g := g) (x := x) (xs := xs) ((List.mem_cons.mp h).elim (fun z => absurd z.symm e) id)
      unfold valD at ih ⊢
      rw [List.map_cons, List.find?_cons, decide_eq_false ne]
      exact ih
theorem ix_map {g : Str → D} {x : Str} {xs : List Str} (h : x ∈ xs) : fIxD (.dK (xs.map fun x => ((Sum.inr x : Key), g x))) (.str x) = some (false, g x) := by
  show (valD (xs.map fun x => ((Sum.inr x : Key), g x)) (.inr x)).map _ = _
  rw [valD_map h]
  rfl
theorem mergeD_new : ∀ {kvs acc : List (Key × D)}, (acc.map (·.1) ++ kvs.map (·.1)).Nodup → mergeD acc kvs = acc ++ kvs
  | [], acc, _ => by show acc = _; rw [List.append_nil]
  | (k, d) :: kvs, acc, h => by
    have new : k ∉ acc.map (·.1) := fun z => (List.nodup_append.mp h).2.2 _ z _ List.mem_cons_self rfl
    show mergeD (putD acc k d) kvs = _
    rw [putD_new new, mergeD_new (by simpa using h)]
    simp
theorem pairsD_map {g : Str → D} : ∀ xs : List Str, pairsD (xs.map fun x => D.tup [.str x, g x]) = some (xs.map fun x => ((Sum.inr x : Key), g x))
  | [] => rfl
  | x :: xs => by
    have ih := pairsD_map (g := g) xs
    rw [List.map_cons, List.map_cons, pairsD, ih]
    rfl
theorem mdlD_mdl (names cols : List Str) (v : Str → Str → D) : mdlD (mdl names cols v) = .dK (names.map fun x => ((Sum.inr x : Key), D.dK (cols.map fun c => ((Sum.inr c : Key), v x c)))) := by
  unfold mdlD mdl
  rw [List.map_map]
  rfl
/-! the law's own table -/
def modK (kept names cols : List Str) (v : Str → Str → D) : D := .tup [.lst (Sl kept), mdlD (mdl names cols v)]
theorem table_gen {kept cols names : List Str} {v : Str → Str → D} (hk : ∀ c ∈ kept, c ∈ cols) (hn : ∀ x ∈ kept, Nm x) (nd : kept.Nodup) (h1 : 1 ≤ kept.length) (h5 : kept.length ≤ 5)
    (nn : names.Nodup) (nm : ∀ x ∈ names, Nm x) (n8 : names.length ≤ 8) (hv : ∀ x ∈ names, ∀ c ∈ kept, IsVal (v x c)) :
    f_w_table [modK kept names cols v] = .ret (true, tabD kept (RW (srt names) fun x => kept.map (v x))) := by
  have ini := init_gen (kc := .lst (Sl kept)) (names := names) (f := fun x => kept.map (v x)) (.inl rfl) hn nd h1 h5 nn nm n8 fun x hx => ⟨by rw [List.length_map], fun d hd => by
    obtain ⟨c, hc, rfl⟩ := List.mem_map.mp hd
    exact hv x hx c hc⟩
  have i1 : ∀ x ∈ names, fIxD (mdlD (mdl names cols v)) (.str x) = some (false, .dK (cols.map fun c => ((Sum.inr c : Key), v x c))) := fun x hx => by
    rw [mdlD_mdl]
    exact ix_map (g := fun x => D.dK (cols.map fun c => ((Sum.inr c : Key), v x c))) hx
  have i2 : ∀ x, ∀ c ∈ cols, fIxD (.dK (cols.map fun c => ((Sum.inr c : Key), v x c))) (.str c) = some (false, v x c) := fun x c hc => ix_map (g := v x) hc
  have eM : modK kept names cols v = .tup [.lst (Sl kept), .dK (names.map fun x => ((Sum.inr x : Key), D.dK (cols.map fun c => ((Sum.inr c : Key), v x c))))] := by
    unfold modK
    rw [mdlD_mdl]
  rw [mdlD_mdl] at i1
  have hq : (names.map fun x => ((Sum.inr x : Key), D.dK (cols.map fun c => ((Sum.inr c : Key), v x c)))).map (fun kv => kD kv.1) = names.map D.str := by
    rw [List.map_map]
    rfl
  rw [eM]
  generalize (names.map fun x => ((Sum.inr x : Key), D.dK (cols.map fun c => ((Sum.inr c : Key), v x c)))) = Q at i1 hq ⊢
  have c_in : ∀ x ∈ names, rLc (iSeq (rVar 1)) none (tgN 4) rYes (run2 (run2 (rBor 2) (rBor 3) fIxD) (rBor 4) fIxD) [4] [some (.fz, .tup [.lst (Sl kept), .dK Q]), some (.fz, .lst (Sl kept)), some (.fz, .dK Q), some (.fz, .str x), none] =
      .ret (.fr (.lst (kept.map (v x))), [some (.fz, .tup [.lst (Sl kept), .dK Q]), some (.fz, .lst (Sl kept)), some (.fz, .dK Q), some (.fz, .str x), none]) := fun x hx => by
    refine (rLc_map (en1 := [some (.fz, .tup [.lst (Sl kept), .dK Q]), some (.fz, .lst (Sl kept)), some (.fz, .dK Q), some (.fz, .str x), none]) (g := D.str) (xs := kept) (fun _ => true) (v x) rfl (by omega) fun c hc => ?_).trans (by rw [filter_tt]; rfl)
    refine ⟨[some (.fz, .tup [.lst (Sl kept), .dK Q]), some (.fz, .lst (Sl kept)), some (.fz, .dK Q), some (.fz, .str x), some (.fz, .str c)], _, rfl, rfl, (fun z => by cases z), fun _ => ⟨.v (v x c), [some (.fz, .tup [.lst (Sl kept), .dK Q]), some (.fz, .lst (Sl kept)), some (.fz, .dK Q), some (.fz, .str x), some (.fz, .str c)], ?_, rfl, rfl⟩⟩
    have a1 := i1 x hx
    have a2 := i2 x c (hk c hc)
    simp only [sSeq, sIf, sRet, sNx, sSet, sPar, sTgt, sDrop, toT, rOr, rAnd, rNot, rIf, runN, run1, run2, rCons, rNil, rBor, rVar, rMov, rC, rChn, rDisp, rCall, rSlice, oNone, oSome, ret1, frc, frcs, onlyV, valO, Op.fz, mkO, boolOf, intOf, itemsOf, iSeq, tgN, T.ret_bind, T.ofOpt, retO, putO, flOf, some0, some1, Option.bind_some, Option.map_some, List.getElem?_cons_zero, List.getElem?_cons_succ, List.set_cons_zero, List.set_cons_succ, List.length_cons, List.length_nil, mkL, mkT, small, Bool.not_true, Bool.not_false, if_true, if_false, Bool.false_eq_true, ite_true, ite_false, Nat.reduceAdd, Nat.reduceLT, Nat.reduceLeDiff, a1, a2]
  have c_out : rLkd (pthV 2) (rLc (iKy (pthV 2)) none (tgN 3) rYes (rDisp mkT (rCons (rVar 3) (rCons (runN (rCons (rLc (iSeq (rVar 1)) none (tgN 4) rYes (run2 (run2 (rBor 2) (rBor 3) fIxD) (rBor 4) fIxD) [4]) rNil) fTuple) rNil))) [3]) [some (.fz, .tup [.lst (Sl kept), .dK Q]), some (.fz, .lst (Sl kept)), some (.fz, .dK Q), none, none] =
      .ret (.fr (.lst (names.map fun x => .tup [.str x, .tup (kept.map (v x))])), [some (.fz, .tup [.lst (Sl kept), .dK Q]), some (.fz, .lst (Sl kept)), some (.fz, .dK Q), none, none]) := by
    show rLc _ _ _ _ _ _ _ = _
    refine (rLc_map (en1 := [some (.fz, .tup [.lst (Sl kept), .dK Q]), some (.fz, .lst (Sl kept)), some (.fz, .dK Q), none, none]) (g := D.str) (xs := names) (fun _ => true) (fun x => .tup [.str x, .tup (kept.map (v x))]) ?_ (by omega) fun x hx => ?_).trans (by rw [filter_tt]; rfl)
    · show T.ret (Q.map fun kv => kD kv.1, _) = _
      rw [hq]
    · have c := c_in x hx
      generalize rLc (iSeq (rVar 1)) none (tgN 4) rYes (run2 (run2 (rBor 2) (rBor 3) fIxD) (rBor 4) fIxD) [4] = CI at c ⊢
      refine ⟨[some (.fz, .tup [.lst (Sl kept), .dK Q]), some (.fz, .lst (Sl kept)), some (.fz, .dK Q), some (.fz, .str x), none], _, rfl, rfl, (fun z => by cases z), fun _ => ⟨.v (.tup [.str x, .tup (kept.map (v x))]), [some (.fz, .tup [.lst (Sl kept), .dK Q]), some (.fz, .lst (Sl kept)), some (.fz, .dK Q), some (.fz, .str x), none], ?_, rfl, rfl⟩⟩
      have e1 : fTuple [.lst (kept.map (v x))] = some0 (.tup (kept.map (v x))) := rfl
      simp only [sSeq, sIf, sRet, sNx, sSet, sPar, sTgt, sDrop, toT, rOr, rAnd, rNot, rIf, runN, run1, run2, rCons, rNil, rBor, rVar, rMov, rC, rChn, rDisp, rCall, rSlice, oNone, oSome, ret1, frc, frcs, onlyV, valO, Op.fz, mkO, boolOf, intOf, itemsOf, iSeq, tgN, T.ret_bind, T.ofOpt, retO, putO, flOf, some0, some1, Option.bind_some, Option.map_some, List.getElem?_cons_zero, List.getElem?_cons_succ, List.set_cons_zero, List.set_cons_succ, List.length_cons, List.length_nil, mkL, mkT, small, Bool.not_true, Bool.not_false, if_true, if_false, Bool.false_eq_true, ite_true, ite_false, Nat.reduceAdd, Nat.reduceLT, Nat.reduceLeDiff, c, e1]
  have e5 : fDictP [.lst (names.map fun x => .tup [.str x, .tup (kept.map (v x))])] = some1 (.dK (rowsD (RW names fun x => kept.map (v x)))) := by
    show (pairsD _).bind _ = _
    rw [pairsD_map (g := fun x => D.tup (kept.map (v x)))]
    show some1 (.dK (mergeD [] _)) = _
    rw [mergeD_new (by rw [List.map_nil, List.nil_append, List.map_map]; exact inr_nd nn)]
    unfold rowsD RW
    rw [List.map_map]
    rfl
  have ar : (rCons (rVar 1) (rCons (runN (rCons (rLkd (pthV 2) (rLc (iKy (pthV 2)) none (tgN 3) rYes (rDisp mkT (rCons (rVar 3) (rCons (runN (rCons (rLc (iSeq (rVar 1)) none (tgN 4) rYes (run2 (run2 (rBor 2) (rBor 3) fIxD) (rBor 4) fIxD) [4]) rNil) fTuple) rNil))) [3])) rNil) fDictP) rNil)) [some (.fz, .tup [.lst (Sl kept), .dK Q]), some (.fz, .lst (Sl kept)), some (.fz, .dK Q), none, none] =
      .ret ([.v (.lst (Sl kept)), .v (.dK (rowsD (RW names fun x => kept.map (v x))))], [some (.fz, .tup [.lst (Sl kept), .dK Q]), some (.fz, .lst (Sl kept)), some (.fz, .dK Q), none, none]) := by
    generalize rLkd (pthV 2) (rLc (iKy (pthV 2)) none (tgN 3) rYes (rDisp mkT (rCons (rVar 3) (rCons (runN (rCons (rLc (iSeq (rVar 1)) none (tgN 4) rYes (run2 (run2 (rBor 2) (rBor 3) fIxD) (rBor 4) fIxD) [4]) rNil) fTuple) rNil))) [3]) = CO at c_out ⊢
    simp only [sSeq, sIf, sRet, sNx, sSet, sPar, sTgt, sDrop, toT, rOr, rAnd, rNot, rIf, runN, run1, run2, rCons, rNil, rBor, rVar, rMov, rC, rChn, rDisp, rCall, rSlice, oNone, oSome, ret1, frc, frcs, onlyV, valO, Op.fz, mkO, boolOf, intOf, itemsOf, iSeq, tgN, T.ret_bind, T.ofOpt, retO, putO, flOf, some0, some1, Option.bind_some, Option.map_some, List.getElem?_cons_zero, List.getElem?_cons_succ, List.set_cons_zero, List.set_cons_succ, List.length_cons, List.length_nil, mkL, mkT, small, Bool.not_true, Bool.not_false, if_true, if_false, Bool.false_eq_true, ite_true, ite_false, Nat.reduceAdd, Nat.reduceLT, Nat.reduceLeDiff, c_out, e5]
  have mk : rMake 5 0 k_T_init (rCons (rVar 1) (rCons (runN (rCons (rLkd (pthV 2) (rLc (iKy (pthV 2)) none (tgN 3) rYes (rDisp mkT (rCons (rVar 3) (rCons (runN (rCons (rLc (iSeq (rVar 1)) none (tgN 4) rYes (run2 (run2 (rBor 2) (rBor 3) fIxD) (rBor 4) fIxD) [4]) rNil) fTuple) rNil))) [3])) rNil) fDictP) rNil)) [some (.fz, .tup [.lst (Sl kept), .dK Q]), some (.fz, .lst (Sl kept)), some (.fz, .dK Q), none, none] =
      .ret (.fr (tabD kept (RW (srt names) fun x => kept.map (v x))), [some (.fz, .tup [.lst (Sl kept), .dK Q]), some (.fz, .lst (Sl kept)), some (.fz, .dK Q), none, none]) := by
    unfold rMake
    rw [ar]
    show ((k_T_init (enI 5 0 [.lst (Sl kept), .dK (rowsD (RW names fun x => kept.map (v x)))])).bind _) = _
    rw [ini]
    rfl
  unfold f_w_table runFn r_w_table
  show ((sSeq _ _) [some (.fz, .tup [.lst (Sl kept), .dK Q]), none, none, none, none]).bind _ = _
  generalize rMake 5 0 k_T_init (rCons (rVar 1) (rCons (runN (rCons (rLkd (pthV 2) (rLc (iKy (pthV 2)) none (tgN 3) rYes (rDisp mkT (rCons (rVar 3) (rCons (runN (rCons (rLc (iSeq (rVar 1)) none (tgN 4) rYes (run2 (run2 (rBor 2) (rBor 3) fIxD) (rBor 4) fIxD) [4]) rNil) fTuple) rNil))) [3])) rNil) fDictP) rNil)) = MK at mk ⊢
  have s1 : sTgt (tgTup 2 (tgCons (tgN 1) (tgCons (tgN 2) tgNil))) (rVar 0) [some (.fz, .tup [.lst (Sl kept), .dK Q]), none, none, none, none] = .ret (.nx, [some (.fz, .tup [.lst (Sl kept), .dK Q]), some (.fz, .lst (Sl kept)), some (.fz, .dK Q), none, none]) := rfl
  unfold sSeq
  rw [s1]
  show ((sRet MK _).bind _).bind _ = _
  unfold sRet
  rw [mk]
  rfl
end Sx
set_option Elab.async false
set_option linter.all false
set_option maxRecDepth 100000
set_option maxHeartbeats 1000000
set_option autoImplicit false
namespace Sx
open PySem L2
/-! ### runs that draw nothing, step by step -/
/-- a slot that holds nothing, or a shared thing -/
def Lo (en : En) (i : Nat) : Prop := en[i]? = some none ∨ ∃ d, en[i]? = some (some (.fz, d))
theorem Lo.lt {en : En} {i : Nat} (h : Lo en i) : i < en.length := by
  rcases h with h | ⟨d, h⟩ <;> exact lt_of_get h
theorem set_back {α : Type} {l : List α} {i : Nat} {x y : α} (h : l[i]? = some x) : (l.set i y).set i x = l := by
  rw [List.set_set]
  apply List.ext_getElem?
  intro j
  by_cases e : i = j
  · subst e; rw [List.getElem?_set_self (lt_of_get h), h]
  · rw [List.getElem?_set_ne e]
theorem lo_back {en : En} {i : Nat} (h : Lo en i) : back (wip en [i]) en [i] = en := by
  show (en.set i none).set i (match en[i]? with | some (some (.fz, d)) => some (.fz, d) | _ => none) = en
  rcases h with h | ⟨d, h⟩ <;> (rw [h]; exact set_back h)
section
variable {α : Type} {g : α → D} {ri : RunI} {l : Option Nat} {rt : RunT} {rk re : Run} {i : Nat} {en en1 : En} {xs : List α}
theorem tgN_in (h : Lo en1 i) (d : D) : tgN i d (wip en1 [i]) = some (en1.set i (some (.fz, d))) := by
  show (if i < (en1.set i none).length then some ((en1.set i none).set i (some (.fz, d))) else none) = _
  rw [if_pos (by rw [List.length_set]; exact h.lt), List.set_set]
theorem wip_in (s : Slot) : wip (en1.set i s) [i] = wip en1 [i] := by
  show (en1.set i s).set i none = en1.set i none
  rw [List.set_set]
/-- [y for x in xs] -/
theorem lc_go (y : α → D) (hi : ri en = .ret (xs.map g, en1)) (hl : xs.length ≤ 4096) (hn : Lo en1 i) (h : ∀ x ∈ xs, ∃ o, re (en1.set i (some (.fz, g x))) = .ret (o, en1.set i (some (.fz, g x))) ∧ valO o = some (y x)) :
    rLc ri l (tgN i) rYes re [i] en = .ret (.fr (.lst (xs.map y)), unl l en1) := by
  refine (rLc_map (fun _ => true) y hi hl fun x hx => ?_).trans (by rw [List.filter_eq_self.mpr fun _ _ => rfl, lo_back hn])
  obtain ⟨o, h1, h2⟩ := h x hx
  exact ⟨_, _, tgN_in hn _, rfl, (fun z => by cases z), fun _ => ⟨o, _, h1, h2, wip_in _⟩⟩
end
/-- a for over things, by an invariant -/
theorem sForL_go {α : Type} {g : α → D} {t : Tg} {B : RunS} (I : List α → En → Prop) (h : ∀ x xs en, I (x :: xs) en → ∃ e1 e2, t (g x) en = some e1 ∧ B e1 = .ret (.nx, e2) ∧ I xs e2) :
    ∀ (xs : List α) (en : En), I xs en → ∃ e', sForL none t B (xs.map g) en = .ret (.nx, e') ∧ I [] e'
  | [], en, hI => ⟨en, rfl, hI⟩
  | x :: xs, en, hI => by
    obtain ⟨e1, e2, h1, h2, h3⟩ := h x xs en hI
    obtain ⟨e', h4, h5⟩ := sForL_go I h xs e2 h3
    refine ⟨e', ?_, h5⟩
    rw [List.map_cons, sForL]
    show ((T.ofOpt (t (g x) en)).bind _) = _
    rw [h1]
    show ((B e1).bind _) = _
    rw [h2]
    exact h4
theorem sFor_go {α : Type} {g : α → D} {t : Tg} {B : RunS} {ri : RunI} {en en1 : En} {xs : List α} (I : List α → En → Prop) (hi : ri en = .ret (xs.map g, en1)) (h0 : I xs en1) (h : ∀ x xs en, I (x :: xs) en → ∃ e1 e2, t (g x) en = some e1 ∧ B e1 = .ret (.nx, e2) ∧ I xs e2) :
    ∃ e', sFor ri none t B en = .ret (.nx, e') ∧ I [] e' := by
  obtain ⟨e', h1, h2⟩ := sForL_go I h xs en1 h0
  refine ⟨e', ?_, h2⟩
  unfold sFor
  rw [hi]
  exact h1
/-- a for that fills a dict -/
theorem dForL_go {α : Type} {g : α → D} {t : Tg} {B : RunD} (I : List α → En × D → Prop) (h : ∀ x xs en c, I (x :: xs) (en, c) → ∃ e1 e2, t (g x) en = some e1 ∧ B (e1, c) = .ret e2 ∧ I xs e2) :
    ∀ (xs : List α) (s : En × D), I xs s → ∃ e', dForL t B (xs.map g) s = .ret e' ∧ I [] e'
  | [], en, hI => ⟨en, rfl, hI⟩
  | x :: xs, (en, c), hI => by
    obtain ⟨e1, e2, h1, h2, h3⟩ := h x xs en c hI
    obtain ⟨e', h4, h5⟩ := dForL_go I h xs e2 h3
    refine ⟨e', ?_, h5⟩
    rw [List.map_cons, dForL]
    show ((T.ofOpt (t (g x) en)).bind _) = _
    rw [h1]
    show ((B (e1, c)).bind _) = _
    rw [h2]
    exact h4
theorem dFor_go {α : Type} {g : α → D} {t : Tg} {B : RunD} {ri : RunI} {en en1 : En} {c : D} {xs : List α} (I : List α → En × D → Prop) (hi : ri en = .ret (xs.map g, en1)) (h0 : I xs (en1, c)) (h : ∀ x xs en c, I (x :: xs) (en, c) → ∃ e1 e2, t (g x) en = some e1 ∧ B (e1, c) = .ret e2 ∧ I xs e2) :
    ∃ e', dFor ri t B (en, c) = .ret e' ∧ I [] e' := by
  obtain ⟨e', h1, h2⟩ := dForL_go I h xs (en1, c) h0
  refine ⟨e', ?_, h2⟩
  unfold dFor
  rw [hi]
  exact h1
theorem dseq_go {ra rb : RunD} {s s1 : En × D} (h : ra s = .ret s1) : dSeq ra rb s = rb s1 := by
  unfold dSeq
  rw [h]
  rfl
theorem sset_fr {i : Nat} {ra : Run} {en e : En} {d : D} (h : ra en = .ret (.fr d, e)) (hi : i < e.length) : sSet i ra en = .ret (.nx, e.set i (some (.ow, d))) := by
  unfold sSet
  rw [h]
  show ((T.ofOpt (if i < e.length then some (e.set i (some (.ow, d))) else none)).bind _) = _
  rw [if_pos hi]
  rfl
theorem sset_v {i : Nat} {ra : Run} {en e : En} {d : D} (h : ra en = .ret (.v d, e)) (hi : i < e.length) : sSet i ra en = .ret (.nx, e.set i (some (.fz, d))) := by
  unfold sSet
  rw [h]
  show ((T.ofOpt (if i < e.length then some (e.set i (some (.fz, d))) else none)).bind _) = _
  rw [if_pos hi]
  rfl
/-! dicts by puts -/
section
variable {α : Type} {kk : α → Key} {y : α → D}
end
end Sx
set_option Elab.async false
set_option linter.all false
set_option maxRecDepth 100000
set_option maxHeartbeats 1000000
set_option autoImplicit false
namespace Sx
open PySem L2
/-! ### statements that fill dicts, step by step -/
theorem dset_v {i : Nat} {ra : Run} {en e : En} {c d : D} (h : ra en = .ret (.v d, e)) (hi : i < e.length) : dSet i ra (en, c) = .ret (e.set i (some (.fz, d)), c) := by
  unfold dSet
  rw [show ra (en, c).1 = _ from h]
  show ((T.ofOpt (if i < e.length then some (e.set i (some (.fz, d))) else none)).bind _) = _
  rw [if_pos hi]
  rfl
theorem dputv_go {rk rv : Run} {en e1 e2 : En} {ds : List (Key × D)} {o o2 : Op} {d : D} {k : Key} (h1 : rv en = .ret (o, e1)) (h2 : valO o = some d) (h3 : rk e1 = .ret (o2, e2)) (h4 : (valO o2).bind keyOf = some k) (hl : ds.length < 4096) :
    dPutV rk rv (en, .dK ds) = .ret (e2, .dK (putD ds k d)) := by
  obtain ⟨kd, hk1, hk2⟩ := Option.bind_eq_some_iff.mp h4
  unfold dPutV
  rw [show rv (en, D.dK ds).1 = _ from h1]
  show ((T.ofOpt (valO o)).bind _) = _
  rw [h2]
  show dPutVb rk (.dK ds) (d, e1) = _
  unfold dPutVb
  rw [show rk (d, e1).2 = _ from h3]
  show ((T.ofOpt (valO o2)).bind _) = _
  rw [hk1]
  show dPutVc (.dK ds) d (kd, e2) = _
  unfold dPutVc
  rw [show keyOf (kd, e2).1 = _ from hk2]
  show (if ds.length < 4096 then _ else _ : T (En × D)) = _
  rw [if_pos hl]
/-! dicts by names -/
section
variable {ks : List Str} {f : Str → D} {x : Str}
end
/-- no slot is locked -/
def noLks (en : En) : Bool := en.all fun s => match s with | some (.lk, _) => false | _ => true
theorem sdeep_go {j : Nat} {body : RunD} {en : En} {r : En × D} (hj : j < en.length) (hk : noLks en = true) (h : body (en.set j none, .dK []) = .ret r) : sDeep j body en = .ret (.nx, r.1.set j (some (.ow, r.2))) := by
  unfold sDeep
  rw [if_pos ⟨hj, hk⟩, h]
  rfl
end Sx
set_option Elab.async false
set_option linter.all false
set_option maxRecDepth 100000
set_option maxHeartbeats 1000000
set_option autoImplicit false
namespace Sx
open PySem L2
/-! ### steps that draw -/
theorem sset_wp {i : Nat} {ra : Run} {en : En} {Q : Fl × En → Prop} (h : (ra en).wp fun r => ∃ e, putO i r = some e ∧ Q (.nx, e)) : (sSet i ra en).wp Q := by
  unfold sSet
  refine (T.wp_bind _ _ _).mpr (T.wp_mono h fun r ⟨e, h1, h2⟩ => ?_)
  rw [h1]
  exact h2
theorem rcall_wp {f : Fn} {rs : Runs} {en e1 : En} {os : List Op} {ds : List D} {Q : Op × En → Prop} (h1 : rs en = .ret (os, e1)) (h2 : onlyV os = some ds) (h : (f ds).wp fun c => Q (mkO c, e1)) : (rCall f rs en).wp Q := by
  unfold rCall
  rw [h1]
  show ((T.ofOpt (onlyV os)).bind _).wp _
  rw [h2]
  show ((f ds).bind _).wp _
  exact (T.wp_bind _ _ _).mpr h
theorem rcall_go {f : Fn} {rs : Runs} {en e1 : En} {os : List Op} {ds : List D} {c : Bool × D} (h1 : rs en = .ret (os, e1)) (h2 : onlyV os = some ds) (h : f ds = .ret c) : rCall f rs en = .ret (mkO c, e1) := by
  unfold rCall
  rw [h1]
  show ((T.ofOpt (onlyV os)).bind _) = _
  rw [h2]
  show ((f ds).bind _) = _
  rw [h]
  rfl
theorem wp_of {α : Type} {t : T α} {a : α} {Q : α → Prop} (h : t = .ret a) (q : Q a) : t.wp Q := by
  rw [h]
  exact q
/-- the statements one by one -/
theorem sseq_wp {ra rb : RunS} {en : En} {Q : Fl × En → Prop} (h : (ra en).wp fun r => ∃ e, r = (.nx, e) ∧ (rb e).wp Q) : (sSeq ra rb en).wp Q := by
  unfold sSeq
  refine (T.wp_bind _ _ _).mpr (T.wp_mono h fun r ⟨e, e1, q⟩ => ?_)
  rw [e1]
  exact q
end Sx
set_option Elab.async false
set_option linter.all false
set_option maxRecDepth 100000
set_option maxHeartbeats 4000000
set_option autoImplicit false
namespace Sx
open PySem L2 PyProof.Rows HT
/-! ### xs[::c] of a list -/
section
variable {W : Wd} {S : Addr → Prop} {H : Hp}
end
section
variable {X : Cx} {W : Wd}
end
end Sx
set_option Elab.async false
set_option linter.all false
set_option maxRecDepth 100000
set_option maxHeartbeats 1000000
set_option autoImplicit false
namespace Sx
open PySem L2
inductive All2 {α β : Type} (P : α → β → Prop) : List α → List β → Prop
  | nil : All2 P [] []
  | cons {a : α} {b : β} {as : List α} {bs : List β} : P a b → All2 P as bs → All2 P (a :: as) (b :: bs)
theorem All2.len {α β : Type} {P : α → β → Prop} {as : List α} {bs : List β} (h : All2 P as bs) : bs.length = as.length := by
  induction h with
  | nil => rfl
  | cons _ _ ih => simp [ih]
/-- by a function, where the things are different ones -/
theorem All2.fn {α β : Type} [DecidableEq α] [Inhabited β] {P : α → β → Prop} {as : List α} {bs : List β} (h : All2 P as bs) (nd : as.Nodup) : ∃ f : α → β, as.map f = bs ∧ ∀ a ∈ as, P a (f a) := by
  induction h with
  | nil => exact ⟨fun _ => default, rfl, by simp⟩
  | @cons a b as bs p r ih =>
    rw [List.nodup_cons] at nd
    obtain ⟨f, h1, h2⟩ := ih nd.2
    refine ⟨fun x => if x = a then b else f x, ?_, fun x hx => ?_⟩
    · rw [List.map_cons, if_pos rfl, ← h1]
      congr 1
      exact List.map_congr_left fun x hx => if_neg fun (e : x = a) => nd.1 (e ▸ hx)
    · by_cases e : x = a
      · subst e
        show P x (if x = x then b else f x)
        rw [if_pos rfl]; exact p
      · show P x (if x = a then b else f x)
        rw [if_neg e]
        exact h2 x ((List.mem_cons.mp hx).resolve_left e)
section
variable {α : Type} {g : α → D} {ri : RunI} {l : Option Nat} {re : Run} {i : Nat} {en en1 : En}
end
theorem ownL_of {en : En} {i : Nat} {ds : List D} (h : en[i]? = some (some (.ow, .lst ds))) : ownL en i = some ds := by
  unfold ownL
  rw [h]
theorem sapp_go {i : Nat} {re : Run} {en e : En} {o : Op} {d : D} {xs ds : List D} (h0 : en[i]? = some (some (.ow, .lst xs))) (h : re en = .ret (o, e)) (hv : valO o = some d) (hi : e[i]? = some (some (.ow, .lst ds))) (hl : ds.length < 4096) :
    sDrop (rApp i re) en = .ret (.nx, e.set i (some (.ow, .lst (ds ++ [d])))) := by
  unfold sDrop rApp
  rw [ownL_of h0]
  show ((((re en).bind _)).bind _) = _
  rw [h]
  show ((((T.ofOpt (valO o)).bind _)).bind _) = _
  rw [hv]
  show ((((T.ofOpt (ownL e i)).bind _)).bind _) = _
  rw [ownL_of hi]
  show ((if ds.length < 4096 then _ else _ : T (Op × En)).bind _) = _
  rw [if_pos hl]
  rfl
theorem sif_go {rc : RunT} {a b : RunS} {en e : En} {c : Bool} (h : rc en = .ret (c, e)) : sIf rc a b en = if c then a e else b e := by
  unfold sIf
  rw [h]
  rfl
end Sx
set_option Elab.async false
set_option linter.all false
set_option maxRecDepth 100000
set_option maxHeartbeats 1000000
set_option autoImplicit false
namespace Sx
open PySem L2
/-! what runs give, piece by piece -/
theorem rcons1 {ra : Run} {en e1 : En} {a : Op} (h1 : ra en = .ret (a, e1)) : rCons ra rNil en = .ret ([a.fz], e1) := by
  unfold rCons rNil
  rw [h1]
  rfl
theorem rcons2 {ra rb : Run} {en e1 e2 : En} {a b : Op} (h1 : ra en = .ret (a, e1)) (h2 : rb e1 = .ret (b, e2)) : rCons ra (rCons rb rNil) en = .ret ([a.fz, b.fz], e2) := by
  unfold rCons rNil
  rw [h1]
  show (((rb e1).bind _).bind _) = _
  rw [h2]
  rfl
theorem rcons_go {ra : Run} {rs : Runs} {en e1 e2 : En} {a : Op} {os : List Op} (h1 : ra en = .ret (a, e1)) (h2 : rs e1 = .ret (os, e2)) : rCons ra rs en = .ret (a.fz :: os, e2) := by
  unfold rCons
  rw [h1]
  show ((rs e1).bind _) = _
  rw [h2]
  rfl
theorem rcons3 {ra rb rc : Run} {en e1 e2 e3 : En} {a b c : Op} (h1 : ra en = .ret (a, e1)) (h2 : rb e1 = .ret (b, e2)) (h3 : rc e2 = .ret (c, e3)) : rCons ra (rCons rb (rCons rc rNil)) en = .ret ([a.fz, b.fz, c.fz], e3) :=
  rcons_go h1 (rcons2 h2 h3)
theorem runN1 {ra : Run} {f : List D → Option (Bool × D)} {en e1 : En} {a : Op} {d : D} {c : Bool × D} (h1 : ra en = .ret (a, e1)) (h2 : frc e1 a.fz = some d) (h3 : f [d] = some c) : runN (rCons ra rNil) f en = .ret (mkO c, e1) := by
  unfold runN rCons rNil
  rw [h1]
  show (ret1 (((frc e1 a.fz).bind fun d => (some [] : Option (List D)).bind fun ds => some (d :: ds)).bind f) e1) = _
  rw [h2]
  show (ret1 (f [d]) e1) = _
  rw [h3]
  rfl
theorem runN2 {ra rb : Run} {f : List D → Option (Bool × D)} {en e1 e2 : En} {a b : Op} {d d2 : D} {c : Bool × D} (h1 : ra en = .ret (a, e1)) (h2 : rb e1 = .ret (b, e2)) (h3 : frc e2 a.fz = some d) (h4 : frc e2 b.fz = some d2) (h5 : f [d, d2] = some c) : runN (rCons ra (rCons rb rNil)) f en = .ret (mkO c, e2) := by
  unfold runN
  rw [rcons2 h1 h2]
  show (ret1 (((frc e2 a.fz).bind fun d => ((frc e2 b.fz).bind fun d => (some [] : Option (List D)).bind fun ds => some (d :: ds)).bind fun ds => some (d :: ds)).bind f) e2) = _
  rw [h3, h4]
  show (ret1 (f [d, d2]) e2) = _
  rw [h5]
  rfl
theorem rdisp_go {f : List D → Option (Bool × D)} {rs : Runs} {en e1 : En} {os : List Op} {ds : List D} {c : Bool × D} (h1 : rs en = .ret (os, e1)) (h2 : onlyV os = some ds) (h3 : f ds = some c) : rDisp f rs en = .ret (mkO c, e1) := by
  unfold rDisp
  rw [h1]
  show ret1 ((onlyV os).bind f) e1 = _
  rw [h2]
  show ret1 (f ds) e1 = _
  rw [h3]
  rfl
theorem run2_go {ra rb : Run} {f : D → D → Option (Bool × D)} {en e1 e2 : En} {a b : Op} {x y : D} {c : Bool × D} (h1 : ra en = .ret (a, e1)) (h2 : rb e1 = .ret (b, e2)) (h3 : frc e2 a.fz = some x) (h4 : frc e2 b.fz = some y) (h5 : f x y = some c) : run2 ra rb f en = .ret (mkO c, e2) := by
  unfold run2
  rw [h1]
  show ((rb e1).bind _) = _
  rw [h2]
  show (ret1 ((frc e2 a.fz).bind fun x => (frc e2 b.fz).bind fun y => f x y) e2) = _
  rw [h3, Option.bind_some, h4, Option.bind_some, h5]
  rfl
theorem toT_go {ra : Run} {en e : En} {b : Bool} (h : ra en = .ret (.v (.bl b), e)) : toT ra en = .ret (b, e) := by
  unfold toT
  rw [h]
  rfl
theorem rand_t {ra rb : Run} {en e e2 : En} {o : Op} (h : ra en = .ret (.v (.bl true), e)) (h2 : rb e = .ret (o, e2)) : rAnd ra rb en = .ret (o, e2) := by
  unfold rAnd
  rw [toT_go h]
  exact h2
theorem ror_f {ra rb : Run} {en e e2 : En} {o : Op} (h : ra en = .ret (.v (.bl false), e)) (h2 : rb e = .ret (o, e2)) : rOr ra rb en = .ret (o, e2) := by
  unfold rOr
  rw [toT_go h]
  exact h2
theorem rnot_go {ra : Run} {en e : En} {b : Bool} (h : ra en = .ret (.v (.bl b), e)) : rNot ra en = .ret (.v (.bl !b), e) := by
  unfold rNot
  rw [toT_go h]
  rfl
theorem sseq_go {ra rb : RunS} {en e : En} (h : ra en = .ret (.nx, e)) : sSeq ra rb en = rb e := by
  unfold sSeq
  rw [h]
  rfl
theorem sif_f {ra : Run} {a : RunS} {en e : En} (h : ra en = .ret (.v (.bl false), e)) : sIf (toT ra) a sNx en = .ret (.nx, e) := by
  rw [sif_go (toT_go h)]
  rfl
theorem rcons_wp {ra : Run} {rs : Runs} {en : En} {Q : List Op × En → Prop} (h : (ra en).wp fun a => (rs a.2).wp fun b => Q (a.1.fz :: b.1, b.2)) : (rCons ra rs en).wp Q := by
  unfold rCons
  exact (T.wp_bind _ _ _).mpr (T.wp_mono h fun a q => (T.wp_bind _ _ _).mpr q)
theorem rdisp_wp {f : List D → Option (Bool × D)} {rs : Runs} {en : En} {Q : Op × En → Prop} (h : (rs en).wp fun a => ∃ ds c, onlyV a.1 = some ds ∧ f ds = some c ∧ Q (mkO c, a.2)) : (rDisp f rs en).wp Q := by
  unfold rDisp
  refine (T.wp_bind _ _ _).mpr (T.wp_mono h fun a ⟨ds, c, h1, h2, q⟩ => ?_)
  rw [h1, Option.bind_some, h2]
  exact q
theorem iseq_go {ra : Run} {en e : En} {o : Op} {ds : List D} (h : ra en = .ret (o, e)) (h2 : itemsOf (valO o) = some ds) : iSeq ra en = .ret (ds, e) := by
  unfold iSeq
  rw [h]
  show ((T.ofOpt (itemsOf (valO o))).bind _) = _
  rw [h2]
  rfl
theorem sret_go {ra : Run} {en e : En} {o : Op} {c : Bool × D} (h : ra en = .ret (o, e)) (h2 : retO o = some c) : sRet ra en = .ret (.rt c, e) := by
  unfold sRet
  rw [h]
  show ((T.ofOpt (retO o)).bind _) = _
  rw [h2]
  rfl
end Sx
set_option Elab.async false
set_option linter.all false
set_option maxRecDepth 100000
set_option maxHeartbeats 1000000
set_option autoImplicit false
namespace Sx
open PySem L2
/-! texts of tables -/
def wS : D → Str
  | .int i => toString i
  | .str s => s
  | _ => Str.empty
def okS (s : Str) : Bool := s.cps.all (fun c => decide (c ≠ 32) && decide (c ≠ 10)) && decide (s.length ≤ 41) && decide (1 ≤ s.length)
theorem code_str : ∀ d ∈ codeL, fStr [d] = some0 (.str (wS d)) ∧ okS (wS d) = true := by
  intro d hd
  unfold codeL at hd
  simp only [List.mem_cons, List.not_mem_nil, or_false] at hd
  rcases hd with rfl | rfl | rfl | rfl | rfl | rfl | rfl | rfl | rfl | rfl | rfl | rfl | rfl | rfl
  all_goals exact ⟨by kernel_rfl, by decide +kernel⟩
abbrev spS : Str := " "
abbrev nlS : Str := "\n"
def hdL (cols : List Str) : List Str := "columns" :: cols
def rwL (cols : List Str) (v : Str → Str → D) (x : Str) : List Str := "row" :: x :: cols.map fun c => wS (v x c)
def lnL (cols N : List Str) (v : Str → Str → D) : List Str := Txt.join spS (hdL cols) :: N.map fun x => Txt.join spS (rwL cols v x)
def TX (cols N : List Str) (v : Str → Str → D) : Str := Txt.join "" ((lnL cols N v).map fun l => l ++ nlS)
theorem mem_joinL {S : List Nat} {c : Nat} : ∀ {ps : List (List Nat)}, c ∈ TL.joinL S ps → c ∈ S ∨ ∃ p ∈ ps, c ∈ p
  | [], h => by cases h
  | [p], h => .inr ⟨p, List.mem_cons_self, h⟩
  | p :: q :: r, h => by
    rcases List.mem_append.mp h with h | h
    · exact .inr ⟨p, List.mem_cons_self, h⟩
    · rcases List.mem_append.mp h with h | h
      · exact .inl h
      · exact (mem_joinL h).imp id fun ⟨z, h1, h2⟩ => ⟨z, List.mem_cons_of_mem _ h1, h2⟩
theorem joinL_len {S : List Nat} : ∀ ps : List (List Nat), (TL.joinL S ps).length ≤ (ps.map List.length).sum + ps.length * S.length
  | [] => Nat.zero_le _
  | [p] => by
    show p.length ≤ p.length + 0 + 1 * S.length
    omega
  | p :: q :: r => by
    have ih := joinL_len (S := S) (q :: r)
    show (p ++ (S ++ TL.joinL S (q :: r))).length ≤ p.length + ((q :: r).map List.length).sum + ((q :: r).length + 1) * S.length
    rw [List.length_append, List.length_append, Nat.add_mul]
    omega
theorem okS_no {s : Str} (h : okS s = true) : 32 ∉ TL.tl s ∧ 10 ∉ TL.tl s ∧ s.length ≤ 41 ∧ 1 ≤ s.length := by
  unfold okS at h
  simp only [Bool.and_eq_true, decide_eq_true_iff] at h
  obtain ⟨⟨h1, h2⟩, h3⟩ := h
  rw [← Array.all_toList, List.all_eq_true] at h1
  refine ⟨fun z => ?_, fun z => ?_, h2, h3⟩
  · have := h1 32 z
    simp at this
  · have := h1 10 z
    simp at this
theorem split_line {parts : List Str} (hne : parts ≠ []) (hp : ∀ p ∈ parts, 32 ∉ TL.tl p) : Txt.split (Txt.join spS parts) spS = parts :=
  TL.split_join (y := spS) (s := 32) (S := []) rfl (by decide +kernel) hne hp
theorem join_nl (ls : List Str) : Txt.join "" (ls.map fun l => l ++ nlS) = Txt.join nlS (ls ++ [Str.empty]) := by
  refine TL.ext_tl ?_
  rw [TL.join_eq, TL.join_eq, TL.tl_join, TL.tl_join]
  have e0 : TL.tl ("" : Str) = [] := rfl
  have e1 : TL.tl nlS = [10] := rfl
  rw [e0, e1, List.map_map]
  induction ls with
  | nil => rfl
  | cons l ls ih =>
    have a : ∀ (p : List Nat) (ps : List (List Nat)), TL.joinL [] (p :: ps) = p ++ TL.joinL [] ps := fun p ps => by
      cases ps with
      | nil => exact (List.append_nil p).symm
      | cons q r => rfl
    have b : ∀ (p : List Nat) (ps : List (List Nat)), ps ≠ [] → TL.joinL [10] (p :: ps) = p ++ ([10] ++ TL.joinL [10] ps) := fun p ps h => by
      cases ps with
      | nil => exact absurd rfl h
      | cons q r => rfl
    rw [List.map_cons, a, ih, List.cons_append, List.map_cons, b _ _ (by simp)]
    show TL.tl (l ++ nlS) ++ _ = _
    rw [TL.tl_append, e1, List.append_assoc]
end Sx
set_option Elab.async false
set_option linter.all false
set_option maxRecDepth 100000
set_option maxHeartbeats 1000000
set_option autoImplicit false
namespace Sx
open PySem L2
/-! texts of tables: their lines -/
theorem nm_okS {s : Str} (h : Nm s) : okS s = true := by
  have az1 : ∀ c ∈ az.cps.toList, c ≠ 32 ∧ c ≠ 10 := by decide +kernel
  have lo := h.lo
  have hi := h.hi
  have hc := h.az
  unfold okS
  simp only [Bool.and_eq_true, decide_eq_true_iff]
  refine ⟨⟨?_, by omega⟩, lo⟩
  rw [← Array.all_toList, List.all_eq_true]
  intro c hcs
  have := az1 c (hc c hcs)
  simp [this.1, this.2]
structure Vt (cols N : List Str) (v : Str → Str → D) : Prop where
  cm : ∀ c ∈ cols, Nm c
  nm : ∀ x ∈ N, Nm x
  cv : ∀ x ∈ N, ∀ c ∈ cols, v x c ∈ codeL
  c5 : cols.length ≤ 5
  n8 : N.length ≤ 8
theorem len_join (y : Str) (parts : List Str) : (Txt.join y parts).length ≤ (parts.map (·.length)).sum + parts.length * y.length := by
  rw [TL.join_eq, TL.len_tl, TL.tl_join]
  have := joinL_len (S := TL.tl y) (parts.map TL.tl)
  rw [List.map_map, List.length_map, ← TL.len_tl] at this
  have e : (List.length ∘ TL.tl) = fun s : Str => s.length := by
    funext s
    exact (TL.len_tl s).symm
  rw [e] at this
  exact this
theorem sum_le {l : List Str} {n : Nat} (h : ∀ p ∈ l, p.length ≤ n) : (l.map (·.length)).sum ≤ l.length * n := by
  induction l with
  | nil => exact Nat.zero_le _
  | cons a l ih =>
    have := h a List.mem_cons_self
    have := ih fun p hp => h p (List.mem_cons_of_mem _ hp)
    rw [List.map_cons, List.sum_cons, List.length_cons, Nat.add_mul]
    omega
theorem line_ok {parts : List Str} (h : ∀ p ∈ parts, okS p = true) (hl : parts.length ≤ 7) : 10 ∉ TL.tl (Txt.join spS parts) ∧ (Txt.join spS parts).length ≤ 300 := by
  refine ⟨fun z => ?_, ?_⟩
  · rw [TL.join_eq, TL.tl_join] at z
    rcases mem_joinL z with z | ⟨p, hp, z⟩
    · revert z
      decide +kernel
    · obtain ⟨s, hs, rfl⟩ := List.mem_map.mp hp
      exact (okS_no (h s hs)).2.1 z
  · have h1 := len_join spS parts
    have h2 := sum_le (l := parts) (n := 41) fun p hp => (okS_no (h p hp)).2.2.1
    have h3 : spS.length = 1 := rfl
    rw [h3] at h1
    have : parts.length * 41 ≤ 7 * 41 := Nat.mul_le_mul_right _ hl
    omega
section
variable {cols N : List Str} {v : Str → Str → D}
theorem Vt.hd (T : Vt cols N v) : ∀ p ∈ hdL cols, okS p = true := fun p hp => by
  rcases List.mem_cons.mp hp with rfl | hp
  · decide +kernel
  · exact nm_okS (T.cm p hp)
theorem Vt.rw' (T : Vt cols N v) {x : Str} (hx : x ∈ N) : ∀ p ∈ rwL cols v x, okS p = true := fun p hp => by
  rcases List.mem_cons.mp hp with rfl | hp
  · decide +kernel
  · rcases List.mem_cons.mp hp with rfl | hp
    · exact nm_okS (T.nm p hx)
    · obtain ⟨c, hc, rfl⟩ := List.mem_map.mp hp
      exact (code_str _ (T.cv x hx c hc)).2
theorem rwL_len (x : Str) : (rwL cols v x).length = cols.length + 2 := by
  show (cols.map _).length + 1 + 1 = _
  rw [List.length_map]
theorem Vt.lines (T : Vt cols N v) : ∀ l ∈ lnL cols N v, 10 ∉ TL.tl l ∧ l.length ≤ 300 := fun l hl => by
  have c5 := T.c5
  rcases List.mem_cons.mp hl with rfl | hl
  · exact line_ok T.hd (by show cols.length + 1 ≤ 7; omega)
  · obtain ⟨x, hx, rfl⟩ := List.mem_map.mp hl
    exact line_ok (T.rw' hx) (by rw [rwL_len]; omega)
theorem Vt.split_text (T : Vt cols N v) : Txt.split (TX cols N v) nlS = lnL cols N v ++ [Str.empty] := by
  unfold TX
  rw [join_nl]
  refine TL.split_join (y := nlS) (s := 10) (S := []) rfl (by decide +kernel) (by simp) fun p hp => ?_
  rcases List.mem_append.mp hp with hp | hp
  · exact (T.lines p hp).1
  · rw [List.mem_singleton.mp hp]
    exact List.not_mem_nil
theorem Vt.split_hd (T : Vt cols N v) : Txt.split (Txt.join spS (hdL cols)) spS = hdL cols := split_line (by simp [hdL]) fun p hp => (okS_no (T.hd p hp)).1
theorem Vt.split_rw (T : Vt cols N v) {x : Str} (hx : x ∈ N) : Txt.split (Txt.join spS (rwL cols v x)) spS = rwL cols v x := split_line (by simp [rwL]) fun p hp => (okS_no (T.rw' hx p hp)).1
theorem lnL_len : (lnL cols N v).length = N.length + 1 := by
  show (N.map _).length + 1 = _
  rw [List.length_map]
theorem Vt.text_len (T : Vt cols N v) : (TX cols N v).length ≤ 5000 := by
  unfold TX
  have h1 := len_join "" ((lnL cols N v).map fun l => l ++ nlS)
  have h2 := sum_le (l := (lnL cols N v).map fun l => l ++ nlS) (n := 301) fun p hp => by
    obtain ⟨l, hl, rfl⟩ := List.mem_map.mp hp
    have := (T.lines l hl).2
    rw [TL.len_tl, TL.tl_append, List.length_append, ← TL.len_tl]
    have : (TL.tl nlS).length = 1 := rfl
    omega
  have n8 := T.n8
  rw [List.length_map, lnL_len] at h1 h2
  have : ("" : Str).length = 0 := rfl
  rw [this] at h1
  have : (N.length + 1) * 301 ≤ 9 * 301 := Nat.mul_le_mul_right _ (by omega)
  omega
end
end Sx
set_option Elab.async false
set_option linter.all false
set_option maxRecDepth 100000
set_option maxHeartbeats 1000000
set_option autoImplicit false
namespace Sx
open PySem L2
structure Tb (cols names : List Str) (v : Str → Str → D) : Prop where
  nd : cols.Nodup
  nn : names.Nodup
  c5 : cols.length ≤ 5
  n8 : names.length ≤ 8
  hv : ∀ x ∈ names, ∀ c ∈ cols, IsVal (v x c)
abbrev tbD (cols names : List Str) (v : Str → Str → D) : D := tabD cols (RW names fun z => cols.map (v z))
def isC (cols : List Str) : D → Bool
  | .str s => decide (s ∈ cols)
  | _ => false
theorem isi_str {x : D} {t : String} (ht : tyN x = some t) : fIsi [x, .ty "str"] = some0 (.bl (t == "str")) := by
  have m := tyN_mem ht
  show ((tyN x).bind fun t => if "str" ∈ tyBs then some0 (.bl (isB t "str")) else none) = _
  rw [ht]
  have : isB t "str" = (t == "str") := by
    unfold isB
    have : (("str" : String) == "int") = false := by decide
    rw [this, Bool.and_false, Bool.or_false]
  show (if "str" ∈ tyBs then some0 (.bl (isB t "str")) else none) = _
  rw [if_pos (by decide), this]
theorem ty_str {x : D} {t : String} (ht : tyN x = some t) : (t == "str") = true ∧ (∃ s, x = .str s) ∨ (t == "str") = false ∧ ∀ cols, isC cols x = false := by
  cases x <;> first | (cases ht; done) | (cases ht; exact .inr ⟨by decide, fun _ => rfl⟩) | (cases ht; exact .inl ⟨by decide, _, rfl⟩)
theorem valD_none {names : List Str} {f : Str → D} {c : Str} (h : c ∉ names) : valD (names.map fun x => ((Sum.inr x : Key), f x)) (.inr c) = none := by
  unfold valD
  rw [List.find?_eq_none.mpr fun kv hkv => ?_]
  · rfl
  · obtain ⟨x, hx, rfl⟩ := List.mem_map.mp hkv
    intro e
    have e := of_decide_eq_true e
    exact h (by rw [← Sum.inr.inj e]; exact hx)
theorem rowsD_RW (names : List Str) (f : Str → List D) : rowsD (RW names f) = names.map fun x => ((Sum.inr x : Key), D.tup (f x)) := by
  unfold rowsD RW
  rw [List.map_map]
  rfl
theorem in_map (names : List Str) (f : Str → D) (s : Str) : fInDG id (.str s) (.dK (names.map fun x => ((Sum.inr x : Key), f x))) = some0 (.bl (decide (s ∈ names))) := by
  show some0 (.bl (valD (names.map fun x => ((Sum.inr x : Key), f x)) (.inr s)).isSome) = _
  by_cases h : s ∈ names
  · rw [valD_map h, decide_eq_true h]
    rfl
  · rw [valD_none h, decide_eq_false h]
    rfl
theorem in_rows (names : List Str) (f : Str → List D) (s : Str) : fInDG id (.str s) (.dK (rowsD (RW names f))) = some0 (.bl (decide (s ∈ names))) := by
  rw [rowsD_RW]
  exact in_map names (fun x => D.tup (f x)) s
theorem among_any {Q : List (Key × D)} {p : List Str} (h : ∀ s : Str, fInDG id (.str s) (.dK Q) = some0 (.bl (decide (s ∈ p)))) {x : D} {t : String} (ht : tyN x = some t) : f_is_among [x, .dK Q] = .ret (false, .bl (isC p x)) := by
  have e1 := isi_str ht
  unfold f_is_among runFn r_is_among
  show ((sSeq _ _) [some (.fz, x), some (.fz, .dK Q)]).bind _ = _
  rcases ty_str ht with ⟨h1, s, rfl⟩ | ⟨h1, h2⟩
  · rw [h1] at e1
    have e2 := h s
    simp only [sSeq, sIf, sRet, sNx, sSet, sPar, sTgt, sDrop, toT, rOr, rAnd, rNot, rIf, runN, run1, run2, rCons, rNil, rBor, rVar, rMov, rC, rChn, rDisp, rCall, rSlice, oNone, oSome, ret1, frc, frcs, onlyV, valO, Op.fz, mkO, boolOf, intOf, itemsOf, iSeq, tgN, T.ret_bind, T.ofOpt, retO, putO, flOf, some0, some1, Option.bind_some, Option.map_some, List.getElem?_cons_zero, List.getElem?_cons_succ, List.set_cons_zero, List.set_cons_succ, List.length_cons, List.length_nil, mkL, mkT, small, Bool.not_true, Bool.not_false, if_true, if_false, Bool.false_eq_true, ite_true, ite_false, Nat.reduceAdd, Nat.reduceLT, Nat.reduceLeDiff, e1, e2]
    rfl
  · rw [h1] at e1
    rw [h2]
    simp only [sSeq, sIf, sRet, sNx, sSet, sPar, sTgt, sDrop, toT, rOr, rAnd, rNot, rIf, runN, run1, run2, rCons, rNil, rBor, rVar, rMov, rC, rChn, rDisp, rCall, rSlice, oNone, oSome, ret1, frc, frcs, onlyV, valO, Op.fz, mkO, boolOf, intOf, itemsOf, iSeq, tgN, T.ret_bind, T.ofOpt, retO, putO, flOf, some0, some1, Option.bind_some, Option.map_some, List.getElem?_cons_zero, List.getElem?_cons_succ, List.set_cons_zero, List.set_cons_succ, List.length_cons, List.length_nil, mkL, mkT, small, Bool.not_true, Bool.not_false, if_true, if_false, Bool.false_eq_true, ite_true, ite_false, Nat.reduceAdd, Nat.reduceLT, Nat.reduceLeDiff, e1]
section
variable {cols names : List Str} {v : Str → Str → D} {x : D} {t : String} {a : Str}
theorem among_rows (ht : tyN x = some t) : f_is_among [x, .dK (rowsD (RW names fun z => cols.map (v z)))] = .ret (false, .bl (isC names x)) := among_any (in_rows names _) ht
end
section
variable {cols names s : List Str} {v : Str → Str → D} {K : D} {x y c : Str}
end
end Sx
set_option Elab.async false
set_option linter.all false
set_option maxRecDepth 100000
set_option maxHeartbeats 1000000
set_option autoImplicit false
namespace Sx
open PySem L2
/-! two equal tables tell the same -/
theorem columns_ok (cols : List Str) (rows : Rows) : f_T_columns [tabD cols rows] = .ret (false, .tup (Sl cols)) := by
  have e1 := fld_cols cols rows
  unfold f_T_columns runFn r_T_columns
  show ((sSeq _ _) [some (.fz, tabD cols rows)]).bind _ = _
  simp only [sSeq, sIf, sRet, sNx, sSet, sPar, sTgt, sDrop, toT, rOr, rAnd, rNot, rIf, runN, run1, run2, rCons, rNil, rBor, rVar, rMov, rC, rChn, rDisp, rCall, rSlice, oNone, oSome, ret1, frc, frcs, onlyV, valO, Op.fz, mkO, boolOf, intOf, itemsOf, iSeq, tgN, T.ret_bind, T.ofOpt, retO, putO, flOf, some0, some1, Option.bind_some, Option.map_some, List.getElem?_cons_zero, List.getElem?_cons_succ, List.set_cons_zero, List.set_cons_succ, List.length_cons, List.length_nil, mkL, mkT, small, Bool.not_true, Bool.not_false, if_true, if_false, Bool.false_eq_true, ite_true, ite_false, Nat.reduceAdd, Nat.reduceLT, Nat.reduceLeDiff, e1]
theorem valP_at {ps : List (Key × PyData)} (nd : (ps.map (·.1)).Nodup) {z : Key × PyData} (h : z ∈ ps) : valP ps z.1 = some z.2 := by
  induction ps with
  | nil => cases h
  | cons y ps ih =>
    rw [List.map_cons, List.nodup_cons] at nd
    unfold valP at ih ⊢
    rw [List.find?_cons]
    rcases List.mem_cons.mp h with rfl | h
    · rw [decide_eq_true rfl]
      rfl
    · have ne : ¬ y.1 = z.1 := fun e => nd.1 (by rw [e]; exact List.mem_map.mpr ⟨z, h, rfl⟩)
      rw [decide_eq_false ne]
      exact ih nd.2 h
theorem eqDK_self {ps : List (Key × PyData)} (nd : (ps.map (·.1)).Nodup) (h : ∀ z ∈ ps, PyData.eqv z.2 z.2 = true) : eqDK ps ps = true := by
  unfold eqDK
  rw [Bool.and_eq_true]
  refine ⟨by simp, List.all_eq_true.mpr fun z hz => ?_⟩
  unfold hitB
  rw [valP_at nd hz]
  exact h z hz
theorem pyK_of {n : Nat} : ∀ {ds : List (Key × D)}, (∀ z ∈ ds, Pd n z.2) → ∃ ps, pyK ds = some ps ∧ ps.map (·.1) = ds.map (·.1) ∧ ∀ z ∈ ps, PyData.eqv z.2 z.2 = true ∧ z.2.depth ≤ n
  | [], _ => ⟨[], rfl, rfl, by simp⟩
  | (k, d) :: ds, h => by
    obtain ⟨p, h1, h2, h3⟩ := h (k, d) List.mem_cons_self
    obtain ⟨ps, g1, g2, g3⟩ := pyK_of fun z hz => h z (List.mem_cons_of_mem _ hz)
    refine ⟨(k, p) :: ps, ?_, by rw [List.map_cons, List.map_cons, g2], fun z hz => ?_⟩
    · show (py d).bind (fun p => (pyK ds).bind fun ps => some ((k, p) :: ps)) = _
      have h1 : py d = some p := h1
      rw [h1, g1]
      rfl
    · rcases List.mem_cons.mp hz with rfl | hz
      · exact ⟨(eqv_pd (n := n) (m := n) h1 h2 h1 h2).mpr rfl, h3⟩
      · exact g3 z hz
theorem rows_keys (names : List Str) (f : Str → List D) : (rowsD (RW names f)).map (·.1) = names.map Sum.inr := by
  unfold rowsD RW
  rw [List.map_map, List.map_map]
  rfl
theorem eq_tab {cols names : List Str} {v : Str → Str → D} (TB : Tb cols names v) : f_T_eq [tbD cols names v, tbD cols names v] = .ret (false, .bl true) := by
  have e1 : fFld 0 "own_rows" (tbD cols names v) = some0 (.dK (rowsD (RW names fun z => cols.map (v z)))) := fld_rows cols (RW names fun z => cols.map (v z))
  have e2 : fFld 0 "own_columns" (tbD cols names v) = some0 (.tup (Sl cols)) := fld_cols cols (RW names fun z => cols.map (v z))
  have e3 : fIsC 0 [tbD cols names v, .cl 0] = some0 (.bl true) := rfl
  have e4 : fEq (.tup (Sl cols)) (.tup (Sl cols)) = some0 (.bl true) := fEq_yes (Pd.tup pd_Sl) (Pd.tup pd_Sl) (by decide) rfl
  obtain ⟨ps, k, kk, ke⟩ := pyK_of (n := 4) (ds := rowsD (RW names fun z => cols.map (v z))) fun z hz => by
    obtain ⟨r, hr, rfl⟩ := List.mem_map.mp hz
    obtain ⟨x, hx, rfl⟩ := List.mem_map.mp hr
    refine Pd.tup (n := 3) fun d hd => ?_
    obtain ⟨c, hc, rfl⟩ := List.mem_map.mp hd
    exact (val_pd (TB.hv x hx c hc)).mono (by decide)
  have e5 : fEqDD (.dK (rowsD (RW names fun z => cols.map (v z)))) (.dK (rowsD (RW names fun z => cols.map (v z)))) = some0 (.bl true) := by
    show ((pyK _).bind fun ps => (pyK _).bind fun qs => _) = _
    rw [k]
    show (if _ then some0 (.bl (eqDK ps ps)) else none) = _
    rw [eqDK_self (by rw [kk, rows_keys]; exact inr_nd TB.nn) fun z hz => (ke z hz).1, if_pos]
    exact List.all_eq_true.mpr fun z hz => decide_eq_true (Nat.le_trans (ke z hz).2 (by decide))
  unfold f_T_eq runFn r_T_eq
  show ((sSeq _ _) [some (.fz, tbD cols names v), some (.fz, tbD cols names v)]).bind _ = _
  have hc : rC (.cl 0) [some (.fz, tbD cols names v), some (.fz, tbD cols names v)] = .ret (.v (.cl 0), [some (.fz, tbD cols names v), some (.fz, tbD cols names v)]) := rfl
  generalize tbD cols names v = B at e1 e2 e3 hc ⊢
  generalize rowsD (RW names fun z => cols.map (v z)) = Q at e1 e5
  generalize D.tup (Sl cols) = C at e2 e4
  simp only [sSeq, sIf, sRet, sNx, sSet, sPar, sTgt, sDrop, toT, rOr, rAnd, rNot, rIf, runN, run1, run2, rCons, rNil, rBor, rVar, rMov, rC, rChn, rDisp, rCall, rSlice, oNone, oSome, ret1, frc, frcs, onlyV, valO, Op.fz, mkO, boolOf, intOf, itemsOf, iSeq, tgN, T.ret_bind, T.ofOpt, retO, putO, flOf, some0, some1, Option.bind_some, Option.map_some, List.getElem?_cons_zero, List.getElem?_cons_succ, List.set_cons_zero, List.set_cons_succ, List.length_cons, List.length_nil, mkL, mkT, small, Bool.not_true, Bool.not_false, if_true, if_false, Bool.false_eq_true, ite_true, ite_false, Nat.reduceAdd, Nat.reduceLT, Nat.reduceLeDiff, e1, e2, e3, e4, e5, hc]
section
variable {cols names : List Str} {v : Str → Str → D} {x c : Str}
def rowDK (cols : List Str) (g : Str → D) : List (Key × D) := cols.map fun c => ((Sum.inr c : Key), g c)
theorem getitem_ok (TB : Tb cols names v) (hx : x ∈ names) : f_T_getitem [tbD cols names v, .str x] = .ret (true, .dK (rowDK cols (v x))) := by
  have a := among_rows (cols := cols) (names := names) (v := v) (x := .str x) rfl
  rw [show isC names (.str x) = true from decide_eq_true hx] at a
  have f1 : fFld 0 "own_rows" (tbD cols names v) = some0 (.dK (rowsD (RW names fun z => cols.map (v z)))) := fld_rows cols (RW names fun z => cols.map (v z))
  have f2 : fFld 0 "own_columns" (tbD cols names v) = some0 (.tup (Sl cols)) := fld_cols cols (RW names fun z => cols.map (v z))
  have a1 := ix_rw (f := fun z => cols.map (v z)) TB.nn hx
  have c5 := TB.c5
  have c1 : rDc (iZipA (rCons (run1 (rBor 0) (fFld 0 "own_columns")) (rCons (run2 (run1 (rBor 0) (fFld 0 "own_rows")) (rBor 1) fIxD) rNil))) none (tgTup 2 (tgCons (tgN 2) (tgCons (tgN 3) tgNil))) rYes (rVar 2) (rVar 3) [2, 3] [some (.fz, tbD cols names v), some (.fz, .str x), none, none] = .ret (.fr (.dK (rowDK cols (v x))), [some (.fz, tbD cols names v), some (.fz, .str x), none, none]) := by
    have it : iZipA (rCons (run1 (rBor 0) (fFld 0 "own_columns")) (rCons (run2 (run1 (rBor 0) (fFld 0 "own_rows")) (rBor 1) fIxD) rNil)) [some (.fz, tbD cols names v), some (.fz, .str x), none, none] = .ret (cols.map fun c => D.tup [.str c, v x c], [some (.fz, tbD cols names v), some (.fz, .str x), none, none]) := by
      have z : zipD (Sl cols) (cols.map (v x)) = cols.map fun c => D.tup [.str c, v x c] := by
        unfold zipD Sl
        rw [List.zip_map', List.map_map]
        rfl
      rw [← z]
      generalize tbD cols names v = B at f1 f2 ⊢
      generalize rowsD (RW names fun z => cols.map (v z)) = Q at a1 f1
      unfold iZipA
      simp only [sSeq, sIf, sRet, sNx, sSet, sPar, sTgt, sDrop, toT, rOr, rAnd, rNot, rIf, runN, run1, run2, rCons, rNil, rBor, rVar, rMov, rC, rChn, rDisp, rCall, rSlice, oNone, oSome, ret1, frc, frcs, onlyV, valO, Op.fz, mkO, boolOf, intOf, itemsOf, iSeq, tgN, T.ret_bind, T.ofOpt, retO, putO, flOf, some0, some1, Option.bind_some, Option.map_some, List.getElem?_cons_zero, List.getElem?_cons_succ, List.set_cons_zero, List.set_cons_succ, List.length_cons, List.length_nil, mkL, mkT, small, Bool.not_true, Bool.not_false, if_true, if_false, Bool.false_eq_true, ite_true, ite_false, Nat.reduceAdd, Nat.reduceLT, Nat.reduceLeDiff, f1, f2, a1]
    refine (rDc_map (en1 := [some (.fz, tbD cols names v), some (.fz, .str x), none, none]) (g := fun c => D.tup [.str c, v x c]) (xs := cols) (fun c => Sum.inr c) (v x) it (by omega) (inr_nd TB.nd) fun c hc => ?_).trans rfl
    exact ⟨[some (.fz, tbD cols names v), some (.fz, .str x), some (.fz, .str c), some (.fz, v x c)], .v (.str c), [some (.fz, tbD cols names v), some (.fz, .str x), some (.fz, .str c), some (.fz, v x c)], .v (v x c), [some (.fz, tbD cols names v), some (.fz, .str x), some (.fz, .str c), some (.fz, v x c)], rfl, rfl, rfl, rfl, rfl, rfl⟩
  unfold f_T_getitem runFn r_T_getitem
  show ((sSeq _ _) [some (.fz, tbD cols names v), some (.fz, .str x), none, none]).bind _ = _
  generalize rDc _ _ _ _ _ _ _ = R at c1 ⊢
  generalize tbD cols names v = B at f1 c1 ⊢
  generalize rowsD (RW names fun z => cols.map (v z)) = Q at a f1
  simp only [sSeq, sIf, sRet, sNx, sSet, sPar, sTgt, sDrop, toT, rOr, rAnd, rNot, rIf, runN, run1, run2, rCons, rNil, rBor, rVar, rMov, rC, rChn, rDisp, rCall, rSlice, oNone, oSome, ret1, frc, frcs, onlyV, valO, Op.fz, mkO, boolOf, intOf, itemsOf, iSeq, tgN, T.ret_bind, T.ofOpt, retO, putO, flOf, some0, some1, Option.bind_some, Option.map_some, List.getElem?_cons_zero, List.getElem?_cons_succ, List.set_cons_zero, List.set_cons_succ, List.length_cons, List.length_nil, mkL, mkT, small, Bool.not_true, Bool.not_false, if_true, if_false, Bool.false_eq_true, ite_true, ite_false, Nat.reduceAdd, Nat.reduceLT, Nat.reduceLeDiff, a, f1, c1]
end
end Sx
set_option Elab.async false
set_option linter.all false
set_option maxRecDepth 100000
set_option maxHeartbeats 1000000
set_option autoImplicit false
namespace Sx
open PySem L2
/-! a table's text: written -/
theorem cutF (l : List D) (n : Nat) : cutD l (some (n : Int)) none = l.drop n := by
  unfold cutD
  rw [HT.sIx_none, HT.sIx_nat]
  by_cases h : n ≤ l.length
  · rw [Nat.min_eq_left h, List.take_of_length_le (by rw [List.length_drop]; exact Nat.le_refl _)]
  · rw [Nat.min_eq_right (by omega), List.drop_length, List.drop_eq_nil_of_le (by omega)]
    simp
theorem rslice_go {ra : Run} {rl rh : RunO} {en e1 e2 e3 : En} {a : Op} {x : D} {l h : Option Int} {c : Bool × D} (h1 : ra en = .ret (a, e1)) (h2 : rl e1 = .ret (l, e2)) (h3 : rh e2 = .ret (h, e3)) (h4 : frc e3 a.fz = some x) (h5 : fSl x l h = some c) : rSlice ra rl rh en = .ret (mkO c, e3) := by
  unfold rSlice
  rw [h1]
  show ((rl e1).bind _) = _
  rw [h2]
  show ((rh e2).bind _) = _
  rw [h3]
  show ret1 ((frc e3 a.fz).bind fun x => fSl x l h) e3 = _
  rw [h4, Option.bind_some, h5]
  rfl
theorem osome_go {ra : Run} {en e : En} {a : Op} {i : Int} (h1 : ra en = .ret (a, e)) (h2 : frc e a.fz = some (.int i)) : oSome ra en = .ret (some i, e) := by
  unfold oSome
  rw [h1]
  show ((Sx.T.ofOpt (intOf (frc e a.fz))).bind _) = _
  rw [h2]
  rfl
theorem rstrm_go {ro : Run} {rs : Runs} {f : Str → List D → Option (Bool × D)} {en e1 e2 : En} {a : Op} {x : Str} {os : List Op} {ds : List D} {c : Bool × D} (h1 : ro en = .ret (a, e1)) (h2 : frc e1 a.fz = some (.str x)) (h3 : rs e1 = .ret (os, e2)) (h4 : frcs e2 os = some ds) (h5 : f x ds = some c) : rStrM ro rs f en = .ret (mkO c, e2) := by
  unfold rStrM
  rw [h1]
  show ((T.ofOpt (strOf (frc e1 a.fz))).bind _) = _
  rw [h2]
  show ((rs e1).bind _) = _
  rw [h3]
  show ret1 ((frcs e2 os).bind fun ds => f x ds) e2 = _
  rw [h4, Option.bind_some, h5]
  rfl
theorem rprop_go {cols : List Str} {rows : Rows} {f : Fn} {ro : Run} {en e1 : En} {c : Bool × D} (h0 : ro en = .ret (.v (tabD cols rows), e1)) (h2 : f [tabD cols rows] = .ret c) : rProp 0 f ro en = .ret (mkO c, e1) := by
  unfold rProp
  rw [h0]
  show ((f [tabD cols rows]).bind _) = _
  rw [h2]
  rfl
theorem join_ok {y : Str} {parts : List Str} (h : (parts.map (·.length)).sum + parts.length * y.length ≤ 65536) : fJoin y [.lst (Sl parts)] = some0 (.str (Txt.join y parts)) := by
  show (strsOf (Sl parts)).bind _ = _
  rw [strsOf_Sl, Option.bind_some]
  exact if_pos h
theorem parts_small {parts : List Str} (h : ∀ p ∈ parts, okS p = true) (hl : parts.length ≤ 7) : (parts.map (·.length)).sum + parts.length * spS.length ≤ 65536 := by
  have h2 := sum_le (l := parts) (n := 41) fun p hp => (okS_no (h p hp)).2.2.1
  have h3 : spS.length = 1 := rfl
  rw [h3]
  have : parts.length * 41 ≤ 7 * 41 := Nat.mul_le_mul_right _ hl
  omega
section
variable {cols N : List Str} {v : Str → Str → D} {x : Str}
theorem row_text_ok (V : Vt cols N v) (TB : Tb cols N v) (hx : x ∈ N) : f_row_text [tbD cols N v, .str x] = .ret (false, .str (Txt.join spS (rwL cols v x))) := by
  have gi := getitem_ok TB hx
  have cw := columns_ok cols (RW N fun z => cols.map (v z))
  have c5 := V.c5
  have ix : ∀ c ∈ cols, fIxD (.dK (rowDK cols (v x))) (.str c) = some (false, v x c) := fun c hc => ix_map (g := v x) hc
  have jn := join_ok (y := spS) (parts_small (V.rw' hx) (by rw [rwL_len]; omega))
  have hB : tbD cols N v = .obj 0 [("own_columns", .tup (Sl cols)), ("own_rows", .dK (rowsD (RW N fun z => cols.map (v z)))), ("places", .dK (plcD cols))] := rfl
  have s1 : sSet 2 (rIxO 0 f_T_getitem (rVar 0) (rVar 1)) [some (.fz, tbD cols N v), some (.fz, .str x), none, none] = .ret (.nx, [some (.fz, tbD cols N v), some (.fz, .str x), some (.ow, .dK (rowDK cols (v x))), none]) := by
    have g0 : rIxO 0 f_T_getitem (rVar 0) (rVar 1) [some (.fz, tbD cols N v), some (.fz, .str x), none, none] = .ret (.fr (.dK (rowDK cols (v x))), [some (.fz, tbD cols N v), some (.fz, .str x), none, none]) := by
      unfold rIxO
      show (if 0 = 0 then (f_T_getitem [tbD cols N v, .str x]).bind _ else .fail : T (Op × En)) = _
      rw [if_pos rfl, gi]
      rfl
    exact (sset_fr g0 (by show 2 < 4; decide)).trans rfl
  have it : iSeq (rProp 0 f_T_columns (rVar 0)) [some (.fz, tbD cols N v), some (.fz, .str x), some (.ow, .dK (rowDK cols (v x))), none] = .ret (cols.map D.str, [some (.fz, tbD cols N v), some (.fz, .str x), some (.ow, .dK (rowDK cols (v x))), none]) :=
    iseq_go (rprop_go (ro := rVar 0) (en := [some (.fz, tbD cols N v), some (.fz, .str x), some (.ow, .dK (rowDK cols (v x))), none]) rfl cw) rfl
  have L1 := lc_go (g := D.str) (re := runN (rCons (run2 (rBor 2) (rBor 3) fIxD) rNil) fStr) (l := none) (i := 3) (fun c => D.str (wS (v x c))) it (by omega) (.inl rfl) fun c hc => by
    have fs := (code_str _ (V.cv x hx c hc)).1
    refine ⟨.v (.str (wS (v x c))), runN1 (f := fStr) (c := (false, .str (wS (v x c)))) (run2_go (f := fIxD) (c := (false, v x c)) (ra := rBor 2) (a := .b 2) (rb := rBor 3) (b := .b 3) rfl rfl rfl rfl (ix c hc)) rfl fs, rfl⟩
  have d1 : rDisp mkL (rCons (rC (.str "row")) (rCons (rVar 1) rNil)) [some (.fz, tbD cols N v), some (.fz, .str x), some (.ow, .dK (rowDK cols (v x))), none] = .ret (.fr (.lst [.str "row", .str x]), [some (.fz, tbD cols N v), some (.fz, .str x), some (.ow, .dK (rowDK cols (v x))), none]) :=
    rdisp_go (f := mkL) (c := (true, .lst [.str "row", .str x])) (rcons2 (ra := rC (.str "row")) (a := .v (.str "row")) (rb := rVar 1) (b := .v (.str x)) rfl rfl) rfl rfl
  have ad : fAdd (.lst [.str "row", .str x]) (.lst (cols.map fun c => D.str (wS (v x c)))) = some1 (.lst (Sl (rwL cols v x))) := by
    show (if _ ≤ 4096 then some1 (.lst (_ ++ _)) else none) = _
    rw [if_pos (by rw [List.length_map]; show 2 + _ ≤ _; omega)]
    unfold rwL Sl
    rw [List.map_cons, List.map_cons, List.map_map]
    rfl
  have ad2 := run2_go (f := fAdd) (c := (true, .lst (Sl (rwL cols v x)))) d1 L1 rfl rfl ad
  unfold f_row_text runFn r_row_text
  show ((sSeq _ _) [some (.fz, tbD cols N v), some (.fz, .str x), none, none]).bind _ = _
  rw [sseq_go s1]
  have r := rstrm_go (ro := rC (.str spS)) (a := .v (.str spS)) (x := spS) (f := fJoin) rfl rfl (rcons1 ad2) rfl jn
  unfold sSeq
  rw [sret_go r rfl]
  rfl
theorem lines_of_ok (V : Vt cols N v) (TB : Tb cols N v) : f_lines_of [tbD cols N v] = .ret (true, .lst (Sl (lnL cols N v))) := by
  have cw := columns_ok cols (RW N fun z => cols.map (v z))
  have rw1 := rows_gen cols N fun z => cols.map (v z)
  have c5 := V.c5
  have n8 := V.n8
  have jn := join_ok (y := spS) (parts_small V.hd (by show cols.length + 1 ≤ 7; omega))
  have p1 := rprop_go (ro := rVar 0) (en := [some (.fz, tbD cols N v), none]) (e1 := [some (.fz, tbD cols N v), none]) rfl cw
  have l1 := runN1 (f := fList) (c := (true, .lst (Sl cols))) p1 rfl rfl
  have d1 := rdisp_go (f := mkL) (c := (true, .lst [.str "columns"])) (rs := rCons (rC (.str "columns")) rNil) (en := [some (.fz, tbD cols N v), none]) (rcons1 (ra := rC (.str "columns")) (a := .v (.str "columns")) rfl) rfl rfl
  have ad : fAdd (.lst [.str "columns"]) (.lst (Sl cols)) = some1 (.lst (Sl (hdL cols))) := by
    show (if _ ≤ 4096 then some1 (.lst (_ ++ _)) else none) = _
    rw [if_pos (by unfold Sl; rw [List.length_map]; show 1 + _ ≤ _; omega)]
    rfl
  have j1 := rstrm_go (ro := rC (.str spS)) (a := .v (.str spS)) (x := spS) (f := fJoin) rfl rfl (rcons1 (run2_go (f := fAdd) (c := (true, .lst (Sl (hdL cols)))) d1 l1 rfl rfl ad)) rfl jn
  have d2 := rdisp_go (f := mkL) (c := (true, .lst [.str (Txt.join spS (hdL cols))])) (rcons1 j1) rfl rfl
  have it : iSeq (rProp 0 f_T_rows (rVar 0)) [some (.fz, tbD cols N v), none] = .ret (N.map D.str, [some (.fz, tbD cols N v), none]) :=
    iseq_go (rprop_go (ro := rVar 0) (en := [some (.fz, tbD cols N v), none]) rfl rw1) rfl
  have L1 := lc_go (g := D.str) (re := rCall f_row_text (rCons (rVar 0) (rCons (rVar 1) rNil))) (l := none) (i := 1) (fun x => D.str (Txt.join spS (rwL cols v x))) it (by omega) (.inl rfl) fun x hx =>
    ⟨.v (.str (Txt.join spS (rwL cols v x))), rcall_go (rcons2 (ra := rVar 0) (a := .v (tbD cols N v)) (rb := rVar 1) (b := .v (.str x)) rfl rfl) rfl (row_text_ok V TB hx), rfl⟩
  have ad2 : fAdd (.lst [.str (Txt.join spS (hdL cols))]) (.lst (N.map fun x => D.str (Txt.join spS (rwL cols v x)))) = some1 (.lst (Sl (lnL cols N v))) := by
    show (if _ ≤ 4096 then some1 (.lst (_ ++ _)) else none) = _
    rw [if_pos (by rw [List.length_map]; show 1 + _ ≤ _; omega)]
    unfold lnL Sl
    rw [List.map_cons, List.map_map]
    rfl
  have r := run2_go (f := fAdd) (c := (true, .lst (Sl (lnL cols N v)))) d2 L1 rfl rfl ad2
  unfold f_lines_of runFn r_lines_of
  show ((sSeq _ _) [some (.fz, tbD cols N v), none]).bind _ = _
  unfold sSeq
  rw [sret_go r rfl]
  rfl
theorem lines_small (V : Vt cols N v) : (((lnL cols N v).map fun l => l ++ nlS).map (·.length)).sum + ((lnL cols N v).map fun l => l ++ nlS).length * ("" : Str).length ≤ 65536 := by
  have h2 := sum_le (l := (lnL cols N v).map fun l => l ++ nlS) (n := 301) fun p hp => by
    obtain ⟨l, hl, rfl⟩ := List.mem_map.mp hp
    have := (V.lines l hl).2
    rw [TL.len_tl, TL.tl_append, List.length_append, ← TL.len_tl]
    have : (TL.tl nlS).length = 1 := rfl
    omega
  have n8 := V.n8
  rw [List.length_map, lnL_len] at h2 ⊢
  have : ("" : Str).length = 0 := rfl
  rw [this]
  have : (N.length + 1) * 301 ≤ 9 * 301 := Nat.mul_le_mul_right _ (by omega)
  omega
theorem add_nl (V : Vt cols N v) {l : Str} (hl : l ∈ lnL cols N v) : fAdd (.str l) (.str nlS) = some0 (.str (l ++ nlS)) := by
  have h := (V.lines l hl).2
  have : nlS.length = 1 := rfl
  exact if_pos (by omega)
theorem format_ok (V : Vt cols N v) (TB : Tb cols N v) : f_format_table [tbD cols N v] = .ret (false, .str (TX cols N v)) := by
  have n8 := V.n8
  have lo := lines_of_ok V TB
  have jn := join_ok (y := "") (lines_small V)
  have it : iSeq (rCall f_lines_of (rCons (rVar 0) rNil)) [some (.fz, tbD cols N v), none] = .ret ((lnL cols N v).map D.str, [some (.fz, tbD cols N v), none]) :=
    iseq_go (rcall_go (rcons1 (ra := rVar 0) (a := .v (tbD cols N v)) (en := [some (.fz, tbD cols N v), none]) rfl) rfl lo) rfl
  have L1 := lc_go (g := D.str) (re := run2 (rBor 1) (rC (.str nlS)) fAdd) (l := none) (i := 1) (fun l => D.str (l ++ nlS)) it (by rw [lnL_len]; omega) (.inl rfl) fun l hl =>
    ⟨.v (.str (l ++ nlS)), run2_go (f := fAdd) (c := (false, .str (l ++ nlS))) (ra := rBor 1) (a := .b 1) (rb := rC (.str nlS)) (b := .v (.str nlS)) rfl rfl rfl rfl (add_nl V hl), rfl⟩
  have e : (lnL cols N v).map (fun l => D.str (l ++ nlS)) = Sl ((lnL cols N v).map fun l => l ++ nlS) := by
    unfold Sl
    rw [List.map_map]
    rfl
  rw [e] at L1
  have r := rstrm_go (ro := rC (.str "")) (a := .v (.str "")) (x := "") (f := fJoin) rfl rfl (rcons1 L1) rfl jn
  unfold f_format_table runFn r_format_table
  show ((sSeq _ _) [some (.fz, tbD cols N v), none]).bind _ = _
  unfold sSeq
  rw [sret_go r rfl]
  rfl
end
end Sx
set_option Elab.async false
set_option linter.all false
set_option maxRecDepth 100000
set_option maxHeartbeats 1000000
set_option autoImplicit false
namespace Sx
open PySem L2
/-! a table's text: the parts read -/
theorem value_of_ok : ∀ d ∈ codeL, f_value_of [.str (wS d)] = .ret (false, d) := by
  intro d hd
  unfold codeL at hd
  simp only [List.mem_cons, List.not_mem_nil, or_false] at hd
  rcases hd with rfl | rfl | rfl | rfl | rfl | rfl | rfl | rfl | rfl | rfl | rfl | rfl | rfl | rfl
  all_goals kernel_rfl
section
variable {cols N : List Str} {v : Str → Str → D} {x : Str}
theorem columns_of_ok (V : Vt cols N v) (nd : cols.Nodup) (c1 : 1 ≤ cols.length) : f_columns_of [.str (Txt.join spS (hdL cols))] = .ret (true, .lst (Sl cols)) := by
  have c5 := V.c5
  have l1 := (line_ok V.hd (by show cols.length + 1 ≤ 7; omega)).2
  have sp : fSplit (Txt.join spS (hdL cols)) [.str spS] = some1 (.lst (Sl (hdL cols))) := by
    show (if (spS.length == 0) = false ∧ (Txt.join spS (hdL cols)).length ≤ 65536 then some1 (.lst (Sl (Txt.split (Txt.join spS (hdL cols)) spS))) else none) = _
    rw [if_pos ⟨rfl, by omega⟩, V.split_hd]
  have an := are_names_15 (k := .lst (Sl cols)) (.inl rfl) V.cm nd c1 c5
  have s1 : sSet 1 (rStrM (rBor 0) (rCons (rC (.str spS)) rNil) fSplit) [some (.fz, .str (Txt.join spS (hdL cols))), none] = .ret (.nx, [some (.fz, .str (Txt.join spS (hdL cols))), some (.ow, .lst (Sl (hdL cols)))]) :=
    (sset_fr (rstrm_go (f := fSplit) (c := (true, .lst (Sl (hdL cols)))) (ro := rBor 0) (a := .b 0) (x := Txt.join spS (hdL cols)) (en := [some (.fz, .str (Txt.join spS (hdL cols))), none]) rfl rfl (rcons1 (ra := rC (.str spS)) (a := .v (.str spS)) rfl) rfl sp) (by show 1 < 2; decide)).trans rfl
  have i0 : fIx (.lst (Sl (hdL cols))) (.int 0) = some0 (.str "columns") := ix_lst (i := 0) rfl
  have eq0 : fEq (.str "columns") (.str "columns") = some0 (.bl true) := by
    rw [fEq_str, decide_eq_true rfl]
  have sl : fSl (.lst (Sl (hdL cols))) (some ((1 : Nat) : Int)) none = some1 (.lst (Sl cols)) := by
    show some1 (.lst (cutD _ _ _)) = _
    rw [cutF]
    rfl
  generalize Txt.join spS (hdL cols) = X at s1 ⊢
  generalize Sl (hdL cols) = Hd at s1 i0 sl
  have r1 := run2_go (f := fEq) (c := (false, .bl true)) (run2_go (f := fIx) (c := (false, .str "columns")) (en := [some (.fz, .str X), some (.ow, .lst Hd)]) (ra := rBor 1) (a := .b 1) (rb := rC (.int 0)) (b := .v (.int 0)) rfl rfl rfl rfl i0) (rb := rC (.str "columns")) (b := .v (.str "columns")) rfl rfl rfl eq0
  have r2 := rslice_go (c := (true, .lst (Sl cols))) (h := none) (rh := oNone) (en := [some (.fz, .str X), some (.ow, .lst Hd)]) (e3 := [some (.fz, .str X), some (.ow, .lst Hd)]) (ra := rBor 1) (a := .b 1) rfl (osome_go (ra := rC (.int 1)) (a := .v (.int 1)) (e := [some (.fz, .str X), some (.ow, .lst Hd)]) rfl rfl) rfl rfl sl
  have r3 := rcall_go (f := f_are_names) (rcons3 r2 (rb := rC (.int 1)) (b := .v (.int 1)) (rc := rC (.int 5)) (c := .v (.int 5)) rfl rfl) rfl an
  have r4 : rIf (rAnd (run2 (run2 (rBor 1) (rC (.int 0)) fIx) (rC (.str "columns")) fEq) (rCall f_are_names (rCons (rSlice (rBor 1) (oSome (rC (.int 1))) oNone) (rCons (rC (.int 1)) (rCons (rC (.int 5)) rNil))))) (rSlice (rBor 1) (oSome (rC (.int 1))) oNone) (rC .non) [some (.fz, .str X), some (.ow, .lst Hd)] = .ret (.fr (.lst (Sl cols)), [some (.fz, .str X), some (.ow, .lst Hd)]) := by
    unfold rIf
    rw [toT_go (rand_t r1 r3)]
    exact r2
  unfold f_columns_of runFn r_columns_of
  show ((sSeq _ _) [some (.fz, .str X), none]).bind _ = _
  rw [sseq_go s1]
  unfold sSeq
  rw [sret_go r4 rfl]
  rfl
theorem code_none : ∀ d ∈ codeL, ∃ p, py d = some p ∧ PyData.eqv p .none = false := by
  intro d hd
  unfold codeL at hd
  simp only [List.mem_cons, List.not_mem_nil, or_false] at hd
  rcases hd with rfl | rfl | rfl | rfl | rfl | rfl | rfl | rfl | rfl | rfl | rfl | rfl | rfl | rfl
  all_goals exact ⟨_, rfl, by simp [PyData.eqv]⟩
theorem in_none {ds : List D} (h : ∀ d ∈ ds, d ∈ codeL) : fIn .non (.lst ds) = some0 (.bl false) := by
  have : ∃ ps, pyL ds = some ps ∧ (ps.any fun z => PyData.eqv z .none) = false := by
    induction ds with
    | nil => exact ⟨[], rfl, rfl⟩
    | cons d ds ih =>
      obtain ⟨p, h1, h2⟩ := code_none d (h d List.mem_cons_self)
      obtain ⟨ps, g1, g2⟩ := ih fun d hd => h d (List.mem_cons_of_mem _ hd)
      exact ⟨p :: ps, by rw [pyL, h1, g1]; rfl, by rw [List.any_cons, h2, g2]; rfl⟩
  obtain ⟨ps, h1, h2⟩ := this
  show (some PyData.none).bind (fun p => (pyL ds).bind fun ps => if p.depth ≤ 60 then some0 (.bl (if false then !ps.any fun z => PyData.eqv z p else ps.any fun z => PyData.eqv z p)) else none) = _
  rw [Option.bind_some, h1, Option.bind_some, if_pos (by simp [PyData.depth])]
  show some0 (.bl (ps.any fun z => PyData.eqv z .none)) = _
  rw [h2]
theorem row_of_ok (V : Vt cols N v) (hx : x ∈ N) : f_row_of [.str (Txt.join spS (rwL cols v x)), .int (cols.length : Nat)] = .ret (false, .tup [.str x, .tup (cols.map (v x))]) := by
  have c5 := V.c5
  have l1 := (line_ok (V.rw' hx) (by rw [rwL_len]; omega)).2
  have sp : fSplit (Txt.join spS (rwL cols v x)) [.str spS] = some1 (.lst (Sl (rwL cols v x))) := by
    show (if (spS.length == 0) = false ∧ (Txt.join spS (rwL cols v x)).length ≤ 65536 then some1 (.lst (Sl (Txt.split (Txt.join spS (rwL cols v x)) spS))) else none) = _
    rw [if_pos ⟨rfl, by omega⟩, V.split_rw hx]
  have nm := is_name_ok (V.nm x hx)
  have vo : ∀ c ∈ cols, f_value_of [.str (wS (v x c))] = .ret (false, v x c) := fun c hc => value_of_ok _ (V.cv x hx c hc)
  have inn := in_none (ds := cols.map (v x)) fun d hd => by
    obtain ⟨c, hc, rfl⟩ := List.mem_map.mp hd
    exact V.cv x hx c hc
  have i0 : fIx (.lst (Sl (rwL cols v x))) (.int 0) = some0 (.str "row") := ix_lst (i := 0) rfl
  have i1 : fIx (.lst (Sl (rwL cols v x))) (.int 1) = some0 (.str x) := ix_lst (i := 1) rfl
  have ln : fLen [.lst (Sl (rwL cols v x))] = some0 (.int ((cols.length + 2 : Nat) : Int)) := by
    show some0 (.int (((Sl (rwL cols v x)).length : Nat) : Int)) = _
    unfold Sl
    rw [List.length_map, rwL_len]
  have ad : fAdd (.int 2) (.int (cols.length : Nat)) = some0 (.int ((cols.length + 2 : Nat) : Int)) := by
    show some0 (.int (2 + (cols.length : Int))) = _
    congr 2
    omega
  have ne0 : fNe (.str "row") (.str "row") = some0 (.bl false) := by
    rw [fNe_str, decide_eq_false (not_not_intro rfl)]
  have ne1 : fNe (.int ((cols.length + 2 : Nat) : Int)) (.int ((cols.length + 2 : Nat) : Int)) = some0 (.bl false) := fNe_no (.int _ 0) (.int _ 0) (by decide) rfl
  have sl : fSl (.lst (Sl (rwL cols v x))) (some ((2 : Nat) : Int)) none = some1 (.lst (cols.map fun c => D.str (wS (v x c)))) := by
    show some1 (.lst (cutD _ _ _)) = _
    rw [cutF]
    unfold rwL Sl
    rw [List.map_cons, List.map_cons, List.map_map]
    rfl
  generalize Txt.join spS (rwL cols v x) = X at sp ⊢
  generalize Sl (rwL cols v x) = Hd at sp i0 i1 ln sl
  generalize hn : D.int (cols.length : Nat) = nD at ad ⊢
  have s1 : sSet 2 (rStrM (rBor 0) (rCons (rC (.str spS)) rNil) fSplit) [some (.fz, .str X), some (.fz, nD), none, none, none] = .ret (.nx, [some (.fz, .str X), some (.fz, nD), some (.ow, .lst Hd), none, none]) :=
    (sset_fr (rstrm_go (f := fSplit) (c := (true, .lst Hd)) (ro := rBor 0) (a := .b 0) (x := X) (en := [some (.fz, .str X), some (.fz, nD), none, none, none]) rfl rfl (rcons1 (ra := rC (.str spS)) (a := .v (.str spS)) rfl) rfl sp) (by show 2 < 5; decide)).trans rfl
  generalize hE : ([some (.fz, .str X), some (.fz, nD), some (.ow, .lst Hd), none, none] : En) = E0 at s1
  have b2 : rBor 2 E0 = .ret (.b 2, E0) := by subst hE; rfl
  have f2 : frc E0 (Op.b 2).fz = some (.lst Hd) := by subst hE; rfl
  have b1 : rBor 1 E0 = .ret (.b 1, E0) := by subst hE; rfl
  have f1 : frc E0 (Op.b 1).fz = some nD := by subst hE; rfl
  have q0 := run2_go (f := fNe) (c := (false, .bl false)) (run2_go (f := fIx) (c := (false, .str "row")) b2 (rb := rC (.int 0)) (b := .v (.int 0)) rfl f2 rfl i0) (rb := rC (.str "row")) (b := .v (.str "row")) rfl rfl rfl ne0
  have q1 := run2_go (f := fNe) (c := (false, .bl false)) (runN1 (f := fLen) (c := (false, .int ((cols.length + 2 : Nat) : Int))) b2 f2 ln) (run2_go (f := fAdd) (c := (false, .int ((cols.length + 2 : Nat) : Int))) (ra := rC (.int 2)) (a := .v (.int 2)) rfl b1 rfl f1 ad) rfl rfl ne1
  have w1 := run2_go (f := fIx) (c := (false, .str x)) b2 (rb := rC (.int 1)) (b := .v (.int 1)) rfl f2 rfl i1
  have q2 := rnot_go (b := true) (rcall_go (f := f_is_name) (rcons1 w1) rfl nm)
  have e2 : sIf (toT (rOr (run2 (run2 (rBor 2) (rC (.int 0)) fIx) (rC (.str "row")) fNe) (rOr (run2 (runN (rCons (rBor 2) rNil) fLen) (run2 (rC (.int 2)) (rBor 1) fAdd) fNe) (rNot (rCall f_is_name (rCons (run2 (rBor 2) (rC (.int 1)) fIx) rNil)))))) (sSeq (sRet (rC .non)) sNx) sNx E0 = .ret (.nx, E0) := sif_f (ror_f q0 (ror_f q1 q2))
  have sl2 := rslice_go (c := (true, .lst (cols.map fun c => D.str (wS (v x c))))) (h := none) (rh := oNone) (e3 := E0) b2 (osome_go (ra := rC (.int 2)) (a := .v (.int 2)) (e := E0) rfl rfl) rfl f2 sl
  have it : iSeq (rSlice (rBor 2) (oSome (rC (.int 2))) oNone) E0 = .ret (cols.map fun c => D.str (wS (v x c)), E0) := iseq_go sl2 rfl
  have L1 := lc_go (g := fun c => D.str (wS (v x c))) (re := rCall f_value_of (rCons (rVar 4) rNil)) (l := none) (i := 4) (v x) it (by omega) (by subst hE; exact .inl rfl) fun c hc =>
    ⟨.v (v x c), rcall_go (rcons1 (ra := rVar 4) (a := .v (.str (wS (v x c)))) (by subst hE; rfl)) rfl (vo c hc), rfl⟩
  have e3 : sSet 3 (rLc (iSeq (rSlice (rBor 2) (oSome (rC (.int 2))) oNone)) none (tgN 4) rYes (rCall f_value_of (rCons (rVar 4) rNil)) [4]) E0 = .ret (.nx, [some (.fz, .str X), some (.fz, nD), some (.ow, .lst Hd), some (.ow, .lst (cols.map (v x))), none]) := by
    subst hE
    exact (sset_fr L1 (by show 3 < 5; decide)).trans rfl
  generalize hV : cols.map (v x) = VL at e3 inn ⊢
  have r5 : rIf (run2 (rC .non) (rBor 3) fIn) (rC .non) (rDisp mkT (rCons (run2 (rBor 2) (rC (.int 1)) fIx) (rCons (runN (rCons (rBor 3) rNil) fTuple) rNil))) [some (.fz, .str X), some (.fz, nD), some (.ow, .lst Hd), some (.ow, .lst VL), none] = .ret (.v (.tup [.str x, .tup VL]), [some (.fz, .str X), some (.fz, nD), some (.ow, .lst Hd), some (.ow, .lst VL), none]) := by
    have t0 := toT_go (run2_go (f := fIn) (c := (false, .bl false)) (ra := rC .non) (a := .v .non) (en := [some (.fz, .str X), some (.fz, nD), some (.ow, .lst Hd), some (.ow, .lst VL), none]) (rb := rBor 3) (b := .b 3) rfl rfl rfl rfl inn)
    have u1 := run2_go (f := fIx) (c := (false, .str x)) (en := [some (.fz, .str X), some (.fz, nD), some (.ow, .lst Hd), some (.ow, .lst VL), none]) (ra := rBor 2) (a := .b 2) (rb := rC (.int 1)) (b := .v (.int 1)) rfl rfl rfl rfl i1
    have u2 := runN1 (f := fTuple) (c := (false, .tup VL)) (d := .lst VL) (en := [some (.fz, .str X), some (.fz, nD), some (.ow, .lst Hd), some (.ow, .lst VL), none]) (ra := rBor 3) (a := .b 3) rfl rfl rfl
    unfold rIf
    rw [t0]
    exact rdisp_go (f := mkT) (c := (false, .tup [.str x, .tup VL])) (rcons2 u1 u2) rfl rfl
  unfold f_row_of runFn r_row_of
  show ((sSeq _ _) [some (.fz, .str X), some (.fz, nD), none, none, none]).bind _ = _
  rw [sseq_go s1, sseq_go e2, sseq_go e3]
  unfold sSeq
  rw [sret_go r5 rfl]
  rfl
end
end Sx
set_option Elab.async false
set_option linter.all false
set_option maxRecDepth 100000
set_option maxHeartbeats 1000000
set_option autoImplicit false
namespace Sx
open PySem L2
/-! a table's text: read -/
theorem le_no {x l : Str} (h : Lt l x) : fLe (.str x) (.str l) = some0 (.bl false) := by
  have := fLt_str l x
  rw [decide_eq_true (p := l.cps.toList < x.cps.toList) h] at this
  have e : PySem.W.dataLt (.str l) (.str x) = true := by
    have h2 : some0 (.bl (PySem.W.dataLt (.str l) (.str x))) = some0 (.bl true) := this
    injection h2 with h3
    injection h3 with _ h4
    injection h4
  show some0 (.bl (!PySem.W.dataLt (.str l) (.str x))) = _
  rw [e]
  rfl
theorem ge_no {i : Nat} (h : i < 8) : fGe (.int (i : Nat)) (.int 8) = some0 (.bl false) := by
  show some0 (.bl (!PySem.W.dataLt (.int (i : Nat)) (.int 8))) = _
  rw [PySem.W.dataLt_int, decide_eq_true (by omega)]
  rfl
abbrev EPt (X : Str) (s1 s2 s3 s4 s5 s6 s7 s8 s9 : Slot) : En := [some (.fz, .str X), s1, s2, s3, s4, s5, s6, s7, s8, s9]
@[irreducible] def pa1 : RunS := (sIf (toT (rOr (rNot (runN (rCons (rBor 0) (rCons (rC (.ty "str")) rNil)) fIsi)) (run2 (rBor 0) (rC (.str "")) fEq))) (sSeq sFail
    sNx) sNx)
@[irreducible] def pa2 : RunS := (sStar 1 2 (rStrM (rBor 0) (rCons (rC (.str "\n")) rNil) fSplit))
@[irreducible] def pa3 : RunS := (sIf (toT (run2 (rBor 2) (rC (.str "")) fNe)) (sSeq (sSet 1 (run2 (rBor 1) (rDisp mkL (rCons (rVar 2) rNil)) fAdd))
    sNx) sNx)
@[irreducible] def pa4 : RunS := (sSet 3 (rCall f_columns_of (rCons (run2 (rBor 1) (rC (.int 0)) fIx) rNil)))
@[irreducible] def pa5 : RunS := (sIf (toT (run2 (rBor 3) (rC .non) fIsP)) (sSeq sFail
    sNx) sNx)
@[irreducible] def paB : RunD := (dSeq (dSet 8 (rCall f_row_of (rCons (rVar 7) (rCons (runN (rCons (rBor 3) rNil) fLen) rNil))))
    (dSeq (dIf (toT (rOr (run2 (rBor 8) (rC .non) fIsP) (rOr (run2 (run2 (rBor 8) (rC (.int 0)) fIx) (rBor 5) fLe) (run2 (rBor 6) (rC (.int 8)) fGe)))) (dSeq dFail
    dNx) dNx)
    (dSeq (dTgt (tgTup 2 (tgCons (tgN 5) (tgCons (tgN 9) tgNil))) (rVar 8))
    (dSeq (dPutV (rVar 5) (rVar 9))
    dNx))))
@[irreducible] def pa6 : RunS := (sDeep 4 (dSeq (dSet 5 (rC (.str ""))) (dFor (iEnumR (rCons (rSlice (rBor 1) (oSome (rC (.int 1))) oNone) rNil)) (tgTup 2 (tgCons (tgN 6) (tgCons (tgN 7) tgNil))) paB)))
@[irreducible] def pa7 : RunS := (sIf (toT (run2 (rBor 2) (rC (.str "")) fNe)) (sSeq sFail
    sNx) sNx)
@[irreducible] def pa8 : RunS := (sRet (rMake 5 0 k_T_init (rCons (rVar 3) (rCons (rVar 4) rNil))))
def rwD (cols N : List Str) (v : Str → Str → D) : List (Key × D) := N.map fun x => ((Sum.inr x : Key), D.tup (cols.map (v x)))
theorem dif_f {ra : Run} {a : RunD} {en e : En} {c : D} (h : ra en = .ret (.v (.bl false), e)) : dIf (toT ra) a dNx (en, c) = .ret (e, c) := by
  unfold dIf
  rw [show toT ra (en, c).1 = .ret (false, e) from toT_go h]
  rfl
theorem dtgt_go {t : Tg} {re : Run} {en e e2 : En} {o : Op} {d c : D} (h : re en = .ret (o, e)) (h2 : valO o = some d) (h3 : t d e = some e2) : dTgt t re (en, c) = .ret (e2, c) := by
  unfold dTgt
  rw [show re (en, c).1 = .ret (o, e) from h]
  show ((T.ofOpt (valO o)).bind _) = _
  rw [h2]
  show ((T.ofOpt (t d e)).bind _) = _
  rw [h3]
  rfl
section
variable {cols N : List Str} {v : Str → Str → D} {X : Str} {s1 s2 s5 s6 s7 s8 s9 : Slot}
theorem paB_run (V : Vt cols N v) {x : Str} (hx : x ∈ N) {i : Nat} (hi : i < 8) {l : Str} (hl : l = "" ∨ Lt l x) {acc : List (Key × D)} (ha : acc.length < 100) :
    paB (EPt X s1 s2 (some (.ow, .lst (Sl cols))) none (some (.fz, .str l)) (some (.fz, .int (i : Nat))) (some (.fz, .str (Txt.join spS (rwL cols v x)))) s8 s9, .dK acc) =
      .ret (EPt X s1 s2 (some (.ow, .lst (Sl cols))) none (some (.fz, .str x)) (some (.fz, .int (i : Nat))) (some (.fz, .str (Txt.join spS (rwL cols v x)))) (some (.fz, .tup [.str x, .tup (cols.map (v x))])) (some (.fz, .tup (cols.map (v x)))), .dK (putD acc (.inr x) (.tup (cols.map (v x))))) := by
  have ro := row_of_ok V hx
  have ln : fLen [.lst (Sl cols)] = some0 (.int (cols.length : Nat)) := by
    show some0 (.int (((Sl cols).length : Nat) : Int)) = _
    unfold Sl
    rw [List.length_map]
  have le : fLe (.str x) (.str l) = some0 (.bl false) := by
    rcases hl with rfl | hl
    · refine le_no ?_
      have := (V.nm x hx).list.1
      show ([] : List Nat) < x.cps.toList
      cases h : x.cps.toList with
      | nil => rw [h] at this; simp at this
      | cons a b => exact List.nil_lt_cons a b
    · exact le_no hl
  have ge := ge_no hi
  generalize Txt.join spS (rwL cols v x) = LN at ro ⊢
  generalize cols.map (v x) = VL at ro ⊢
  generalize hC : D.lst (Sl cols) = CD at ln ⊢
  generalize D.int (cols.length : Nat) = nD at ln ro
  have r1 : rCall f_row_of (rCons (rVar 7) (rCons (runN (rCons (rBor 3) rNil) fLen) rNil)) (EPt X s1 s2 (some (.ow, CD)) none (some (.fz, .str l)) (some (.fz, .int (i : Nat))) (some (.fz, .str LN)) s8 s9) = .ret (.v (.tup [.str x, .tup VL]), EPt X s1 s2 (some (.ow, CD)) none (some (.fz, .str l)) (some (.fz, .int (i : Nat))) (some (.fz, .str LN)) s8 s9) :=
    rcall_go (rcons2 (ra := rVar 7) (a := .v (.str LN)) rfl (runN1 (f := fLen) (c := (false, nD)) (ra := rBor 3) (a := .b 3) rfl rfl ln)) rfl ro
  have d1 := (dset_v (i := 8) (c := .dK acc) r1 (by show 8 < 10; decide)).trans (show T.ret (_, _) = .ret (EPt X s1 s2 (some (.ow, CD)) none (some (.fz, .str l)) (some (.fz, .int (i : Nat))) (some (.fz, .str LN)) (some (.fz, .tup [.str x, .tup VL])) s9, .dK acc) from rfl)
  have q1 : run2 (rBor 8) (rC .non) fIsP (EPt X s1 s2 (some (.ow, CD)) none (some (.fz, .str l)) (some (.fz, .int (i : Nat))) (some (.fz, .str LN)) (some (.fz, .tup [.str x, .tup VL])) s9) = .ret (.v (.bl false), EPt X s1 s2 (some (.ow, CD)) none (some (.fz, .str l)) (some (.fz, .int (i : Nat))) (some (.fz, .str LN)) (some (.fz, .tup [.str x, .tup VL])) s9) :=
    run2_go (f := fIsP) (c := (false, .bl false)) (ra := rBor 8) (a := .b 8) (rb := rC .non) (b := .v .non) rfl rfl rfl rfl rfl
  have i0 : fIx (.tup [.str x, .tup VL]) (.int 0) = some0 (.str x) := rfl
  have q2 := run2_go (f := fLe) (c := (false, .bl false)) (run2_go (f := fIx) (c := (false, .str x)) (en := EPt X s1 s2 (some (.ow, CD)) none (some (.fz, .str l)) (some (.fz, .int (i : Nat))) (some (.fz, .str LN)) (some (.fz, .tup [.str x, .tup VL])) s9) (ra := rBor 8) (a := .b 8) (rb := rC (.int 0)) (b := .v (.int 0)) rfl rfl rfl rfl i0) (rb := rBor 5) (b := .b 5) rfl rfl rfl le
  have q3 := run2_go (f := fGe) (c := (false, .bl false)) (en := EPt X s1 s2 (some (.ow, CD)) none (some (.fz, .str l)) (some (.fz, .int (i : Nat))) (some (.fz, .str LN)) (some (.fz, .tup [.str x, .tup VL])) s9) (ra := rBor 6) (a := .b 6) (rb := rC (.int 8)) (b := .v (.int 8)) rfl rfl rfl rfl ge
  have d2 := dif_f (a := dSeq dFail dNx) (c := .dK acc) (ror_f q1 (ror_f q2 q3))
  have d3 := dtgt_go (t := tgTup 2 (tgCons (tgN 5) (tgCons (tgN 9) tgNil))) (re := rVar 8) (c := .dK acc) (o := .v (.tup [.str x, .tup VL])) (d := .tup [.str x, .tup VL]) (en := EPt X s1 s2 (some (.ow, CD)) none (some (.fz, .str l)) (some (.fz, .int (i : Nat))) (some (.fz, .str LN)) (some (.fz, .tup [.str x, .tup VL])) s9) (e2 := EPt X s1 s2 (some (.ow, CD)) none (some (.fz, .str x)) (some (.fz, .int (i : Nat))) (some (.fz, .str LN)) (some (.fz, .tup [.str x, .tup VL])) (some (.fz, .tup VL))) rfl rfl rfl
  have d4 := dputv_go (ds := acc) (rv := rVar 9) (rk := rVar 5) (en := EPt X s1 s2 (some (.ow, CD)) none (some (.fz, .str x)) (some (.fz, .int (i : Nat))) (some (.fz, .str LN)) (some (.fz, .tup [.str x, .tup VL])) (some (.fz, .tup VL))) (e1 := EPt X s1 s2 (some (.ow, CD)) none (some (.fz, .str x)) (some (.fz, .int (i : Nat))) (some (.fz, .str LN)) (some (.fz, .tup [.str x, .tup VL])) (some (.fz, .tup VL))) (o := .v (.tup VL)) (d := .tup VL) (o2 := .v (.str x)) (k := .inr x) rfl rfl rfl rfl (by omega)
  unfold paB
  rw [dseq_go d1, dseq_go d2, dseq_go d3, dseq_go d4]
  rfl
theorem parse_ok (V : Vt cols N v) (TB : Tb cols N v) (c1 : 1 ≤ cols.length) (hN : N.Pairwise Lt) : f_parse_table [.str (TX cols N v)] = .ret (true, tbD cols N v) := by
  have tl := V.text_len
  have st := V.split_text
  have co := columns_of_ok V TB.nd c1
  have ne : TX cols N v ≠ "" := fun z => by
    rw [z] at st
    have e : Txt.split ("" : Str) nlS = [("" : Str)] := by kernel_rfl
    rw [e] at st
    have := congrArg List.length st
    rw [List.length_append, lnL_len] at this
    simp at this
  have isi : fIsi [.str (TX cols N v), .ty "str"] = some0 (.bl true) := rfl
  have eq0 : fEq (.str (TX cols N v)) (.str "") = some0 (.bl false) := by
    rw [fEq_str, decide_eq_false ne]
  have sp : fSplit (TX cols N v) [.str nlS] = some1 (.lst (Sl (lnL cols N v ++ [Str.empty]))) := by
    show (if (nlS.length == 0) = false ∧ (TX cols N v).length ≤ 65536 then some1 (.lst (Sl (Txt.split (TX cols N v) nlS))) else none) = _
    rw [if_pos ⟨rfl, by omega⟩, st]
  have n8 := V.n8
  have sd : ∀ e : En, e.length = 10 → starD 1 2 (.lst (Sl (lnL cols N v ++ [Str.empty]))) e = some ((e.set 1 (some (.fz, .lst (Sl (lnL cols N v))))).set 2 (some (.fz, .str Str.empty))) := fun e he => by
    have l1 : (Sl (lnL cols N v ++ [Str.empty])).length = (lnL cols N v).length + 1 := by
      unfold Sl
      rw [List.length_map, List.length_append]
      rfl
    have t1 : (Sl (lnL cols N v ++ [Str.empty])).take (lnL cols N v).length = Sl (lnL cols N v) := by
      unfold Sl
      rw [← List.map_take, List.take_left' rfl]
    have t2 : (Sl (lnL cols N v ++ [Str.empty])).drop (lnL cols N v).length = [.str Str.empty] := by
      unfold Sl
      rw [← List.map_drop, List.drop_left' rfl]
      rfl
    unfold starD
    dsimp only
    rw [l1, Nat.add_sub_cancel, t2, t1]
    dsimp only
    rw [if_pos ⟨by rw [lnL_len]; omega, by omega, by omega⟩]
  have i0 : fIx (.lst (Sl (lnL cols N v))) (.int 0) = some0 (.str (Txt.join spS (hdL cols))) := ix_lst (i := 0) rfl
  have ne2 : fNe (.str Str.empty) (.str "") = some0 (.bl false) := by
    rw [fNe_str]
    rfl
  have sl : fSl (.lst (Sl (lnL cols N v))) (some ((1 : Nat) : Int)) none = some1 (.lst (N.map fun x => D.str (Txt.join spS (rwL cols v x)))) := by
    show some1 (.lst (cutD _ _ _)) = _
    rw [cutF]
    unfold lnL Sl
    rw [List.map_cons, List.map_map]
    rfl
  have ini := init_gen (kc := .lst (Sl cols)) (cols := cols) (names := N) (f := fun y => cols.map (v y)) (.inl rfl) V.cm TB.nd c1 V.c5 TB.nn V.nm n8 fun y hy => ⟨List.length_map _, fun d hd => by
    obtain ⟨c, hc, rfl⟩ := List.mem_map.mp hd
    exact TB.hv y hy c hc⟩
  have sN : srt N = N := lt_unique (srt_lt TB.nn) hN fun _ => srt_mem
  rw [sN] at ini
  have hR : r_parse_table = sSeq pa1 (sSeq pa2 (sSeq pa3 (sSeq pa4 (sSeq pa5 (sSeq pa6 (sSeq pa7 (sSeq pa8 sNx))))))) := by
    unfold r_parse_table pa1 pa2 pa3 pa4 pa5 pa6 pa7 pa8 paB
    rfl
  generalize TX cols N v = X at isi eq0 sp ⊢
  have e1 : pa1 (EPt X none none none none none none none none none) = .ret (.nx, EPt X none none none none none none none none none) := by
    unfold pa1
    have r1 := runN2 (f := fIsi) (c := (false, .bl true)) (en := EPt X none none none none none none none none none) (ra := rBor 0) (a := .b 0) (rb := rC (.ty "str")) (b := .v (.ty "str")) rfl rfl rfl rfl isi
    have r2 := run2_go (f := fEq) (c := (false, .bl false)) (en := EPt X none none none none none none none none none) (ra := rBor 0) (a := .b 0) (rb := rC (.str "")) (b := .v (.str "")) rfl rfl rfl rfl eq0
    exact sif_f (ror_f (rnot_go (b := true) r1) r2)
  have e2 : pa2 (EPt X none none none none none none none none none) = .ret (.nx, EPt X (some (.fz, .lst (Sl (lnL cols N v)))) (some (.fz, .str Str.empty)) none none none none none none none) := by
    have r := rstrm_go (f := fSplit) (c := (true, .lst (Sl (lnL cols N v ++ [Str.empty])))) (ro := rBor 0) (a := .b 0) (x := X) (en := EPt X none none none none none none none none none) rfl rfl (rcons1 (ra := rC (.str nlS)) (a := .v (.str nlS)) rfl) rfl sp
    unfold pa2 sStar
    rw [r]
    show ((T.ofOpt (starD 1 2 (.lst (Sl (lnL cols N v ++ [Str.empty]))) _)).bind _) = _
    rw [sd _ rfl]
    rfl
  have e3 : ∀ s3 s4 s5 s6 s7 s8 s9, pa3 (EPt X (some (.fz, .lst (Sl (lnL cols N v)))) (some (.fz, .str Str.empty)) s3 s4 s5 s6 s7 s8 s9) = .ret (.nx, EPt X (some (.fz, .lst (Sl (lnL cols N v)))) (some (.fz, .str Str.empty)) s3 s4 s5 s6 s7 s8 s9) := fun s3 s4 s5 s6 s7 s8 s9 => by
    unfold pa3
    exact sif_f (run2_go (f := fNe) (c := (false, .bl false)) (ra := rBor 2) (a := .b 2) (rb := rC (.str "")) (b := .v (.str "")) rfl rfl rfl rfl ne2)
  have e4 : pa4 (EPt X (some (.fz, .lst (Sl (lnL cols N v)))) (some (.fz, .str Str.empty)) none none none none none none none) = .ret (.nx, EPt X (some (.fz, .lst (Sl (lnL cols N v)))) (some (.fz, .str Str.empty)) (some (.ow, .lst (Sl cols))) none none none none none none) := by
    generalize D.lst (Sl (lnL cols N v)) = LD at i0 ⊢
    have r := run2_go (f := fIx) (c := (false, .str (Txt.join spS (hdL cols)))) (en := EPt X (some (.fz, LD)) (some (.fz, .str Str.empty)) none none none none none none none) (ra := rBor 1) (a := .b 1) (rb := rC (.int 0)) (b := .v (.int 0)) rfl rfl rfl rfl i0
    unfold pa4
    exact (sset_fr (rcall_go (rcons1 r) rfl co) (by show 3 < 10; decide)).trans rfl
  have e5 : pa5 (EPt X (some (.fz, .lst (Sl (lnL cols N v)))) (some (.fz, .str Str.empty)) (some (.ow, .lst (Sl cols))) none none none none none none) = .ret (.nx, EPt X (some (.fz, .lst (Sl (lnL cols N v)))) (some (.fz, .str Str.empty)) (some (.ow, .lst (Sl cols))) none none none none none none) := by
    unfold pa5
    exact sif_f (run2_go (f := fIsP) (c := (false, .bl false)) (ra := rBor 3) (a := .b 3) (rb := rC .non) (b := .v .non) rfl rfl rfl rfl rfl)
  have e6 : ∃ t5 t6 t7 t8 t9, pa6 (EPt X (some (.fz, .lst (Sl (lnL cols N v)))) (some (.fz, .str Str.empty)) (some (.ow, .lst (Sl cols))) none none none none none none) = .ret (.nx, EPt X (some (.fz, .lst (Sl (lnL cols N v)))) (some (.fz, .str Str.empty)) (some (.ow, .lst (Sl cols))) (some (.ow, .dK (rwD cols N v))) t5 t6 t7 t8 t9) := by
    generalize D.lst (Sl (lnL cols N v)) = LD at sl ⊢
    have d0 : dSet 5 (rC (.str "")) (EPt X (some (.fz, LD)) (some (.fz, .str Str.empty)) (some (.ow, .lst (Sl cols))) none none none none none none, .dK []) = .ret (EPt X (some (.fz, LD)) (some (.fz, .str Str.empty)) (some (.ow, .lst (Sl cols))) none (some (.fz, .str "")) none none none none, .dK []) := (dset_v (i := 5) (ra := rC (.str "")) (en := EPt X (some (.fz, LD)) (some (.fz, .str Str.empty)) (some (.ow, .lst (Sl cols))) none none none none none none) rfl (by show 5 < 10; decide)).trans rfl
    have it : iEnumR (rCons (rSlice (rBor 1) (oSome (rC (.int 1))) oNone) rNil) (EPt X (some (.fz, LD)) (some (.fz, .str Str.empty)) (some (.ow, .lst (Sl cols))) none (some (.fz, .str "")) none none none none) = .ret (N.zipIdx.map fun p => D.tup [.int (p.2 : Nat), .str (Txt.join spS (rwL cols v p.1))], EPt X (some (.fz, LD)) (some (.fz, .str Str.empty)) (some (.ow, .lst (Sl cols))) none (some (.fz, .str "")) none none none none) := by
      have r := rslice_go (c := (true, .lst (N.map fun x => D.str (Txt.join spS (rwL cols v x))))) (h := none) (rh := oNone) (en := EPt X (some (.fz, LD)) (some (.fz, .str Str.empty)) (some (.ow, .lst (Sl cols))) none (some (.fz, .str "")) none none none none) (e3 := EPt X (some (.fz, LD)) (some (.fz, .str Str.empty)) (some (.ow, .lst (Sl cols))) none (some (.fz, .str "")) none none none none) (ra := rBor 1) (a := .b 1) rfl (osome_go (ra := rC (.int 1)) (a := .v (.int 1)) (e := EPt X (some (.fz, LD)) (some (.fz, .str Str.empty)) (some (.ow, .lst (Sl cols))) none (some (.fz, .str "")) none none none none) rfl rfl) rfl rfl sl
      unfold iEnumR
      rw [rcons1 r]
      show T.ret (enumD (N.map fun x => D.str (Txt.join spS (rwL cols v x))), _) = _
      unfold enumD
      rw [List.zipIdx_map, List.map_map]
      rfl
    obtain ⟨e', h1, dn, t5, t6, t7, t8, t9, _, ⟨_, hd⟩, hI⟩ := dFor_go (t := tgTup 2 (tgCons (tgN 6) (tgCons (tgN 7) tgNil))) (B := paB) (g := fun p : Str × Nat => D.tup [.int (p.2 : Nat), .str (Txt.join spS (rwL cols v p.1))]) (c := .dK []) (fun xs z => ∃ (dn : List Str) (l : Str) (s6 s7 s8 s9 : Slot), (∀ p ∈ xs, N[p.2]? = some p.1) ∧ ((∀ p ∈ xs, l = "" ∨ Lt l p.1) ∧ dn ++ xs.map (·.1) = N) ∧ z = (EPt X (some (.fz, LD)) (some (.fz, .str Str.empty)) (some (.ow, .lst (Sl cols))) none (some (.fz, .str l)) s6 s7 s8 s9, .dK (rwD cols dn v))) it ⟨[], "", none, none, none, none, fun p hp => List.mem_zipIdx_iff_getElem?.mp hp, ⟨fun p _ => .inl rfl, by rw [List.nil_append]; exact zip_fst N 0⟩, rfl⟩ (by
      rintro ⟨x, i⟩ xs en c ⟨dn, l, s6, s7, s8, s9, hp, ⟨hl, hd⟩, hz⟩
      cases hz
      have hy : N[i]? = some x := hp (x, i) List.mem_cons_self
      have hx := List.mem_of_getElem? hy
      have hi : i < 8 := by
        rcases Nat.lt_or_ge i N.length with h | h
        · omega
        · rw [List.getElem?_eq_none h] at hy; cases hy
      have dl : dn.length ≤ 8 := by
        have := congrArg List.length hd
        rw [List.length_append] at this
        omega
      have nx : x ∉ dn := fun z => by
        have nn := TB.nn
        rw [← hd, List.map_cons] at nn
        exact (List.nodup_append.mp nn).2.2 x z x List.mem_cons_self rfl
      have b := paB_run (X := X) (s1 := some (.fz, LD)) (s2 := some (.fz, .str Str.empty)) (s8 := s8) (s9 := s9) V hx hi (hl (x, i) List.mem_cons_self) (acc := rwD cols dn v) (by unfold rwD; rw [List.length_map]; omega)
      have pn : putD (rwD cols dn v) (.inr x) (.tup (cols.map (v x))) = rwD cols (dn ++ [x]) v := by
        rw [putD_new]
        · unfold rwD
          rw [List.map_append]
          rfl
        · intro z
          unfold rwD at z
          rw [List.map_map] at z
          obtain ⟨y, hy, e⟩ := List.mem_map.mp z
          cases e
          exact nx hy
      rw [pn] at b
      refine ⟨EPt X (some (.fz, LD)) (some (.fz, .str Str.empty)) (some (.ow, .lst (Sl cols))) none (some (.fz, .str l)) (some (.fz, .int (i : Nat))) (some (.fz, .str (Txt.join spS (rwL cols v x)))) s8 s9, _, rfl, b, dn ++ [x], x, _, _, _, _, fun q hq => hp q (List.mem_cons_of_mem _ hq), ⟨fun q hq => .inr ?_, by rw [← hd]; simp⟩, rfl⟩
      have pw := hN
      rw [← hd, List.map_cons] at pw
      exact (List.pairwise_cons.mp (List.pairwise_append.mp pw).2.1).1 q.1 (List.mem_map.mpr ⟨q, hq, rfl⟩))
    rw [List.map_nil, List.append_nil] at hd
    have hb : dSeq (dSet 5 (rC (.str ""))) (dFor (iEnumR (rCons (rSlice (rBor 1) (oSome (rC (.int 1))) oNone) rNil)) (tgTup 2 (tgCons (tgN 6) (tgCons (tgN 7) tgNil))) paB) (EPt X (some (.fz, LD)) (some (.fz, .str Str.empty)) (some (.ow, .lst (Sl cols))) none none none none none none, .dK []) = .ret e' := by
      rw [dseq_go d0]
      exact h1
    subst hI
    subst hd
    refine ⟨some (.fz, .str t5), t6, t7, t8, t9, ?_⟩
    unfold pa6
    exact (sdeep_go (by show 4 < 10; decide) rfl hb).trans rfl
  obtain ⟨t5, t6, t7, t8, t9, e6'⟩ := e6
  have e7 : pa7 (EPt X (some (.fz, .lst (Sl (lnL cols N v)))) (some (.fz, .str Str.empty)) (some (.ow, .lst (Sl cols))) (some (.ow, .dK (rwD cols N v))) t5 t6 t7 t8 t9) = .ret (.nx, EPt X (some (.fz, .lst (Sl (lnL cols N v)))) (some (.fz, .str Str.empty)) (some (.ow, .lst (Sl cols))) (some (.ow, .dK (rwD cols N v))) t5 t6 t7 t8 t9) := by
    unfold pa7
    exact sif_f (run2_go (f := fNe) (c := (false, .bl false)) (ra := rBor 2) (a := .b 2) (rb := rC (.str "")) (b := .v (.str "")) rfl rfl rfl rfl ne2)
  have hrw : D.dK (rwD cols N v) = .dK (rowsD (RW N fun y => cols.map (v y))) := by
    unfold rwD rowsD RW
    rw [List.map_map]
    rfl
  have e8 : ∃ e, pa8 (EPt X (some (.fz, .lst (Sl (lnL cols N v)))) (some (.fz, .str Str.empty)) (some (.ow, .lst (Sl cols))) (some (.ow, .dK (rwD cols N v))) t5 t6 t7 t8 t9) = .ret (.rt (true, tbD cols N v), e) := by
    rw [hrw]
    have mk : rMake 5 0 k_T_init (rCons (rVar 3) (rCons (rVar 4) rNil)) (EPt X (some (.fz, .lst (Sl (lnL cols N v)))) (some (.fz, .str Str.empty)) (some (.ow, .lst (Sl cols))) (some (.ow, .dK (rowsD (RW N fun y => cols.map (v y))))) t5 t6 t7 t8 t9) = .ret (.fr (tbD cols N v), EPt X (some (.fz, .lst (Sl (lnL cols N v)))) (some (.fz, .str Str.empty)) (some (.fz, .lst (Sl cols))) (some (.fz, .dK (rowsD (RW N fun y => cols.map (v y))))) t5 t6 t7 t8 t9) := by
      unfold rMake
      rw [rcons2 (ra := rVar 3) (a := .v (.lst (Sl cols))) (e1 := EPt X (some (.fz, .lst (Sl (lnL cols N v)))) (some (.fz, .str Str.empty)) (some (.fz, .lst (Sl cols))) (some (.ow, .dK (rowsD (RW N fun y => cols.map (v y))))) t5 t6 t7 t8 t9) (rb := rVar 4) (b := .v (.dK (rowsD (RW N fun y => cols.map (v y))))) (e2 := EPt X (some (.fz, .lst (Sl (lnL cols N v)))) (some (.fz, .str Str.empty)) (some (.fz, .lst (Sl cols))) (some (.fz, .dK (rowsD (RW N fun y => cols.map (v y))))) t5 t6 t7 t8 t9) rfl rfl]
      show ((k_T_init (enI 5 0 [.lst (Sl cols), .dK (rowsD (RW N fun y => cols.map (v y)))])).bind _) = _
      rw [ini]
      rfl
    unfold pa8
    exact ⟨_, sret_go mk rfl⟩
  obtain ⟨e9, e8'⟩ := e8
  unfold f_parse_table runFn
  rw [hR]
  show ((sSeq _ _) (EPt X none none none none none none none none none)).bind _ = _
  rw [sseq_go e1, sseq_go e2, sseq_go (e3 none none none none none none none), sseq_go e4, sseq_go e5, sseq_go e6', sseq_go e7]
  unfold sSeq
  rw [e8']
  rfl
end
end Sx
set_option Elab.async false
set_option linter.all false
set_option maxRecDepth 100000
set_option maxHeartbeats 1000000
set_option autoImplicit false
namespace Sx
open PySem L2
/-! the law's own text -/
@[irreducible] def wt1 : RunS := (sSet 1 (rDisp mkL (rCons (rStrM (rC (.str " ")) (rCons (run2 (rDisp mkL (rCons (rC (.str "columns")) rNil)) (run2 (rBor 0) (rC (.int 0)) fIx) fAdd) rNil) fJoin) rNil)))
@[irreducible] def wtB : RunS := (sSeq (sDrop (rApp 1 (rStrM (rC (.str " ")) (rCons (run2 (rDisp mkL (rCons (rC (.str "row")) (rCons (rVar 2) rNil))) (rLc (iSeq (run2 (rBor 0) (rC (.int 0)) fIx)) none (tgN 3) rYes (runN (rCons (run2 (run2 (run2 (rBor 0) (rC (.int 1)) fIx) (rBor 2) fIxD) (rBor 3) fIxD) rNil) fStr) [3]) fAdd) rNil) fJoin)))
    sNx)
@[irreducible] def wt2 : RunS := (sFor (iSeq (runN (rCons (run2 (rBor 0) (rC (.int 1)) fIx) rNil) fSortU)) none (tgN 2) wtB)
@[irreducible] def wt3 : RunS := (sRet (rStrM (rC (.str "")) (rCons (rLc (iLock 1) (some 1) (tgN 4) rYes (run2 (rBor 4) (rC (.str "\n")) fAdd) [4]) rNil) fJoin))
section
variable {cols names : List Str} {v : Str → Str → D} {x : Str} {s2 : Slot}
abbrev EWt (M : D) (ls : List Str) (s2 : Slot) : En := [some (.fz, M), some (.ow, .lst (Sl ls)), s2, none, none]
theorem wtB_run (V : Vt cols names v) (hx : x ∈ names) {ls : List Str} (hl : ls.length ≤ 20) : wtB (EWt (modD names cols v) ls (some (.fz, .str x))) = .ret (.nx, EWt (modD names cols v) (ls ++ [Txt.join spS (rwL cols v x)]) (some (.fz, .str x))) := by
  have c5 := V.c5
  have jn := join_ok (y := spS) (parts_small (V.rw' hx) (by rw [rwL_len]; omega))
  have m0 : fIx (modD names cols v) (.int 0) = some0 (.lst (Sl cols)) := rfl
  have m1 : fIx (modD names cols v) (.int 1) = some0 (mdlD (mdl names cols v)) := rfl
  have m2 : fIxD (mdlD (mdl names cols v)) (.str x) = some (false, .dK (cols.map fun c => ((Sum.inr c : Key), v x c))) := by
    rw [mdlD_mdl]
    exact ix_map (g := fun z => D.dK (cols.map fun c => ((Sum.inr c : Key), v z c))) hx
  have m3 : ∀ c ∈ cols, fIxD (.dK (cols.map fun c => ((Sum.inr c : Key), v x c))) (.str c) = some (false, v x c) := fun c hc => ix_map (g := v x) hc
  generalize modD names cols v = M at m0 m1 ⊢
  generalize mdlD (mdl names cols v) = Q at m1 m2
  generalize D.dK (cols.map fun c => ((Sum.inr c : Key), v x c)) = QX at m2 m3
  have it : iSeq (run2 (rBor 0) (rC (.int 0)) fIx) (EWt M ls (some (.fz, .str x))) = .ret (cols.map D.str, EWt M ls (some (.fz, .str x))) :=
    iseq_go (run2_go (f := fIx) (c := (false, .lst (Sl cols))) (ra := rBor 0) (a := .b 0) (rb := rC (.int 0)) (b := .v (.int 0)) rfl rfl rfl rfl m0) rfl
  have L1 := lc_go (g := D.str) (re := runN (rCons (run2 (run2 (run2 (rBor 0) (rC (.int 1)) fIx) (rBor 2) fIxD) (rBor 3) fIxD) rNil) fStr) (l := none) (i := 3) (fun c => D.str (wS (v x c))) it (by omega) (.inl rfl) fun c hc => by
    have fs := (code_str _ (V.cv x hx c hc)).1
    have r1 := run2_go (f := fIx) (c := (false, Q)) (en := (EWt M ls (some (.fz, .str x))).set 3 (some (.fz, .str c))) (ra := rBor 0) (a := .b 0) (rb := rC (.int 1)) (b := .v (.int 1)) rfl rfl rfl rfl m1
    have r2 := run2_go (f := fIxD) (c := (false, QX)) r1 (rb := rBor 2) (b := .b 2) rfl rfl rfl m2
    have r3 := run2_go (f := fIxD) (c := (false, v x c)) r2 (rb := rBor 3) (b := .b 3) rfl rfl rfl (m3 c hc)
    exact ⟨.v (.str (wS (v x c))), runN1 (f := fStr) (c := (false, .str (wS (v x c)))) r3 rfl fs, rfl⟩
  have d1 := rdisp_go (f := mkL) (c := (true, .lst [.str "row", .str x])) (rs := rCons (rC (.str "row")) (rCons (rVar 2) rNil)) (en := EWt M ls (some (.fz, .str x))) (rcons2 (ra := rC (.str "row")) (a := .v (.str "row")) (rb := rVar 2) (b := .v (.str x)) rfl rfl) rfl rfl
  have ad : fAdd (.lst [.str "row", .str x]) (.lst (cols.map fun c => D.str (wS (v x c)))) = some1 (.lst (Sl (rwL cols v x))) := by
    show (if _ ≤ 4096 then some1 (.lst (_ ++ _)) else none) = _
    rw [if_pos (by rw [List.length_map]; show 2 + _ ≤ _; omega)]
    unfold rwL Sl
    rw [List.map_cons, List.map_cons, List.map_map]
    rfl
  have ad2 := run2_go (f := fAdd) (c := (true, .lst (Sl (rwL cols v x)))) d1 L1 rfl rfl ad
  have r := rstrm_go (ro := rC (.str spS)) (a := .v (.str spS)) (x := spS) (f := fJoin) rfl rfl (rcons1 ad2) rfl jn
  have ap := sapp_go (i := 1) (xs := Sl ls) (ds := Sl ls) rfl r rfl rfl (by unfold Sl; rw [List.length_map]; omega)
  unfold wtB
  rw [sseq_go ap]
  show T.ret (Fl.nx, _) = _
  unfold EWt
  have : Sl ls ++ [D.str (Txt.join spS (rwL cols v x))] = Sl (ls ++ [Txt.join spS (rwL cols v x)]) := by
    unfold Sl
    rw [List.map_append]
    rfl
  rw [← this]
  rfl
theorem Vt.srt' (V : Vt cols names v) : Vt cols (srt names) v := ⟨V.cm, fun x hx => V.nm x (srt_mem.mp hx), fun x hx => V.cv x (srt_mem.mp hx), V.c5, by rw [srt_len]; exact V.n8⟩
theorem w_text_ok (V : Vt cols names v) : f_w_text [modD names cols v] = .ret (false, .str (TX cols (srt names) v)) := by
  have c5 := V.c5
  have n8 := V.n8
  have sn := srt_len names
  have jn := join_ok (y := spS) (parts_small V.hd (by show cols.length + 1 ≤ 7; omega))
  have m0 : fIx (modD names cols v) (.int 0) = some0 (.lst (Sl cols)) := rfl
  have m1 : fIx (modD names cols v) (.int 1) = some0 (mdlD (mdl names cols v)) := rfl
  have so : fSortU [mdlD (mdl names cols v)] = some1 (.lst (Sl (srt names))) := by
    rw [mdlD_mdl]
    exact sortU_dK (by omega)
  have ad : fAdd (.lst [.str "columns"]) (.lst (Sl cols)) = some1 (.lst (Sl (hdL cols))) := by
    show (if _ ≤ 4096 then some1 (.lst (_ ++ _)) else none) = _
    rw [if_pos (by unfold Sl; rw [List.length_map]; show 1 + _ ≤ _; omega)]
    rfl
  have wb := fun (x : Str) (hx : x ∈ names) (ls : List Str) (hl : ls.length ≤ 20) => wtB_run (x := x) V hx hl
  have hR : r_w_text = sSeq wt1 (sSeq wt2 (sSeq wt3 sNx)) := by
    unfold r_w_text wt1 wt2 wt3 wtB
    rfl
  generalize modD names cols v = M at m0 m1 wb ⊢
  have e1 : wt1 [some (.fz, M), none, none, none, none] = .ret (.nx, EWt M [Txt.join spS (hdL cols)] none) := by
    have d1 := rdisp_go (f := mkL) (c := (true, .lst [.str "columns"])) (rs := rCons (rC (.str "columns")) rNil) (en := [some (.fz, M), none, none, none, none]) (rcons1 (ra := rC (.str "columns")) (a := .v (.str "columns")) rfl) rfl rfl
    have r1 := run2_go (f := fIx) (c := (false, .lst (Sl cols))) (en := [some (.fz, M), none, none, none, none]) (ra := rBor 0) (a := .b 0) (rb := rC (.int 0)) (b := .v (.int 0)) rfl rfl rfl rfl m0
    have j1 := rstrm_go (ro := rC (.str spS)) (a := .v (.str spS)) (x := spS) (f := fJoin) rfl rfl (rcons1 (run2_go (f := fAdd) (c := (true, .lst (Sl (hdL cols)))) d1 r1 rfl rfl ad)) rfl jn
    have d2 := rdisp_go (f := mkL) (c := (true, .lst [.str (Txt.join spS (hdL cols))])) (rcons1 j1) rfl rfl
    unfold wt1
    exact (sset_fr d2 (by show 1 < 5; decide)).trans rfl
  have it : iSeq (runN (rCons (run2 (rBor 0) (rC (.int 1)) fIx) rNil) fSortU) (EWt M [Txt.join spS (hdL cols)] none) = .ret ((srt names).map D.str, EWt M [Txt.join spS (hdL cols)] none) :=
    iseq_go (runN1 (f := fSortU) (c := (true, .lst (Sl (srt names)))) (run2_go (f := fIx) (c := (false, mdlD (mdl names cols v))) (ra := rBor 0) (a := .b 0) (rb := rC (.int 1)) (b := .v (.int 1)) rfl rfl rfl rfl m1) rfl so) rfl
  obtain ⟨e', h1, ls, s2, hls, _, _, hI⟩ := sFor_go (t := tgN 2) (B := wtB) (g := D.str) (fun xs en => ∃ (ls : List Str) (s2 : Slot), ls ++ xs.map (fun x => Txt.join spS (rwL cols v x)) = lnL cols (srt names) v ∧ (∀ x ∈ xs, x ∈ names) ∧ ls.length + xs.length ≤ 20 ∧ en = EWt M ls s2) it ⟨[Txt.join spS (hdL cols)], none, rfl, fun x hx => srt_mem.mp hx, by show 1 + _ ≤ 20; omega, rfl⟩ (by
    rintro x xs en ⟨ls, s2, hls, hm, hl, rfl⟩
    rw [List.length_cons] at hl
    refine ⟨_, _, rfl, wb x (hm x List.mem_cons_self) ls (by omega), ls ++ [Txt.join spS (rwL cols v x)], some (.fz, .str x), by rw [← hls]; simp, fun y hy => hm y (List.mem_cons_of_mem _ hy), by rw [List.length_append, List.length_singleton]; omega, rfl⟩)
  rw [List.map_nil, List.append_nil] at hls
  subst hI
  subst hls
  have V2 := V.srt'
  have jn2 := join_ok (y := "") (lines_small V2)
  have it2 : iLock 1 (EWt M (lnL cols (srt names) v) s2) = .ret ((lnL cols (srt names) v).map D.str, [some (.fz, M), some (.lk, .lst (Sl (lnL cols (srt names) v))), s2, none, none]) := rfl
  have L1 := lc_go (g := D.str) (re := run2 (rBor 4) (rC (.str nlS)) fAdd) (l := some 1) (i := 4) (fun l => D.str (l ++ nlS)) it2 (by rw [lnL_len]; omega) (.inl rfl) fun l hl =>
    ⟨.v (.str (l ++ nlS)), run2_go (f := fAdd) (c := (false, .str (l ++ nlS))) (ra := rBor 4) (a := .b 4) (rb := rC (.str nlS)) (b := .v (.str nlS)) rfl rfl rfl rfl (add_nl V2 hl), rfl⟩
  have e : (lnL cols (srt names) v).map (fun l => D.str (l ++ nlS)) = Sl ((lnL cols (srt names) v).map fun l => l ++ nlS) := by
    unfold Sl
    rw [List.map_map]
    rfl
  rw [e] at L1
  have r := rstrm_go (ro := rC (.str "")) (a := .v (.str "")) (x := "") (f := fJoin) rfl rfl (rcons1 L1) rfl jn2
  have e3 : ∃ z, wt3 (EWt M (lnL cols (srt names) v) s2) = .ret (.rt (false, .str (TX cols (srt names) v)), z) := by
    unfold wt3
    exact ⟨_, sret_go r rfl⟩
  obtain ⟨z, e3⟩ := e3
  have e2 : wt2 (EWt M [Txt.join spS (hdL cols)] none) = .ret (.nx, EWt M (lnL cols (srt names) v) s2) := by
    unfold wt2
    exact h1
  unfold f_w_text runFn
  rw [hR]
  show ((sSeq _ _) [some (.fz, M), none, none, none, none]).bind _ = _
  rw [sseq_go e1, sseq_go e2]
  unfold sSeq
  rw [e3]
  rfl
end
end Sx
set_option Elab.async false
set_option linter.all false
set_option maxRecDepth 100000
set_option maxHeartbeats 1000000
set_option autoImplicit false
namespace Sx
open PySem L2
/-! other columns: other tables, other texts -/
section
variable {cols kept N : List Str} {v : Str → Str → D}
theorem eq_no (hne : kept ≠ cols) : f_T_eq [tbD kept N v, tbD cols N v] = .ret (false, .bl false) := by
  have e1 : fFld 0 "own_columns" (tbD kept N v) = some0 (.tup (Sl kept)) := fld_cols kept (RW N fun z => kept.map (v z))
  have e2 : fFld 0 "own_columns" (tbD cols N v) = some0 (.tup (Sl cols)) := fld_cols cols (RW N fun z => cols.map (v z))
  have e3 : fIsC 0 [tbD cols N v, .cl 0] = some0 (.bl true) := rfl
  have e4 : fEq (.tup (Sl kept)) (.tup (Sl cols)) = some0 (.bl false) := fEq_no (Pd.tup pd_Sl) (Pd.tup pd_Sl) (by decide) fun z => hne (by
    have z := congrArg strsOf (D.tup.inj z)
    rw [strsOf_Sl, strsOf_Sl] at z
    exact Option.some.inj z)
  unfold f_T_eq runFn r_T_eq
  show ((sSeq _ _) [some (.fz, tbD kept N v), some (.fz, tbD cols N v)]).bind _ = _
  have hc : rC (.cl 0) [some (.fz, tbD kept N v), some (.fz, tbD cols N v)] = .ret (.v (.cl 0), [some (.fz, tbD kept N v), some (.fz, tbD cols N v)]) := rfl
  generalize tbD cols N v = B at e2 e3 hc ⊢
  generalize tbD kept N v = B2 at e1 hc ⊢
  generalize D.tup (Sl cols) = C at e2 e4
  generalize D.tup (Sl kept) = C2 at e1 e4
  simp only [sSeq, sIf, sRet, sNx, sSet, sPar, sTgt, sDrop, toT, rOr, rAnd, rNot, rIf, runN, run1, run2, rCons, rNil, rBor, rVar, rMov, rC, rChn, rDisp, rCall, rSlice, oNone, oSome, ret1, frc, frcs, onlyV, valO, Op.fz, mkO, boolOf, intOf, itemsOf, iSeq, tgN, T.ret_bind, T.ofOpt, retO, putO, flOf, some0, some1, Option.bind_some, Option.map_some, List.getElem?_cons_zero, List.getElem?_cons_succ, List.set_cons_zero, List.set_cons_succ, List.length_cons, List.length_nil, mkL, mkT, small, Bool.not_true, Bool.not_false, if_true, if_false, Bool.false_eq_true, ite_true, ite_false, Nat.reduceAdd, Nat.reduceLT, Nat.reduceLeDiff, e1, e2, e3, e4, hc]
theorem tx_inj (V : Vt cols N v) (V2 : Vt kept N v) (h : TX kept N v = TX cols N v) : kept = cols := by
  have s1 := V.split_text
  have s2 := V2.split_text
  rw [h, s1] at s2
  have h1 : lnL cols N v = lnL kept N v := List.append_cancel_right s2
  have h2 : Txt.join spS (hdL cols) = Txt.join spS (hdL kept) := (List.cons.inj h1).1
  have h3 := V.split_hd
  rw [h2, V2.split_hd] at h3
  exact (List.cons.inj h3).2
end
end Sx
set_option Elab.async false
set_option linter.all false
set_option maxRecDepth 100000
set_option maxHeartbeats 1000000
set_option autoImplicit false
namespace Sx
open PySem L2
/-! the law -/
abbrev EL9 (m : Nat) (t s3 s4 s5 s6 s7 s8 s9 : Slot) : En := [some (.fz, .scr m), some (.fz, .drw), t, s3, s4, s5, s6, s7, s8, s9]
@[irreducible] def a1R : RunS := (sSet 3 (rCall f_w_model (rCons (rVar 1) (rCons (run2 (rC (.int 1)) (rCall f_w_take (rCons (rVar 1) (rCons (rC (.int 5)) rNil))) fAdd) (rCons (rCall f_w_take (rCons (rVar 1) (rCons (rC (.int 9)) rNil))) rNil)))))
@[irreducible] def a2R : RunS := (sPar 4 5 (rCall f_w_table (rCons (rVar 3) rNil)) (rCall f_w_text (rCons (rVar 3) rNil)))
@[irreducible] def a3R : RunS := (sIf (toT (rOr (run2 (rCall f_format_table (rCons (rVar 4) rNil)) (rBor 5) fNe) (rOr (run2 (rCallK f_format_table sw0 rNil (rCons (rVar 4) rNil)) (rBor 5) fNe) (rNot (runN (rCons (rCall f_format_table (rCons (rVar 4) rNil)) (rCons (rC (.ty "str")) rNil)) fIsi))))) (sSeq (sRet (rC (.bl false)))
    sNx) sNx)
@[irreducible] def a4R : RunS := (sSet 6 (rCall f_parse_table (rCons (rVar 5) rNil)))
@[irreducible] def a5R : RunS := (sIf (toT (rOr (rNot (runN (rCons (rVar 6) (rCons (rC (.cl 0)) rNil)) (fIsC 0))) (rOr (rNeU 0 f_T_eq (rVar 6) (rVar 4)) (rNeU 0 f_T_eq (rCallK f_parse_table sw0 rNil (rCons (rVar 5) rNil)) (rVar 4))))) (sSeq (sRet (rC (.bl false)))
    sNx) sNx)
@[irreducible] def a6R : RunS := (sIf (toT (run2 (rCall f_format_table (rCons (rVar 6) rNil)) (rBor 5) fNe)) (sSeq (sRet (rC (.bl false)))
    sNx) sNx)
@[irreducible] def a7R : RunS := (sSet 7 (rDisp mkT (rCons (run2 (rBor 3) (rC (.int 0)) fIx) (rCons (runN (rCons (rLc (iSeq (run1 (runN (rCons (run2 (rBor 3) (rC (.int 1)) fIx) rNil) fListD) fRevX)) none (tgN 9) rYes (rDisp mkT (rCons (rVar 9) (rCons (run2 (run2 (rBor 3) (rC (.int 1)) fIx) (rBor 9) fIxD) rNil))) [9]) rNil) fDictP) rNil))))
@[irreducible] def a8R : RunS := (sIf (toT (run2 (rCall f_format_table (rCons (rCall f_w_table (rCons (rVar 7) rNil)) rNil)) (rBor 5) fNe)) (sSeq (sRet (rC (.bl false)))
    sNx) sNx)
@[irreducible] def a9R : RunS := (sSet 8 (rDisp mkT (rCons (rCall f_w_mixed (rCons (rVar 1) (rCons (run2 (rBor 3) (rC (.int 0)) fIx) rNil))) (rCons (run2 (rBor 3) (rC (.int 1)) fIx) rNil))))
@[irreducible] def a10R : RunS := (sIf (toT (run2 (run2 (rCall f_format_table (rCons (rCall f_w_table (rCons (rVar 8) rNil)) rNil)) (rBor 5) fEq) (rEqU 0 f_T_eq (rCall f_w_table (rCons (rVar 8) rNil)) (rVar 4)) fNe)) (sSeq (sRet (rC (.bl false)))
    sNx) sNx)
@[irreducible] def aR : RunS := sSeq a1R (sSeq a2R (sSeq a3R (sSeq a4R (sSeq a5R (sSeq a6R (sSeq a7R (sSeq a8R (sSeq a9R (sSeq a10R sNx)))))))))
theorem spar_frv {i j : Nat} {ra rb : Run} {en e1 e2 : En} {d1 d2 : D} (h1 : ra en = .ret (.fr d1, e1)) (h2 : rb e1 = .ret (.v d2, e2)) (hi : i < e2.length) (hj : j < e2.length) : sPar i j ra rb en = .ret (.nx, (e2.set i (some (.ow, d1))).set j (some (.fz, d2))) := by
  unfold sPar
  rw [h1]
  show ((rb e1).bind _) = _
  rw [h2]
  show ((T.ofOpt (if i < e2.length then some (e2.set i (some (.ow, d1))) else none)).bind _) = _
  rw [if_pos hi]
  show ((T.ofOpt (if j < (e2.set i (some (Fg.ow, d1))).length then some ((e2.set i (some (.ow, d1))).set j (some (.fz, d2))) else none)).bind _) = _
  rw [if_pos (by rw [List.length_set]; exact hj)]
  rfl
theorem rcallk_go {f : Fn} {ra : Run} {en e1 : En} {a : Op} {d : D} {c : Bool × D} (h1 : ra en = .ret (a, e1)) (h2 : a.fz = .v d) (h : f [d] = .ret c) : rCallK f sw0 rNil (rCons ra rNil) en = .ret (mkO c, e1) := by
  unfold rCallK
  rw [show rNil en = .ret ([], en) from rfl]
  show (((rCons ra rNil) en).bind _) = _
  rw [rcons1 h1, h2]
  show ((f (sw0 [] [d])).bind _) = _
  rw [show sw0 [] [d] = [d] from rfl, h]
  rfl
theorem rneu_go {C N C2 N2 : List Str} {v w : Str → Str → D} {ra rb : Run} {en e1 e2 : En} {a b : Op} {k : Bool} (h1 : ra en = .ret (a, e1)) (h1' : a.fz = .v (tbD C N v)) (h2 : rb e1 = .ret (b, e2)) (h2' : b.fz = .v (tbD C2 N2 w)) (h : f_T_eq [tbD C N v, tbD C2 N2 w] = .ret (false, .bl k)) : rNeU 0 f_T_eq ra rb en = .ret (.v (.bl !k), e2) := by
  unfold rNeU
  rw [h1]
  show ((rb e1).bind _) = _
  rw [h2]
  show (match a.fz, b.fz with | .v (.obj c fs), .v (.obj c' gs) => _ | _, _ => _) = _
  rw [h1', h2']
  show (if 0 = 0 ∧ 0 = 0 then (f_T_eq [tbD C N v, tbD C2 N2 w]).bind _ else .fail : T (Op × En)) = _
  rw [if_pos ⟨rfl, rfl⟩, h]
  rfl
theorem requ_go {C N C2 N2 : List Str} {v w : Str → Str → D} {ra rb : Run} {en e1 e2 : En} {a b : Op} {k : Bool} (h1 : ra en = .ret (a, e1)) (h1' : a.fz = .v (tbD C N v)) (h2 : rb e1 = .ret (b, e2)) (h2' : b.fz = .v (tbD C2 N2 w)) (h : f_T_eq [tbD C N v, tbD C2 N2 w] = .ret (false, .bl k)) : rEqU 0 f_T_eq ra rb en = .ret (.v (.bl k), e2) := by
  unfold rEqU
  rw [h1]
  show ((rb e1).bind _) = _
  rw [h2]
  show (match a.fz, b.fz with | .v (.obj c fs), .v (.obj c' gs) => _ | _, _ => _) = _
  rw [h1', h2']
  show (if 0 = 0 ∧ 0 = 0 then (f_T_eq [tbD C N v, tbD C2 N2 w]).bind _ else .fail : T (Op × En)) = _
  rw [if_pos ⟨rfl, rfl⟩, h]
  rfl
structure Lz (cols names : List Str) (v : Str → Str → D) : Prop extends Vt cols names v where
  nd : cols.Nodup
  nn : names.Nodup
  c1 : 1 ≤ cols.length
section
variable {cols names kept : List Str} {v : Str → Str → D} {m : Nat} {t s3 s4 s5 s6 s7 s8 : Slot}
theorem Lz.tb (L : Lz cols names v) : Tb cols (srt names) v := ⟨L.nd, srt_nd L.nn, L.c5, by rw [srt_len]; exact L.n8, fun x hx c hc => codeL_val _ (L.cv x (srt_mem.mp hx) c hc)⟩
theorem Lz.fmt (L : Lz cols names v) : f_format_table [tbD cols (srt names) v] = .ret (false, .str (TX cols (srt names) v)) := format_ok L.srt' L.tb
theorem Lz.tbl (L : Lz cols names v) (hk : ∀ c ∈ kept, c ∈ cols) (nk : kept.Nodup) (lk : kept.length = cols.length) : f_w_table [modK kept names cols v] = .ret (true, tbD kept (srt names) v) :=
  table_gen hk (fun c hc => L.cm c (hk c hc)) nk (by have := L.c1; omega) (by have := L.c5; omega) L.nn L.nm L.n8 fun x hx c hc => codeL_val _ (L.cv x hx c (hk c hc))
theorem Lz.par (L : Lz cols names v) (hk : ∀ c ∈ kept, c ∈ cols) (nk : kept.Nodup) (lk : kept.length = cols.length) : Lz kept names v := ⟨⟨fun c hc => L.cm c (hk c hc), L.nm, fun x hx c hc => L.cv x hx c (hk c hc), by have := L.c5; omega, L.n8⟩, nk, L.nn, by have := L.c1; omega⟩
theorem Lz.rev (L : Lz cols names v) : Lz cols names.reverse v := ⟨⟨L.cm, fun x hx => L.nm x (List.mem_reverse.mp hx), fun x hx => L.cv x (List.mem_reverse.mp hx), L.c5, by rw [List.length_reverse]; exact L.n8⟩, L.nd, (List.reverse_perm names).nodup_iff.mpr L.nn, L.c1⟩
theorem srt_rev (h : names.Nodup) : srt names.reverse = srt names := lt_unique (srt_lt ((List.reverse_perm names).nodup_iff.mpr h)) (srt_lt h) fun x => by rw [srt_mem, srt_mem, List.mem_reverse]
theorem a1_wp : (a1R (EL9 m t s3 s4 s5 s6 s7 s8 none)).wp fun r => ∃ (cols names : List Str) (v : Str → Str → D), Lz cols names v ∧ r = (.nx, EL9 m t (some (.fz, modD names cols v)) s4 s5 s6 s7 s8 none) := by
  have e2 := take_lit (n := 5) (by decide)
  have e3 := take_lit (n := 9) (by decide)
  have mw := @model_wp
  unfold a1R
  generalize f_w_model = F at mw ⊢
  simp only [EL9, sSeq, sIf, sRet, sNx, sSet, sPar, sTgt, sDrop, toT, rOr, rAnd, rNot, rIf, runN, run1, run2, rCons, rNil, rBor, rVar, rMov, rC, rChn, rDisp, rCall, rSlice, oNone, oSome, ret1, frc, frcs, onlyV, valO, Op.fz, mkO, boolOf, intOf, itemsOf, iSeq, tgN, T.ret_bind, T.ofOpt, retO, putO, flOf, some0, some1, Option.bind_some, Option.map_some, List.getElem?_cons_zero, List.getElem?_cons_succ, List.set_cons_zero, List.set_cons_succ, List.length_cons, List.length_nil, mkL, mkT, small, Bool.not_true, Bool.not_false, if_true, if_false, Bool.false_eq_true, ite_true, ite_false, Nat.reduceAdd, Nat.reduceLT, Nat.reduceLeDiff, e2, e3, ch_bind]
  intro i hi
  have hi : i < 5 := hi
  have a : fAdd (.int 1) (.int (i : Nat)) = some0 (.int ((1 + i : Nat) : Int)) := by
    show some0 (.int (1 + (i : Int))) = _
    congr 2
  simp only [sSeq, sIf, sRet, sNx, sSet, sPar, sTgt, sDrop, toT, rOr, rAnd, rNot, rIf, runN, run1, run2, rCons, rNil, rBor, rVar, rMov, rC, rChn, rDisp, rCall, rSlice, oNone, oSome, ret1, frc, frcs, onlyV, valO, Op.fz, mkO, boolOf, intOf, itemsOf, iSeq, tgN, T.ret_bind, T.ofOpt, retO, putO, flOf, some0, some1, Option.bind_some, Option.map_some, List.getElem?_cons_zero, List.getElem?_cons_succ, List.set_cons_zero, List.set_cons_succ, List.length_cons, List.length_nil, mkL, mkT, small, Bool.not_true, Bool.not_false, if_true, if_false, Bool.false_eq_true, ite_true, ite_false, Nat.reduceAdd, Nat.reduceLT, Nat.reduceLeDiff, a, ch_bind]
  intro j hj
  have hj : j < 9 := hj
  simp only [sSeq, sIf, sRet, sNx, sSet, sPar, sTgt, sDrop, toT, rOr, rAnd, rNot, rIf, runN, run1, run2, rCons, rNil, rBor, rVar, rMov, rC, rChn, rDisp, rCall, rSlice, oNone, oSome, ret1, frc, frcs, onlyV, valO, Op.fz, mkO, boolOf, intOf, itemsOf, iSeq, tgN, T.ret_bind, T.ofOpt, retO, putO, flOf, some0, some1, Option.bind_some, Option.map_some, List.getElem?_cons_zero, List.getElem?_cons_succ, List.set_cons_zero, List.set_cons_succ, List.length_cons, List.length_nil, mkL, mkT, small, Bool.not_true, Bool.not_false, if_true, if_false, Bool.false_eq_true, ite_true, ite_false, Nat.reduceAdd, Nat.reduceLT, Nat.reduceLeDiff]
  refine (T.wp_bind _ _ _).mpr ((T.wp_bind _ _ _).mpr (T.wp_mono (mw (w := 1 + i) (h := j) (by omega) (by omega)) fun r ⟨cols, names, v, e, lc, cn, cm, ln, nn, nm, hv⟩ => ?_))
  rw [e]
  exact ⟨cols, names, v, ⟨⟨cm, nm, fun x hx c hc => (hv x hx c hc).2, by omega, by omega⟩, cn, nn, by omega⟩, rfl⟩
theorem a2_ok (L : Lz cols names v) : a2R (EL9 m t (some (.fz, modD names cols v)) s4 s5 s6 s7 s8 none) = .ret (.nx, EL9 m t (some (.fz, modD names cols v)) (some (.ow, tbD cols (srt names) v)) (some (.fz, .str (TX cols (srt names) v))) s6 s7 s8 none) := by
  have tb : f_w_table [modD names cols v] = .ret (true, tbD cols (srt names) v) := L.tbl (kept := cols) (fun _ h => h) L.nd rfl
  have tx := w_text_ok L.toVt
  unfold a2R
  exact (spar_frv (rcall_go (rcons1 (ra := rVar 3) (a := .v (modD names cols v)) (en := EL9 m t (some (.fz, modD names cols v)) s4 s5 s6 s7 s8 none) rfl) rfl tb) (rcall_go (rcons1 (ra := rVar 3) (a := .v (modD names cols v)) rfl) rfl tx) (by show 4 < 10; decide) (by show 5 < 10; decide)).trans rfl
theorem ne_str_self (x : Str) : fNe (.str x) (.str x) = some0 (.bl false) := by
  rw [fNe_str, decide_eq_false (not_not_intro rfl)]
theorem a3_ok (L : Lz cols names v) : a3R (EL9 m t s3 (some (.ow, tbD cols (srt names) v)) (some (.fz, .str (TX cols (srt names) v))) s6 s7 s8 none) = .ret (.nx, EL9 m t s3 (some (.fz, tbD cols (srt names) v)) (some (.fz, .str (TX cols (srt names) v))) s6 s7 s8 none) := by
  have f := L.fmt
  generalize TX cols (srt names) v = X at f ⊢
  generalize tbD cols (srt names) v = B at f ⊢
  have r1 := run2_go (f := fNe) (c := (false, .bl false)) (rcall_go (rcons1 (ra := rVar 4) (a := .v B) (en := EL9 m t s3 (some (.ow, B)) (some (.fz, .str X)) s6 s7 s8 none) (e1 := EL9 m t s3 (some (.fz, B)) (some (.fz, .str X)) s6 s7 s8 none) rfl) rfl f) (rb := rBor 5) (b := .b 5) rfl rfl rfl (ne_str_self X)
  have r2 := run2_go (f := fNe) (c := (false, .bl false)) (rcallk_go (ra := rVar 4) (a := .v B) (en := EL9 m t s3 (some (.fz, B)) (some (.fz, .str X)) s6 s7 s8 none) rfl rfl f) (rb := rBor 5) (b := .b 5) rfl rfl rfl (ne_str_self X)
  have r3 := rnot_go (b := true) (runN2 (f := fIsi) (c := (false, .bl true)) (rcall_go (rcons1 (ra := rVar 4) (a := .v B) (en := EL9 m t s3 (some (.fz, B)) (some (.fz, .str X)) s6 s7 s8 none) rfl) rfl f) (rb := rC (.ty "str")) (b := .v (.ty "str")) rfl rfl rfl rfl)
  unfold a3R
  exact sif_f (ror_f r1 (ror_f r2 r3))
theorem Lz.prs (L : Lz cols names v) : f_parse_table [.str (TX cols (srt names) v)] = .ret (true, tbD cols (srt names) v) := parse_ok L.srt' L.tb L.c1 (srt_lt L.nn)
theorem a4_ok (L : Lz cols names v) : a4R (EL9 m t s3 s4 (some (.fz, .str (TX cols (srt names) v))) s6 s7 s8 none) = .ret (.nx, EL9 m t s3 s4 (some (.fz, .str (TX cols (srt names) v))) (some (.ow, tbD cols (srt names) v)) s7 s8 none) := by
  have p := L.prs
  unfold a4R
  exact (sset_fr (rcall_go (rcons1 (ra := rVar 5) (a := .v (.str (TX cols (srt names) v))) (en := EL9 m t s3 s4 (some (.fz, .str (TX cols (srt names) v))) s6 s7 s8 none) rfl) rfl p) (by show 6 < 10; decide)).trans rfl
theorem a5_ok (L : Lz cols names v) : a5R (EL9 m t s3 (some (.fz, tbD cols (srt names) v)) (some (.fz, .str (TX cols (srt names) v))) (some (.ow, tbD cols (srt names) v)) s7 s8 none) = .ret (.nx, EL9 m t s3 (some (.fz, tbD cols (srt names) v)) (some (.fz, .str (TX cols (srt names) v))) (some (.fz, tbD cols (srt names) v)) s7 s8 none) := by
  have p := L.prs
  have eq := eq_tab L.tb
  have r1 := rnot_go (b := true) (runN2 (f := fIsC 0) (c := (false, .bl true)) (en := EL9 m t s3 (some (.fz, tbD cols (srt names) v)) (some (.fz, .str (TX cols (srt names) v))) (some (.ow, tbD cols (srt names) v)) s7 s8 none) (e1 := EL9 m t s3 (some (.fz, tbD cols (srt names) v)) (some (.fz, .str (TX cols (srt names) v))) (some (.fz, tbD cols (srt names) v)) s7 s8 none) (ra := rVar 6) (a := .v (tbD cols (srt names) v)) rfl (rb := rC (.cl 0)) (b := .v (.cl 0)) rfl rfl rfl rfl)
  have r2 := rneu_go (en := EL9 m t s3 (some (.fz, tbD cols (srt names) v)) (some (.fz, .str (TX cols (srt names) v))) (some (.fz, tbD cols (srt names) v)) s7 s8 none) (ra := rVar 6) (a := .v (tbD cols (srt names) v)) rfl rfl (rb := rVar 4) (b := .v (tbD cols (srt names) v)) rfl rfl eq
  have r3 := rneu_go (rcallk_go (f := f_parse_table) (ra := rVar 5) (a := .v (.str (TX cols (srt names) v))) (en := EL9 m t s3 (some (.fz, tbD cols (srt names) v)) (some (.fz, .str (TX cols (srt names) v))) (some (.fz, tbD cols (srt names) v)) s7 s8 none) rfl rfl p) rfl (rb := rVar 4) (b := .v (tbD cols (srt names) v)) rfl rfl eq
  unfold a5R
  exact sif_f (ror_f r1 (ror_f r2 r3))
theorem a6_ok (L : Lz cols names v) : a6R (EL9 m t s3 s4 (some (.fz, .str (TX cols (srt names) v))) (some (.fz, tbD cols (srt names) v)) s7 s8 none) = .ret (.nx, EL9 m t s3 s4 (some (.fz, .str (TX cols (srt names) v))) (some (.fz, tbD cols (srt names) v)) s7 s8 none) := by
  have f := L.fmt
  generalize TX cols (srt names) v = X at f ⊢
  generalize tbD cols (srt names) v = B at f ⊢
  have r1 := run2_go (f := fNe) (c := (false, .bl false)) (rcall_go (rcons1 (ra := rVar 6) (a := .v B) (en := EL9 m t s3 s4 (some (.fz, .str X)) (some (.fz, B)) s7 s8 none) rfl) rfl f) (rb := rBor 5) (b := .b 5) rfl rfl rfl (ne_str_self X)
  unfold a6R
  exact sif_f r1
theorem a7_ok (L : Lz cols names v) : a7R (EL9 m t (some (.fz, modD names cols v)) s4 s5 s6 s7 s8 none) = .ret (.nx, EL9 m t (some (.fz, modD names cols v)) s4 s5 s6 (some (.fz, modK cols names.reverse cols v)) s8 none) := by
  have n8 := L.n8
  have m0 : fIx (modD names cols v) (.int 0) = some0 (.lst (Sl cols)) := rfl
  have m1 : fIx (modD names cols v) (.int 1) = some0 (mdlD (mdl names cols v)) := rfl
  have m2 : ∀ x ∈ names, fIxD (mdlD (mdl names cols v)) (.str x) = some (false, .dK (cols.map fun c => ((Sum.inr c : Key), v x c))) := fun x hx => by
    rw [mdlD_mdl]
    exact ix_map (g := fun z => D.dK (cols.map fun c => ((Sum.inr c : Key), v z c))) hx
  have l1 : fListD [mdlD (mdl names cols v)] = some1 (.lst (Sl names)) := by
    rw [mdlD_mdl]
    show some1 (.lst (List.map _ (List.map _ names))) = _
    rw [List.map_map]
    rfl
  have rv : fRevX (.lst (Sl names)) = some1 (.lst (Sl names.reverse)) := by
    show some1 (.lst (Sl names).reverse) = _
    unfold Sl
    rw [← List.map_reverse]
  have hM : modK cols names.reverse cols v = .tup [.lst (Sl cols), .dK (names.reverse.map fun x => ((Sum.inr x : Key), D.dK (cols.map fun c => ((Sum.inr c : Key), v x c))))] := by
    unfold modK
    rw [mdlD_mdl]
  have dp : fDictP [.lst (names.reverse.map fun x => D.tup [.str x, .dK (cols.map fun c => ((Sum.inr c : Key), v x c))])] = some1 (.dK (names.reverse.map fun x => ((Sum.inr x : Key), D.dK (cols.map fun c => ((Sum.inr c : Key), v x c))))) := by
    show (pairsD _).bind _ = _
    rw [pairsD_map (g := fun x => D.dK (cols.map fun c => ((Sum.inr c : Key), v x c))), Option.bind_some, mergeD_new]
    · rfl
    · rw [List.map_nil, List.nil_append, List.map_map]
      exact inr_nd ((List.reverse_perm names).nodup_iff.mpr L.nn)
  rw [hM]
  generalize modD names cols v = M at m0 m1 ⊢
  generalize mdlD (mdl names cols v) = Q at m1 m2 l1
  have r0 := run2_go (f := fIx) (c := (false, .lst (Sl cols))) (en := EL9 m t (some (.fz, M)) s4 s5 s6 s7 s8 none) (ra := rBor 3) (a := .b 3) (rb := rC (.int 0)) (b := .v (.int 0)) rfl rfl rfl rfl m0
  have r1 := run2_go (f := fIx) (c := (false, Q)) (en := EL9 m t (some (.fz, M)) s4 s5 s6 s7 s8 none) (ra := rBor 3) (a := .b 3) (rb := rC (.int 1)) (b := .v (.int 1)) rfl rfl rfl rfl m1
  have r2 := runN1 (f := fListD) (c := (true, .lst (Sl names))) r1 rfl l1
  have r3 : run1 (runN (rCons (run2 (rBor 3) (rC (.int 1)) fIx) rNil) fListD) fRevX (EL9 m t (some (.fz, M)) s4 s5 s6 s7 s8 none) = .ret (.fr (.lst (Sl names.reverse)), EL9 m t (some (.fz, M)) s4 s5 s6 s7 s8 none) := by
    unfold run1
    rw [r2]
    show ret1 (fRevX (.lst (Sl names))) _ = _
    rw [rv]
    rfl
  have it : iSeq (run1 (runN (rCons (run2 (rBor 3) (rC (.int 1)) fIx) rNil) fListD) fRevX) (EL9 m t (some (.fz, M)) s4 s5 s6 s7 s8 none) = .ret (names.reverse.map D.str, EL9 m t (some (.fz, M)) s4 s5 s6 s7 s8 none) := iseq_go r3 rfl
  have L1 := lc_go (g := D.str) (re := rDisp mkT (rCons (rVar 9) (rCons (run2 (run2 (rBor 3) (rC (.int 1)) fIx) (rBor 9) fIxD) rNil))) (l := none) (i := 9) (fun x => D.tup [.str x, .dK (cols.map fun c => ((Sum.inr c : Key), v x c))]) it (by rw [List.length_reverse]; omega) (.inl rfl) fun x hx => by
    have i2 := m2 x (List.mem_reverse.mp hx)
    generalize D.dK (cols.map fun c => ((Sum.inr c : Key), v x c)) = QX at i2 ⊢
    have q1 := run2_go (f := fIx) (c := (false, Q)) (en := (EL9 m t (some (.fz, M)) s4 s5 s6 s7 s8 none).set 9 (some (.fz, .str x))) (ra := rBor 3) (a := .b 3) (rb := rC (.int 1)) (b := .v (.int 1)) rfl rfl rfl rfl m1
    have q2 := run2_go (f := fIxD) (c := (false, QX)) q1 (rb := rBor 9) (b := .b 9) rfl rfl rfl i2
    exact ⟨.v (.tup [.str x, QX]), rdisp_go (f := mkT) (c := (false, .tup [.str x, QX])) (rcons2 (ra := rVar 9) (a := .v (.str x)) rfl q2) rfl rfl, rfl⟩
  have d1 := runN1 (f := fDictP) (c := (true, .dK (names.reverse.map fun x => ((Sum.inr x : Key), D.dK (cols.map fun c => ((Sum.inr c : Key), v x c)))))) L1 rfl dp
  have d2 := rdisp_go (f := mkT) (c := (false, .tup [.lst (Sl cols), .dK (names.reverse.map fun x => ((Sum.inr x : Key), D.dK (cols.map fun c => ((Sum.inr c : Key), v x c))))])) (rcons2 r0 d1) rfl rfl
  unfold a7R
  exact (sset_v d2 (by show 7 < 10; decide)).trans rfl
theorem a8_ok (L : Lz cols names v) : a8R (EL9 m t s3 s4 (some (.fz, .str (TX cols (srt names) v))) s6 (some (.fz, modK cols names.reverse cols v)) s8 none) = .ret (.nx, EL9 m t s3 s4 (some (.fz, .str (TX cols (srt names) v))) s6 (some (.fz, modK cols names.reverse cols v)) s8 none) := by
  have tb := L.rev.tbl (kept := cols) (fun _ h => h) L.nd rfl
  rw [srt_rev L.nn] at tb
  have f := L.fmt
  generalize modK cols names.reverse cols v = M at tb ⊢
  generalize TX cols (srt names) v = X at f ⊢
  have r1 := run2_go (f := fNe) (c := (false, .bl false)) (rcall_go (f := f_format_table) (rcons1 (rcall_go (f := f_w_table) (rcons1 (ra := rVar 7) (a := .v M) (en := EL9 m t s3 s4 (some (.fz, .str X)) s6 (some (.fz, M)) s8 none) rfl) rfl tb)) rfl f) (rb := rBor 5) (b := .b 5) rfl rfl rfl (ne_str_self X)
  unfold a8R
  exact sif_f r1
def strD : D → Str
  | .str s => s
  | _ => Str.empty
theorem a9_wp (L : Lz cols names v) : (a9R (EL9 m t (some (.fz, modD names cols v)) s4 s5 s6 s7 s8 none)).wp fun r => ∃ kept : List Str, kept.Perm cols ∧ r = (.nx, EL9 m t (some (.fz, modD names cols v)) s4 s5 s6 s7 (some (.fz, modK kept names cols v)) none) := by
  have c5 := L.c5
  have m0 : fIx (modD names cols v) (.int 0) = some0 (.lst (Sl cols)) := rfl
  have m1 : fIx (modD names cols v) (.int 1) = some0 (mdlD (mdl names cols v)) := rfl
  have mw := mixed_wp (xs := Sl cols) (by unfold Sl; rw [List.length_map]; omega)
  have r0 := run2_go (f := fIx) (c := (false, .lst (Sl cols))) (en := EL9 m t (some (.fz, modD names cols v)) s4 s5 s6 s7 s8 none) (ra := rBor 3) (a := .b 3) (rb := rC (.int 0)) (b := .v (.int 0)) rfl rfl rfl rfl m0
  have r1 := run2_go (f := fIx) (c := (false, mdlD (mdl names cols v))) (en := EL9 m t (some (.fz, modD names cols v)) s4 s5 s6 s7 s8 none) (ra := rBor 3) (a := .b 3) (rb := rC (.int 1)) (b := .v (.int 1)) rfl rfl rfl rfl m1
  unfold a9R
  refine sset_wp (rdisp_wp (rcons_wp (rcall_wp (rcons2 (ra := rVar 1) (a := .v .drw) rfl r0) rfl (T.wp_mono mw fun r ⟨ys, er, p⟩ => ?_))))
  subst er
  have hy : ∃ kept : List Str, ys = Sl kept ∧ kept.Perm cols := by
    refine ⟨ys.map strD, ?_, ?_⟩
    · unfold Sl
      rw [List.map_map]
      refine ((List.map_congr_left fun d hd => ?_).trans (List.map_id ys)).symm
      obtain ⟨l, _, rfl⟩ := List.mem_map.mp (p.mem_iff.mp hd)
      rfl
    · have := p.map strD
      unfold Sl at this
      rw [List.map_map] at this
      have e2 : cols.map (strD ∘ D.str) = cols := (List.map_congr_left fun l _ => rfl).trans (List.map_id cols)
      rw [e2] at this
      exact this
  obtain ⟨kept, rfl, pk⟩ := hy
  refine wp_of (rcons1 r1) ⟨[.lst (Sl kept), mdlD (mdl names cols v)], (false, .tup [.lst (Sl kept), mdlD (mdl names cols v)]), rfl, rfl, _, rfl, kept, pk, rfl⟩
theorem a10_ok (L : Lz cols names v) (pk : kept.Perm cols) : a10R (EL9 m t s3 (some (.fz, tbD cols (srt names) v)) (some (.fz, .str (TX cols (srt names) v))) s6 s7 (some (.fz, modK kept names cols v)) none) = .ret (.nx, EL9 m t s3 (some (.fz, tbD cols (srt names) v)) (some (.fz, .str (TX cols (srt names) v))) s6 s7 (some (.fz, modK kept names cols v)) none) := by
  have hk : ∀ c ∈ kept, c ∈ cols := fun c hc => pk.mem_iff.mp hc
  have nk := pk.nodup_iff.mpr L.nd
  have lk := pk.length_eq
  have tb := L.tbl hk nk lk
  have K := L.par hk nk lk
  have f := K.fmt
  have e0 : fEq (.str (TX kept (srt names) v)) (.str (TX cols (srt names) v)) = some0 (.bl (decide (kept = cols))) := by
    rw [fEq_str]
    congr 2
    by_cases h : kept = cols
    · rw [decide_eq_true h, decide_eq_true (by rw [h])]
    · rw [decide_eq_false h, decide_eq_false fun z => h (tx_inj L.srt' K.srt' z)]
  have e1 : f_T_eq [tbD kept (srt names) v, tbD cols (srt names) v] = .ret (false, .bl (decide (kept = cols))) := by
    by_cases h : kept = cols
    · rw [decide_eq_true h, h]
      exact eq_tab L.tb
    · rw [decide_eq_false h]
      exact eq_no h
  have nb : fNe (.bl (decide (kept = cols))) (.bl (decide (kept = cols))) = some0 (.bl false) := by
    cases decide (kept = cols) <;> rfl
  generalize modK kept names cols v = M at tb ⊢
  have r1 := run2_go (f := fEq) (c := (false, .bl (decide (kept = cols)))) (rcall_go (f := f_format_table) (rcons1 (rcall_go (f := f_w_table) (rcons1 (ra := rVar 8) (a := .v M) (en := EL9 m t s3 (some (.fz, tbD cols (srt names) v)) (some (.fz, .str (TX cols (srt names) v))) s6 s7 (some (.fz, M)) none) rfl) rfl tb)) rfl f) (rb := rBor 5) (b := .b 5) rfl rfl rfl e0
  have r2 := requ_go (rcall_go (f := f_w_table) (rcons1 (ra := rVar 8) (a := .v M) (en := EL9 m t s3 (some (.fz, tbD cols (srt names) v)) (some (.fz, .str (TX cols (srt names) v))) s6 s7 (some (.fz, M)) none) rfl) rfl tb) rfl (rb := rVar 4) (b := .v (tbD cols (srt names) v)) rfl rfl e1
  unfold a10R
  exact sif_f (run2_go (f := fNe) (c := (false, .bl false)) r1 r2 rfl rfl nb)
theorem a_all : (aR (EL9 m t s3 s4 s5 s6 s7 s8 none)).wp fun r => r.1 = .nx ∧ ∃ s3 s4 s5 s6 s7 s8, r.2 = EL9 m t s3 s4 s5 s6 s7 s8 none := by
  unfold aR
  refine sseq_wp (T.wp_mono a1_wp fun r ⟨cols, names, v, L, e⟩ => ⟨_, e, ?_⟩)
  rw [sseq_go (a2_ok L), sseq_go (a3_ok L), sseq_go (a4_ok L), sseq_go (a5_ok L), sseq_go (a6_ok L), sseq_go (a7_ok L), sseq_go (a8_ok L)]
  refine sseq_wp (T.wp_mono (a9_wp L) fun r ⟨kept, pk, e⟩ => ⟨_, e, ?_⟩)
  rw [sseq_go (a10_ok L pk)]
  exact ⟨rfl, _, _, _, _, _, _, rfl⟩
end
theorem law_true : ∀ m, m ≤ 63 → (r_law (lawEn 10 m)).wp Yes := by
  intro m hm
  have hR : r_law = (sSeq (sFor (iRange (rCons (run2 (rC (.int 5)) (runN (rCons (runN (rCons (rBor 0) rNil) fLen) (rCons (rC (.int 20)) rNil)) fMin2) fAdd) rNil)) none (tgN 2) aR) (sSeq (sRet (rC (.bl true))) sNx)) := by
    unfold r_law aR a1R a2R a3R a4R a5R a6R a7R a8R a9R a10R
    rfl
  rw [hR]
  have al := @a_all m
  generalize aR = R at al ⊢
  have he : lawEn 10 m = EL9 m none none none none none none none none := rfl
  rw [he]
  refine wp_nx ?_
  unfold sFor
  obtain ⟨n, it⟩ : ∃ n : Nat, iRange (rCons (run2 (rC (.int 5)) (runN (rCons (runN (rCons (rBor 0) rNil) fLen) (rCons (rC (.int 20)) rNil)) fMin2) fAdd) rNil) (EL9 m none none none none none none none none) = .ret ((List.range n).map fun k => D.int (0 + (k : Nat)), EL9 m none none none none none none none none) := by
    have e1 : fLen [.scr m] = some0 (.int (m : Nat)) := rfl
    have e2 : fMin2 [.int (m : Nat), .int 20] = some0 (.int ((if 20 < m then 20 else m : Nat) : Int)) := by
      show some0 (.int (if (20 : Int) < (m : Int) then 20 else (m : Int))) = _
      by_cases h : 20 < m
      · rw [if_pos h, if_pos (by omega)]; rfl
      · rw [if_neg h, if_neg (by omega)]
    have e3 : fAdd (.int 5) (.int ((if 20 < m then 20 else m : Nat) : Int)) = some0 (.int ((5 + (if 20 < m then 20 else m) : Nat) : Int)) := by
      show some0 (.int (5 + _)) = _
      congr 2
    refine ⟨5 + (if 20 < m then 20 else m), ?_⟩
    have kl : 5 + (if 20 < m then 20 else m) ≤ 30 := by split <;> omega
    generalize hk : 5 + (if 20 < m then 20 else m) = k at e3 kl ⊢
    have a2 : (k : Int) ≤ 4096 ∧ -4096 ≤ (k : Int) := by omega
    simp only [EL9, iRange, sSeq, sIf, sRet, sNx, sSet, sPar, sTgt, sDrop, toT, rOr, rAnd, rNot, rIf, runN, run1, run2, rCons, rNil, rBor, rVar, rMov, rC, rChn, rDisp, rCall, rSlice, oNone, oSome, ret1, frc, frcs, onlyV, valO, Op.fz, mkO, boolOf, intOf, itemsOf, iSeq, tgN, T.ret_bind, T.ofOpt, retO, putO, flOf, some0, some1, Option.bind_some, Option.map_some, List.getElem?_cons_zero, List.getElem?_cons_succ, List.set_cons_zero, List.set_cons_succ, List.length_cons, List.length_nil, mkL, mkT, small, Bool.not_true, Bool.not_false, if_true, if_false, Bool.false_eq_true, ite_true, ite_false, Nat.reduceAdd, Nat.reduceLT, Nat.reduceLeDiff, e1, e2, e3, if_pos a2, Int.toNat_natCast]
  rw [it, T.ret_bind]
  refine wp_loop (fun _ en => ∃ t s3 s4 s5 s6 s7 s8, en = EL9 m t s3 s4 s5 s6 s7 s8 none) ?_ ?_ _ _ ⟨_, _, _, _, _, _, _, rfl⟩
  · rintro en ⟨t, s3, s4, s5, s6, s7, s8, rfl⟩
    refine ⟨_, rfl, ?_⟩
    refine wp_eq (x := (.rt (false, .bl true), EL9 m t s3 s4 s5 s6 s7 s8 none)) rfl ?_
    exact ⟨false, rfl⟩
  · rintro d _ en ⟨t, s3, s4, s5, s6, s7, s8, rfl⟩
    refine ⟨EL9 m (some (.fz, d)) s3 s4 s5 s6 s7 s8 none, rfl, T.wp_mono al fun r ⟨e1, e2⟩ => .inl ⟨e1, ?_⟩⟩
    obtain ⟨a, b, c, d', e, q1, h2⟩ := e2
    exact ⟨_, a, b, c, d', e, q1, h2⟩
end Sx
set_option Elab.async false
set_option linter.all false
set_option maxRecDepth 100000
set_option maxHeartbeats 4000000
set_option autoImplicit false
open PySem PySem.W PyProof.Rows in
set_option maxRecDepth 100000 in
set_option maxHeartbeats 0 in
theorem PySem.Challenge.cw_strangerows_k79_tables_written_and_read_holds : PySem.Challenge.rw_strangerows_k79_tables_written_and_read.Holds := by
  w_on; o_law; k_head; (case hw => w_witness2)
  k_fill
  refine Sx.walkG (l := PySem.Challenge.rw_strangerows_k79_tables_written_and_read) (n := 63) (k := 9) (sp := fun K => Sx.spLaw K [] 10 Sx.r_law) (x := "_law_script") rfl (by decide) rfl ⟨rfl, by decide, by decide⟩ (fun w h Y => PySem.W.kIn_of Y) ?F (fun K G a ns hl hO hS => ⟨a, ns, rfl, hS, Sx.tabs_nil, Sx.none_nil, hl, Sx.law_true ns.length hl, fun _ => rfl⟩)
  case F =>
    intro w mg fa h KX G hmg
    refine' Sx.all_mk KX G hmg ?aE_FitError ?exF ?hdF ?tyF ?opq ?topS ?zS ?xhn ?xht ?aE_InvalidTable ?xE_InvalidTable ?al_InvalidTable ?sa_InvalidTable ?ga_InvalidTable ?gg_InvalidTable ?ca_InvalidTable ?iC_InvalidTable ?tC_InvalidTable ?kC_InvalidTable ?xC_InvalidTable ?vC_InvalidTable ?sC_InvalidTable ?ob_InvalidTable ?ty_InvalidTable ?hd_InvalidTable ?su_InvalidTable ?lE_InvalidTable ?cE_InvalidTable ?ce_InvalidTable ?co_InvalidTable ?v2_InvalidTable ?fi_InvalidTable ?no_InvalidTable ?aE_UnknownItem ?xE_UnknownItem ?al_UnknownItem ?sa_UnknownItem ?ga_UnknownItem ?gg_UnknownItem ?ca_UnknownItem ?iC_UnknownItem ?tC_UnknownItem ?kC_UnknownItem ?xC_UnknownItem ?vC_UnknownItem ?sC_UnknownItem ?ob_UnknownItem ?ty_UnknownItem ?hd_UnknownItem ?su_UnknownItem ?lE_UnknownItem ?cE_UnknownItem ?ce_UnknownItem ?co_UnknownItem ?v2_UnknownItem ?fi_UnknownItem ?no_UnknownItem ?aE_InvalidText ?xE_InvalidText ?al_InvalidText ?sa_InvalidText ?ga_InvalidText ?gg_InvalidText ?ca_InvalidText ?iC_InvalidText ?tC_InvalidText ?kC_InvalidText ?xC_InvalidText ?vC_InvalidText ?sC_InvalidText ?ob_InvalidText ?ty_InvalidText ?hd_InvalidText ?su_InvalidText ?lE_InvalidText ?cE_InvalidText ?ce_InvalidText ?co_InvalidText ?v2_InvalidText ?fi_InvalidText ?no_InvalidText ?aC ?pg ?hd ?po ?sa ?mk ?kc ?ha ?hn ?htk ?hmo ?neT ?na_own_columns ?na_own_rows ?na_places ?a0 ?l0 ?c0 ?k0 ?a1 ?l1 ?c1 ?k1 ?a2 ?i2 ?l2 ?c2 ?k2 ?a3 ?g3 ?t3 ?r3 ?l3 ?c3 ?k3 ?a4 ?g4 ?t4 ?r4 ?l4 ?c4 ?k4 ?a5 ?l5 ?c5 ?k5 ?a6 ?i6 ?l6 ?c6 ?k6 ?a7 ?l7 ?c7 ?k7 ?a8 ?l8 ?c8 ?k8 ?a9 ?l9 ?c9 ?k9 ?a10 ?l10 ?c10 ?k10 ?a11 ?l11 ?c11 ?k11 ?a12 ?l12 ?c12 ?k12 ?a13 ?l13 ?c13 ?k13 ?a14 ?l14 ?c14 ?k14 ?a15 ?l15 ?c15 ?k15 ?a16 ?i16 ?l16 ?c16 ?k16 ?a17 ?l17 ?c17 ?k17 ?a18 ?l18 ?c18 ?k18 ?a19 ?l19 ?c19 ?k19 ?a20 ?l20 ?c20 ?k20 ?a21 ?l21 ?c21 ?k21 ?a22 ?l22 ?c22 ?k22 ?a23 ?l23 ?c23 ?k23 ?a24 ?l24 ?c24 ?k24 ?a25 ?l25 ?c25 ?k25 ?a26 ?l26 ?c26 ?k26 ?a27 ?l27 ?c27 ?k27 ?a28 ?l28 ?c28 ?k28 ?a29 ?l29 ?c29 ?k29 ?v_LETTERS ?v_LONGEST_NAME ?v_MOST_COLUMNS ?v_MOST_ROWS ?v_FIRST_TOO_LARGE ?v_COLUMN ?v_ROW ?v_DIGITS ?v_MOST_DIGITS ?z_abs ?z_all ?z_bool ?z_dict ?z_enumerate ?z_int ?z_isinstance ?z_len ?z_list ?z_max ?z_min ?z_range ?z_set ?z_sorted ?z_str ?z_tuple ?z_zip
    (case aE_FitError => k_is)
    (case exF => k_is)
    (case hdF => k_is)
    (case tyF => k_is)
    (case opq => k_is)
    (case topS => first | rfl | k_is)
    (case zS => k_is)
    (case xhn => k_is)
    (case xht => k_is)
    (case aE_InvalidTable => k_is)
    (case xE_InvalidTable => k_is)
    (case al_InvalidTable => first | k_is | kernel_rfl)
    (case sa_InvalidTable => k_is)
    (case ga_InvalidTable => k_is)
    (case gg_InvalidTable => k_is)
    (case ca_InvalidTable => k_is)
    (case iC_InvalidTable => k_is)
    (case tC_InvalidTable => k_is)
    (case kC_InvalidTable => k_is)
    (case xC_InvalidTable => k_is)
    (case vC_InvalidTable => k_is)
    (case sC_InvalidTable => first | rfl | k_is)
    (case ob_InvalidTable => k_is)
    (case ty_InvalidTable => k_is)
    (case hd_InvalidTable => k_is)
    (case su_InvalidTable => k_is)
    (case lE_InvalidTable => k_is)
    (case cE_InvalidTable => k_is)
    (case ce_InvalidTable => k_is)
    (case co_InvalidTable => k_is)
    (case v2_InvalidTable => first | rfl | k_is)
    (case fi_InvalidTable => first | rfl | k_is)
    (case no_InvalidTable => k_is)
    (case aE_UnknownItem => k_is)
    (case xE_UnknownItem => k_is)
    (case al_UnknownItem => first | k_is | kernel_rfl)
    (case sa_UnknownItem => k_is)
    (case ga_UnknownItem => k_is)
    (case gg_UnknownItem => k_is)
    (case ca_UnknownItem => k_is)
    (case iC_UnknownItem => k_is)
    (case tC_UnknownItem => k_is)
    (case kC_UnknownItem => k_is)
    (case xC_UnknownItem => k_is)
    (case vC_UnknownItem => k_is)
    (case sC_UnknownItem => first | rfl | k_is)
    (case ob_UnknownItem => k_is)
    (case ty_UnknownItem => k_is)
    (case hd_UnknownItem => k_is)
    (case su_UnknownItem => k_is)
    (case lE_UnknownItem => k_is)
    (case cE_UnknownItem => k_is)
    (case ce_UnknownItem => k_is)
    (case co_UnknownItem => k_is)
    (case v2_UnknownItem => first | rfl | k_is)
    (case fi_UnknownItem => first | rfl | k_is)
    (case no_UnknownItem => k_is)
    (case aE_InvalidText => k_is)
    (case xE_InvalidText => k_is)
    (case al_InvalidText => first | k_is | kernel_rfl)
    (case sa_InvalidText => k_is)
    (case ga_InvalidText => k_is)
    (case gg_InvalidText => k_is)
    (case ca_InvalidText => k_is)
    (case iC_InvalidText => k_is)
    (case tC_InvalidText => k_is)
    (case kC_InvalidText => k_is)
    (case xC_InvalidText => k_is)
    (case vC_InvalidText => k_is)
    (case sC_InvalidText => first | rfl | k_is)
    (case ob_InvalidText => k_is)
    (case ty_InvalidText => k_is)
    (case hd_InvalidText => k_is)
    (case su_InvalidText => k_is)
    (case lE_InvalidText => k_is)
    (case cE_InvalidText => k_is)
    (case ce_InvalidText => k_is)
    (case co_InvalidText => k_is)
    (case v2_InvalidText => first | rfl | k_is)
    (case fi_InvalidText => first | rfl | k_is)
    (case no_InvalidText => k_is)
    (case aC => k_is)
    (case pg => k_is)
    (case hd => k_is)
    (case po => k_is)
    (case sa => k_is)
    (case mk => k_is)
    (case kc => k_is)
    (case ha => k_is)
    (case hn => k_is)
    (case htk => k_is)
    (case hmo => k_is)
    (case neT => k_is)
    (case na_own_columns => k_is)
    (case na_own_rows => k_is)
    (case na_places => k_is)
    (case a0 => k_is)
    (case l0 => k_is)
    (case c0 => k_is)
    (case k0 => k_is)
    (case a1 => k_is)
    (case l1 => k_is)
    (case c1 => k_is)
    (case k1 => k_is)
    (case a2 => k_is)
    (case i2 => k_is)
    (case l2 => k_is)
    (case c2 => k_is)
    (case k2 => k_is)
    (case a3 => k_is)
    (case g3 => k_is)
    (case t3 => k_is)
    (case r3 => k_is)
    (case l3 => k_is)
    (case c3 => k_is)
    (case k3 => k_is)
    (case a4 => k_is)
    (case g4 => k_is)
    (case t4 => k_is)
    (case r4 => k_is)
    (case l4 => k_is)
    (case c4 => k_is)
    (case k4 => k_is)
    (case a5 => k_is)
    (case l5 => k_is)
    (case c5 => k_is)
    (case k5 => k_is)
    (case a6 => k_is)
    (case i6 => k_is)
    (case l6 => k_is)
    (case c6 => k_is)
    (case k6 => k_is)
    (case a7 => k_is)
    (case l7 => k_is)
    (case c7 => k_is)
    (case k7 => k_is)
    (case a8 => k_is)
    (case l8 => k_is)
    (case c8 => k_is)
    (case k8 => k_is)
    (case a9 => k_is)
    (case l9 => k_is)
    (case c9 => k_is)
    (case k9 => k_is)
    (case a10 => k_is)
    (case l10 => k_is)
    (case c10 => k_is)
    (case k10 => k_is)
    (case a11 => k_is)
    (case l11 => k_is)
    (case c11 => k_is)
    (case k11 => k_is)
    (case a12 => k_is)
    (case l12 => k_is)
    (case c12 => k_is)
    (case k12 => k_is)
    (case a13 => k_is)
    (case l13 => k_is)
    (case c13 => k_is)
    (case k13 => k_is)
    (case a14 => k_is)
    (case l14 => k_is)
    (case c14 => k_is)
    (case k14 => k_is)
    (case a15 => k_is)
    (case l15 => k_is)
    (case c15 => k_is)
    (case k15 => k_is)
    (case a16 => k_is)
    (case i16 => k_is)
    (case l16 => k_is)
    (case c16 => k_is)
    (case k16 => k_is)
    (case a17 => k_is)
    (case l17 => k_is)
    (case c17 => k_is)
    (case k17 => k_is)
    (case a18 => k_is)
    (case l18 => k_is)
    (case c18 => k_is)
    (case k18 => k_is)
    (case a19 => k_is)
    (case l19 => k_is)
    (case c19 => k_is)
    (case k19 => k_is)
    (case a20 => k_is)
    (case l20 => k_is)
    (case c20 => k_is)
    (case k20 => k_is)
    (case a21 => k_is)
    (case l21 => k_is)
    (case c21 => k_is)
    (case k21 => k_is)
    (case a22 => k_is)
    (case l22 => k_is)
    (case c22 => k_is)
    (case k22 => k_is)
    (case a23 => k_is)
    (case l23 => k_is)
    (case c23 => k_is)
    (case k23 => k_is)
    (case a24 => k_is)
    (case l24 => k_is)
    (case c24 => k_is)
    (case k24 => k_is)
    (case a25 => k_is)
    (case l25 => k_is)
    (case c25 => k_is)
    (case k25 => k_is)
    (case a26 => k_is)
    (case l26 => k_is)
    (case c26 => k_is)
    (case k26 => k_is)
    (case a27 => k_is)
    (case l27 => k_is)
    (case c27 => k_is)
    (case k27 => k_is)
    (case a28 => k_is)
    (case l28 => k_is)
    (case c28 => k_is)
    (case k28 => k_is)
    (case a29 => k_is)
    (case l29 => k_is)
    (case c29 => k_is)
    (case k29 => k_is)
    (case v_LETTERS => k_is)
    (case v_LONGEST_NAME => k_is)
    (case v_MOST_COLUMNS => k_is)
    (case v_MOST_ROWS => k_is)
    (case v_FIRST_TOO_LARGE => k_is)
    (case v_COLUMN => k_is)
    (case v_ROW => k_is)
    (case v_DIGITS => k_is)
    (case v_MOST_DIGITS => k_is)
    (case z_abs => k_is)
    (case z_all => k_is)
    (case z_bool => k_is)
    (case z_dict => k_is)
    (case z_enumerate => k_is)
    (case z_int => k_is)
    (case z_isinstance => k_is)
    (case z_len => k_is)
    (case z_list => k_is)
    (case z_max => k_is)
    (case z_min => k_is)
    (case z_range => k_is)
    (case z_set => k_is)
    (case z_sorted => k_is)
    (case z_str => k_is)
    (case z_tuple => k_is)
    (case z_zip => k_is)
