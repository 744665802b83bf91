import PyProof.Rows.All
import Wide.All
import OpenK.AllK
import Wide.FinOn
import HandS.ForMost
import HandS.ForExc
import HandS.Walk
import HandS.IsInst
import HandS.Nested
import HandS.CallSlots
import HandS.TupAny
import HandS.TupMul
import HandS.Deep
import HandS.Star
import HandS.Flow
import HandS.Style
import HandS.Wide
import HandS.Text
import HandS.Defaults
import HandS.MakeKw
import KE.KExcSuper
import KE.KExcInit
import HandS.ExcInit
import HandS.ExcIs
import HandS.ExcField
import HandS.EndTab
import HandS.HeadHook4
import HandS.HeadEnd
import HandS.Words
import HandS.WordsExc
import HandS.ExcValue
import KE.KTryMore
import HandS.Lambda
import KE.GoesEnum
import KE.GoesMore
import HandS.Iter
import HandS.EndBits
import HandS.Head2
import KE.KNestM
import PySem.Challenge.RW_labelroads_k30_exceptions_of_the_first_p
set_option Elab.async false
set_option linter.all false
set_option maxRecDepth 100000
set_option maxHeartbeats 4000000
/-! Core of my own layer over the hand layer: deep values D, what is known of the heap, sound expressions and statements with mirrors. -/
namespace PV
open PySem L2

/-! ### deep values -/
inductive D where
  | non | bl (b : Bool) | int (i : Int) | str (s : Str)
  | lst (xs : List D) | tup (xs : List D)
  | dct (kvs : List (D × D))
  | exc (C : Addr) (fs : List (Str × D))
  | raw (v : V)
  | scr (ns : List Int)

/-- the state of the law's draws -/
structure DS where
  cells : List Int
  great : List Int
  spot : Int
  at_ : Option Addr

inductive Res (α : Type) where
  | ok (a : α) (s : DS)
  | exc (C : Addr) (fs : List (Str × D)) (s : DS)
  | stuck
abbrev M (α : Type) := DS → Res α
@[reducible] def ret {α : Type} (a : α) : M α := fun s => .ok a s
def bnd {α β : Type} (m : M α) (f : α → M β) : M β := fun s => match m s with
  | .ok a s' => f a s'
  | .exc C fs s' => .exc C fs s'
  | .stuck => .stuck
@[reducible] def stk {α : Type} : M α := fun _ => .stuck
@[reducible] def thr {α : Type} (C : Addr) (fs : List (Str × D)) : M α := fun s => .exc C fs s
theorem bnd_ok {α β : Type} {m : M α} {f : α → M β} {s s' : DS} {a : α} (h : m s = .ok a s') : bnd m f s = f a s' := by unfold bnd; rw [h]
theorem bnd_ret {α β : Type} {a : α} {f : α → M β} : bnd (ret a) f = f a := rfl
theorem bnd_exc {α β : Type} {m : M α} {f : α → M β} {s s' : DS} {C : Addr} {fs : List (Str × D)} (h : m s = .exc C fs s') : bnd m f s = .exc C fs s' := by unfold bnd; rw [h]
theorem bnd_stk {α β : Type} {m : M α} {f : α → M β} {s : DS} (h : m s = .stuck) : bnd m f s = .stuck := by unfold bnd; rw [h]
theorem bnd_bnd {α β γ : Type} {m : M α} {f : α → M β} {g : β → M γ} : bnd (bnd m f) g = bnd m fun a => bnd (f a) g := by
  funext s
  unfold bnd
  cases m s <;> rfl

/-! ### deep values in the heap -/
/-- at a: an exception of the class at C, made, perhaps raised and caught; its dict -/
def xlo (a C : Addr) (od : Option Addr) : HO := .ext fun h => ∃ fv sl, h.get? a = some ({ cls := .ref C, dict := od, data := .fields fv, slots := sl } : Obj)
/-- its fields -/
def XD (H : Hp) (od : Option Addr) (fs : List (Str × V)) : Prop := match od with
  | none => fs = []
  | some dx => H dx = some (.xd fs)
mutual
inductive Dv (K : PySem.W.Frag) (H : Hp) : V → D → Prop
  | non : Dv K H .non .non
  | bl (b : Bool) : Dv K H (.bl b) (.bl b)
  | int (i : Int) : Dv K H (.int i) (.int i)
  | str (x : Str) : Dv K H (.str x) (.str x)
  | lst {a : Addr} {xs : List V} {ds : List D} : H a = some (.lst xs) → DvL K H xs ds → Dv K H (.ref a) (.lst ds)
  | tup {a : Addr} {xs : List V} {ds : List D} : SqT K H a xs → DvL K H xs ds → Dv K H (.ref a) (.tup ds)
  | dcE {a : Addr} : H a = some (.dK []) → Dv K H (.ref a) (.dct [])
  | raw (v : V) : Dv K H v (.raw v)
  | scr {a : Addr} {ns : List Int} : SqL K H a (ns.map V.int) → Dv K H (.ref a) (.scr ns)
  | exc {a C : Addr} {od : Option Addr} {ns : List Str} {vs : List V} {ds : List D} : H a = some (xlo a C od) → XD H od (ns.zip vs) → ns.length = vs.length → DvL K H vs ds → Dv K H (.ref a) (.exc C (ns.zip ds))
inductive DvL (K : PySem.W.Frag) (H : Hp) : List V → List D → Prop
  | nil : DvL K H [] []
  | cons {v : V} {vs : List V} {d : D} {ds : List D} : Dv K H v d → DvL K H vs ds → DvL K H (v :: vs) (d :: ds)
end
section
variable {K : PySem.W.Frag} {H H' : Hp}
/-- all that H knows, H' knows -/
def Sub (H H' : Hp) : Prop := ∀ a o, H a = some o → H' a = some o
theorem Sub.refl (H : Hp) : Sub H H := fun _ _ h => h
theorem Sub.trans {H1 H2 H3 : Hp} (a : Sub H1 H2) (b : Sub H2 H3) : Sub H1 H3 := fun x o h => b x o (a x o h)
theorem Sub.rd {a : Addr} {u : HO} (e : Sub H H') (h : Rd H a u) : Rd H' a u := by
  rcases h with h | ⟨o, h⟩
  · exact Or.inl (e a _ h)
  · exact Or.inr ⟨o, e a _ h⟩
theorem Sub.l {a : Addr} {xs : List V} (e : Sub H H') (h : SqL K H a xs) : SqL K H' a xs := by
  rcases h with h | h
  · exact Or.inl (e.rd h)
  · exact Or.inr h
theorem Sub.t {a : Addr} {xs : List V} (e : Sub H H') (h : SqT K H a xs) : SqT K H' a xs := by
  rcases h with h | h
  · exact Or.inl (e.rd h)
  · exact Or.inr h
theorem Sub.xd {od : Option Addr} {fs : List (Str × V)} (e : Sub H H') (h : XD H od fs) : XD H' od fs := by
  cases od with
  | none => exact h
  | some dx => exact e _ _ h
mutual
theorem Dv.mono (e : Sub H H') : ∀ {v : V} {d : D}, Dv K H v d → Dv K H' v d
  | _, _, .non => .non
  | _, _, .bl b => .bl b
  | _, _, .int i => .int i
  | _, _, .str x => .str x
  | _, _, .lst h r => .lst (e _ _ h) (DvL.mono e r)
  | _, _, .tup h r => .tup (e.t h) (DvL.mono e r)
  | _, _, .dcE h => .dcE (e _ _ h)
  | _, _, .raw v => .raw v
  | _, _, .scr h => .scr (e.l h)
  | _, _, .exc h x l r => .exc (e _ _ h) (e.xd x) l (DvL.mono e r)
theorem DvL.mono (e : Sub H H') : ∀ {vs : List V} {ds : List D}, DvL K H vs ds → DvL K H' vs ds
  | _, _, .nil => .nil
  | _, _, .cons a r => .cons (Dv.mono e a) (DvL.mono e r)
end
theorem DvL.len : ∀ {vs : List V} {ds : List D}, DvL K H vs ds → vs.length = ds.length
  | _, _, .nil => rfl
  | _, _, .cons _ r => by rw [List.length_cons, List.length_cons, DvL.len r]
theorem DvL.app : ∀ {vs us : List V} {ds es : List D}, DvL K H vs ds → DvL K H us es → DvL K H (vs ++ us) (ds ++ es)
  | _, _, _, _, .nil, r => r
  | _, _, _, _, .cons a r, q => .cons a (DvL.app r q)
theorem DvL.get : ∀ {vs : List V} {ds : List D} {i : Nat} {v : V}, DvL K H vs ds → vs[i]? = some v → ∃ d, ds[i]? = some d ∧ Dv K H v d
  | _, _, _, _, .nil, e => by simp at e
  | _, _, 0, _, .cons a _, e => by simp at e; subst e; exact ⟨_, rfl, a⟩
  | _, _, i + 1, v, .cons _ r, e => by
    obtain ⟨d, h1, h2⟩ := DvL.get (i := i) (v := v) r (by simpa using e)
    exact ⟨d, by simpa using h1, h2⟩
theorem DvL.getD : ∀ {vs : List V} {ds : List D} {i : Nat} {d : D}, DvL K H vs ds → ds[i]? = some d → ∃ v, vs[i]? = some v ∧ Dv K H v d
  | _, _, _, _, .nil, e => by simp at e
  | _, _, 0, _, .cons a _, e => by simp at e; subst e; exact ⟨_, rfl, a⟩
  | _, _, i + 1, v, .cons _ r, e => by
    obtain ⟨d, h1, h2⟩ := DvL.getD (i := i) (d := v) r (by simpa using e)
    exact ⟨d, by simpa using h1, h2⟩
end

/-! ### the world: what may change under our feet (the law's draws, tables of code objects) -/
def Mcells : Key := Sum.inr "cells"
def Mgreat : Key := Sum.inr "great"
def Mspot : Key := Sum.inr "spot"
structure DrwAt (am ac ag : Addr) (s : DS) (H : Hp) : Prop where
  m : H am = some (.dK [(Mcells, .ref ac), (Mgreat, .ref ag), (Mspot, .int s.spot)])
  c : H ac = some (.lst (s.cells.map V.int))
  g : H ag = some (.lst (s.great.map V.int))
  ne : ac ≠ ag
structure Wd where
  dr : Option (Addr × Addr × Addr)
  tb : List NdefX.NTab
def Wd.vol (W : Wd) (a : Addr) : Prop := (∃ p, W.dr = some p ∧ (a = p.1 ∨ a = p.2.1 ∨ a = p.2.2)) ∨ ∃ t ∈ W.tb, a = t.1
structure Wd.ok (W : Wd) (s : DS) (H : Hp) : Prop where
  dr : ∀ p, W.dr = some p → DrwAt p.1 p.2.1 p.2.2 s H
  tb : NdefX.TabsN W.tb H
  at_ : s.at_ = W.dr.map (·.1)
theorem Wd.ok.dom {W : Wd} {s : DS} {H : Hp} (h : W.ok s H) {a : Addr} (v : W.vol a) : ∃ o, H a = some o := by
  rcases v with ⟨p, e, h1 | h1 | h1⟩ | ⟨t, ht, rfl⟩
  · subst h1; exact ⟨_, (h.dr p e).m⟩
  · subst h1; exact ⟨_, (h.dr p e).c⟩
  · subst h1; exact ⟨_, (h.dr p e).g⟩
  · obtain ⟨ps, e, _⟩ := h.tb t ht
    exact ⟨_, e⟩
/-- non-volatile things stay -/
def Ext (W : Wd) (H H' : Hp) : Prop := ∀ a o, ¬ W.vol a → H a = some o → H' a = some o
theorem Ext.refl {W : Wd} (H : Hp) : Ext W H H := fun _ _ _ h => h
theorem Ext.trans {W : Wd} {H1 H2 H3 : Hp} (a : Ext W H1 H2) (b : Ext W H2 H3) : Ext W H1 H3 := fun x o n h => b x o n (a x o n h)
theorem Wd.ok.st {W : Wd} {s : DS} {H H' : Hp} (h : W.ok s H) (e : Sub H H') : W.ok s H' :=
  ⟨fun p q => let z := h.dr p q; ⟨e _ _ z.m, e _ _ z.c, e _ _ z.g, z.ne⟩, h.tb.ext e, h.at_⟩
/-- what is known and will not change -/
def Kn (W : Wd) (B H : Hp) : Prop := ∀ a o, B a = some o → ¬ W.vol a ∧ H a = some o
theorem Kn.sub {W : Wd} {B H : Hp} (k : Kn W B H) : Sub B H := fun a o h => (k a o h).2
theorem Kn.ext {W : Wd} {B H H' : Hp} (k : Kn W B H) (e : Ext W H H') : Kn W B H' := fun a o h => ⟨(k a o h).1, e a o (k a o h).1 (k a o h).2⟩
/-- known parts and heaps grow -/
structure Gr (W : Wd) (B H B' H' : Hp) : Prop where
  kn : Kn W B' H'
  bb : Sub B B'
  hh : Ext W H H'
  nw : ∀ a o, H a = some o → B' a = B a
theorem Gr.refl {W : Wd} {B H : Hp} (k : Kn W B H) : Gr W B H B H := ⟨k, Sub.refl _, Ext.refl _, fun _ _ _ => rfl⟩
theorem Kn.vol_none {W : Wd} {B H : Hp} (k : Kn W B H) {a : Addr} (v : W.vol a) : B a = none := by
  cases e : B a with
  | none => rfl
  | some o => exact absurd v (k a o e).1
theorem Gr.trans {W : Wd} {B H B1 H1 B2 H2 : Hp} (a : Gr W B H B1 H1) (b : Gr W B1 H1 B2 H2) : Gr W B H B2 H2 :=
  ⟨b.kn, a.bb.trans b.bb, a.hh.trans b.hh, fun x o h => by
    by_cases v : W.vol x
    · have k : Kn W B H1 := fun y u z => a.kn y u (a.bb y u z)
      rw [b.kn.vol_none v, k.vol_none v]
    · rw [b.nw x o (a.hh x o v h), a.nw x o h]⟩
/-- a new object is laid and known -/
theorem Gr.new {W : Wd} {B H : Hp} {s : DS} (k : Kn W B H) (w : W.ok s H) {p : Addr} {o : HO} (h : H p = none) : Gr W B H (upd B p o) (upd H p o) := by
  have hv : ¬ W.vol p := fun v => by
    obtain ⟨u, e⟩ := w.dom v
    rw [e] at h; cases h
  have hb : B p = none := by
    cases e : B p with
    | none => rfl
    | some u => rw [(k p u e).2] at h; cases h
  refine ⟨fun a u e => ?_, fun a u e => ?_, fun a u n e => ?_, fun a u e => ?_⟩
  · by_cases ha : a = p
    · subst ha; rw [upd_same] at e ⊢; exact ⟨hv, e⟩
    · rw [upd_ne ha] at e ⊢; exact k a u e
  · rw [upd_ne (ne_of_none e hb)]; exact e
  · rw [upd_ne (ne_of_none e h)]; exact e
  · rw [upd_ne (ne_of_none e h)]
theorem sub_new {H : Hp} {p : Addr} {o : HO} (h : H p = none) : Sub H (upd H p o) := fun a u e => by
  rw [upd_ne (ne_of_none e h)]; exact e
/-- a new object is laid, nothing is said of it -/
theorem Gr.lay {W : Wd} {B H : Hp} (k : Kn W B H) {p : Addr} {o : HO} (h : H p = none) : Gr W B H B (upd H p o) :=
  ⟨fun a u e => ⟨(k a u e).1, sub_new h a u (k a u e).2⟩, Sub.refl _, fun a u n e => sub_new h a u e, fun _ _ _ => rfl⟩

/-! ### locals -/
inductive Sl where
  | un
  | va (d : D)
  | ow (ds : List D)
  | cl
/-- what is known all along: the tables of code objects, the function that a slot cl holds, a part of the known heap -/
structure Gd where
  tb : List NdefX.NTab
  f : Addr
  p : Wd → Hp → Hp → Prop
  mono : ∀ {W : Wd} {B H B' H' : Hp}, Sub B B' → (∀ a q, ¬ W.vol a → H a = some (LamX.CodeO a q) → H' a = some (LamX.CodeO a q)) → p W B H → p W B' H'
def G0 (T : List NdefX.NTab) : Gd := ⟨T, 0, fun _ _ _ => True, fun _ _ h => h⟩
section
variable {G : Gd}
/-- H0: the heap at the def's entry; an owned list is younger -/
def SlOk (G : Gd) (W : Wd) (K : PySem.W.Frag) (H0 B H : Hp) (ov : Option V) : Sl → Prop
  | .un => True
  | .va d => ∃ v, ov = some v ∧ Dv K B v d
  | .cl => ov = some (.ref G.f)
  | .ow ds => ∃ p vs, ov = some (.ref p) ∧ ¬ W.vol p ∧ H0 p = none ∧ H p = some (.lst vs) ∧ B p = none ∧ DvL K B vs ds
structure Sm (G : Gd) (W : Wd) (K : PySem.W.Frag) (H0 B H : Hp) (σ : St) (ls : List Sl) : Prop where
  len : σ.length = ls.length
  sl : ∀ (i : Nat) (x : Sl), ls[i]? = some x → ∃ ov, σ[i]? = some ov ∧ SlOk G W K H0 B H ov x
  dj : ∀ (i j : Nat) (ds es : List D) (p : Addr), i ≠ j → ls[i]? = some (.ow ds) → ls[j]? = some (.ow es) → σ[i]? = some (some (.ref p)) → σ[j]? ≠ some (some (.ref p))
  gd : G.p W B H ∧ W.tb = G.tb
theorem SlOk.grow {W : Wd} {K : PySem.W.Frag} {H0 B H B' H' : Hp} {ov : Option V} {x : Sl} (g : Gr W B H B' H') (h : SlOk G W K H0 B H ov x) : SlOk G W K H0 B' H' ov x := by
  cases x with
  | un => trivial
  | cl => exact h
  | va d =>
    obtain ⟨v, e, r⟩ := h
    exact ⟨v, e, r.mono g.bb⟩
  | ow ds =>
    obtain ⟨p, vs, e, nv, h0, hp, hb, r⟩ := h
    exact ⟨p, vs, e, nv, h0, g.hh p _ nv hp, by rw [g.nw p _ hp]; exact hb, r.mono g.bb⟩
theorem Sm.grow {W : Wd} {K : PySem.W.Frag} {H0 B H B' H' : Hp} {σ : St} {ls : List Sl} (g : Gr W B H B' H') (h : Sm G W K H0 B H σ ls) : Sm G W K H0 B' H' σ ls :=
  ⟨h.len, fun i x e => let ⟨ov, e1, r⟩ := h.sl i x e; ⟨ov, e1, r.grow g⟩, h.dj, G.mono g.bb (fun a _ n e => g.hh a _ n e) h.gd.1, h.gd.2⟩
theorem set_at {α : Type} {l : List α} {i j : Nat} {a x : α} (e : (l.set i a)[j]? = some x) : (j = i ∧ x = a ∧ i < l.length) ∨ (j ≠ i ∧ l[j]? = some x) := by
  by_cases h : j = i
  · subst h
    have hlt : j < l.length := by simpa using (List.getElem?_eq_some_iff.mp e).1
    rw [List.getElem?_set_self hlt] at e
    exact Or.inl ⟨rfl, (Option.some.inj e).symm, hlt⟩
  · rw [List.getElem?_set_ne (Ne.symm h)] at e
    exact Or.inr ⟨h, e⟩
theorem Sm.set_va {W : Wd} {K : PySem.W.Frag} {H0 B H : Hp} {σ : St} {ls : List Sl} {i : Nat} {v : V} {d : D} (h : Sm G W K H0 B H σ ls) (r : Dv K B v d) : Sm G W K H0 B H (σ.set i (some v)) (ls.set i (.va d)) := by
  refine ⟨by simp [h.len], fun j x e => ?_, fun j k ds es p hjk e1 e2 e3 => ?_, h.gd⟩
  · rcases set_at e with ⟨rfl, rfl, hlt⟩ | ⟨hj, e⟩
    · exact ⟨some v, by rw [List.getElem?_set_self (by rw [h.len]; exact hlt)], v, rfl, r⟩
    · rw [List.getElem?_set_ne (Ne.symm hj)]
      exact h.sl j x e
  · rcases set_at e1 with ⟨_, z, _⟩ | ⟨nj, e1⟩
    · cases z
    · rcases set_at e2 with ⟨_, z, _⟩ | ⟨nk, e2⟩
      · cases z
      · rw [List.getElem?_set_ne (Ne.symm nj)] at e3
        rw [List.getElem?_set_ne (Ne.symm nk)]
        exact h.dj j k ds es p hjk e1 e2 e3
/-- a slot is forgotten -/
theorem Sm.set_un {W : Wd} {K : PySem.W.Frag} {H0 B H : Hp} {σ : St} {ls : List Sl} {i : Nat} {o : Option V} (h : Sm G W K H0 B H σ ls) : Sm G W K H0 B H (σ.set i o) (ls.set i .un) := by
  refine ⟨by simp [h.len], fun j x e => ?_, fun j k ds es p hjk e1 e2 e3 => ?_, h.gd⟩
  · rcases set_at e with ⟨rfl, rfl, hlt⟩ | ⟨hj, e⟩
    · exact ⟨o, by rw [List.getElem?_set_self (by rw [h.len]; exact hlt)], trivial⟩
    · rw [List.getElem?_set_ne (Ne.symm hj)]
      exact h.sl j x e
  · rcases set_at e1 with ⟨_, z, _⟩ | ⟨nj, e1⟩
    · cases z
    · rcases set_at e2 with ⟨_, z, _⟩ | ⟨nk, e2⟩
      · cases z
      · rw [List.getElem?_set_ne (Ne.symm nj)] at e3
        rw [List.getElem?_set_ne (Ne.symm nk)]
        exact h.dj j k ds es p hjk e1 e2 e3
/-- a new owned list -/
theorem Sm.set_ow {W : Wd} {K : PySem.W.Frag} {H0 B H : Hp} {σ : St} {ls : List Sl} {i : Nat} {p : Addr} {vs : List V} {ds : List D} (h : Sm G W K H0 B H σ ls) (nv : ¬ W.vol p) (h0 : H0 p = none) (hp : H p = some (.lst vs)) (hb : B p = none) (r : DvL K B vs ds)
    (fr : ∀ (j : Nat) (es : List D), ls[j]? = some (.ow es) → σ[j]? ≠ some (some (.ref p))) : Sm G W K H0 B H (σ.set i (some (.ref p))) (ls.set i (.ow ds)) := by
  refine ⟨by simp [h.len], fun j x e => ?_, fun j k es fs q hjk e1 e2 e3 => ?_, h.gd⟩
  · rcases set_at e with ⟨rfl, rfl, hlt⟩ | ⟨hj, e⟩
    · exact ⟨some (.ref p), by rw [List.getElem?_set_self (by rw [h.len]; exact hlt)], p, vs, rfl, nv, h0, hp, hb, r⟩
    · rw [List.getElem?_set_ne (Ne.symm hj)]
      exact h.sl j x e
  · rcases set_at e1 with ⟨ej, _, hlt⟩ | ⟨nj, f1⟩
    · rw [ej, List.getElem?_set_self (by rw [h.len]; exact hlt)] at e3
      cases e3
      rcases set_at e2 with ⟨e, _, _⟩ | ⟨nk, f2⟩
      · exact absurd (ej.trans e.symm) hjk
      · rw [List.getElem?_set_ne (Ne.symm nk)]
        exact fr k fs f2
    · rw [List.getElem?_set_ne (Ne.symm nj)] at e3
      rcases set_at e2 with ⟨ek, _, hlt⟩ | ⟨nk, f2⟩
      · rw [ek, List.getElem?_set_self (by rw [h.len]; exact hlt)]
        intro z
        cases z
        exact fr j es f1 e3
      · rw [List.getElem?_set_ne (Ne.symm nk)]
        exact h.dj j k es fs q hjk f1 f2 e3
/-- a borrowed value: a deep one, or an owned list as it stands now -/
def Db (W : Wd) (K : PySem.W.Frag) (B H : Hp) (v : V) (d : D) : Prop := Dv K B v d ∨ ∃ p vs ds, v = .ref p ∧ d = .lst ds ∧ ¬ W.vol p ∧ H p = some (.lst vs) ∧ DvL K B vs ds
theorem Db.grow {W : Wd} {K : PySem.W.Frag} {B H B' H' : Hp} {v : V} {d : D} (g : Gr W B H B' H') (h : Db W K B H v d) : Db W K B' H' v d := by
  rcases h with h | ⟨p, vs, ds, e1, e2, nv, hp, r⟩
  · exact Or.inl (h.mono g.bb)
  · exact Or.inr ⟨p, vs, ds, e1, e2, nv, g.hh p _ nv hp, r.mono g.bb⟩

/-! ### what an exception left behind -/
/-- its fields, known -/
def XFl (K : PySem.W.Frag) (B : Hp) (od : Option Addr) (fs : List (Str × D)) : Prop := ∃ (ns : List Str) (vs : List V) (ds : List D), XD B od (ns.zip vs) ∧ ns.length = vs.length ∧ DvL K B vs ds ∧ fs = ns.zip ds
/-- the wish that a raised exception meets -/
def XW (W : Wd) (K : PySem.W.Frag) (B H : Hp) (C : Addr) (fs : List (Str × D)) (s' : DS) (E : XK) : Prop :=
  ∀ (od : Option Addr) (B' H' : Hp), Gr W B H B' H' → W.ok s' H' → XFl K B' od fs → E (.ref C) od H'

/-! ### sound expressions -/
/-- what evaluates by m: its value is m's deep value in the grown heap -/
def Ans (W : Wd) (K : PySem.W.Frag) (B H : Hp) (r : Res D) (Q : VK) (E : XK) : Prop := match r with
  | .ok d s' => ∀ (v : V) (B' H' : Hp), Gr W B H B' H' → W.ok s' H' → Dv K B' v d → Q v H'
  | .exc C fs s' => XW W K B H C fs s' E
  | .stuck => False
end
section
variable {G : Gd}
abbrev Mir (α : Type) := List Sl → M α
structure SE (G : Gd) (X : Cx) (Wx : WX) (e : Expr) (m : Mir D) : Prop where
  ex : ∃ t, PE X e t ∧ ∀ (W : Wd) (H0 : Hp) (σ : St) (B H : Hp) (ls : List Sl) (s : DS) (Q : VK), Kn W B H → W.ok s H → Sm G W X.K H0 B H σ ls → Ans W X.K B H (m ls s) Q (fun c d H' => Wx c d σ H') → t σ H Q
/-- borrowed: as SE, the value may be an owned list -/
def AnsO (W : Wd) (K : PySem.W.Frag) (B H : Hp) (r : Res D) (Q : VK) (E : XK) : Prop := match r with
  | .ok d s' => ∀ (v : V) (B' H' : Hp), Gr W B H B' H' → W.ok s' H' → Db W K B' H' v d → Q v H'
  | .exc C fs s' => XW W K B H C fs s' E
  | .stuck => False
structure SO (G : Gd) (X : Cx) (Wx : WX) (e : Expr) (m : Mir D) : Prop where
  ex : ∃ t, PE X e t ∧ ∀ (W : Wd) (H0 : Hp) (σ : St) (B H : Hp) (ls : List Sl) (s : DS) (Q : VK), Kn W B H → W.ok s H → Sm G W X.K H0 B H σ ls → AnsO W X.K B H (m ls s) Q (fun c d H' => Wx c d σ H') → t σ H Q
theorem AnsO.ans {W : Wd} {K : PySem.W.Frag} {B H : Hp} {r : Res D} {Q : VK} {E : XK} (h : AnsO W K B H r Q E) : Ans W K B H r Q E := by
  cases r with
  | ok d s' => exact fun v B' H' g w r => h v B' H' g w (Or.inl r)
  | exc C fs s' => exact h
  | stuck => exact h
theorem SE.o {X : Cx} {Wx : WX} {e : Expr} {m : Mir D} (h : SE G X Wx e m) : SO G X Wx e m := by
  obtain ⟨t, p, h⟩ := h.ex
  exact ⟨t, p, fun W H0 σ B H ls s Q k w sm q => h W H0 σ B H ls s Q k w sm q.ans⟩
/-- a new list that nobody else holds -/
def AnsL (W : Wd) (K : PySem.W.Frag) (B H : Hp) (r : Res (List D)) (Q : VK) (E : XK) : Prop := match r with
  | .ok ds s' => ∀ (p : Addr) (vs : List V) (B' H' : Hp), Gr W B H B' H' → W.ok s' H' → H p = none → ¬ W.vol p → B' p = none → H' p = some (.lst vs) → DvL K B' vs ds → Q (.ref p) H'
  | .exc C fs s' => XW W K B H C fs s' E
  | .stuck => False
structure SL (G : Gd) (X : Cx) (Wx : WX) (e : Expr) (m : Mir (List D)) : Prop where
  ex : ∃ t, PE X e t ∧ ∀ (W : Wd) (H0 : Hp) (σ : St) (B H : Hp) (ls : List Sl) (s : DS) (Q : VK), Kn W B H → W.ok s H → Sm G W X.K H0 B H σ ls → AnsL W X.K B H (m ls s) Q (fun c d H' => Wx c d σ H') → t σ H Q
def mL (m : Mir (List D)) : Mir D := fun ls => bnd (m ls) fun ds => ret (.lst ds)
/-- a new list, known from now on -/
theorem SL.se {X : Cx} {Wx : WX} {e : Expr} {m : Mir (List D)} (h : SL G X Wx e m) : SE G X Wx e (mL m) := by
  obtain ⟨t, p, h⟩ := h.ex
  refine ⟨t, p, fun W H0 σ B H ls s Q k w sm q => h W H0 σ B H ls s Q k w sm ?_⟩
  unfold mL at q
  cases e : m ls s with
  | ok ds s' =>
    rw [bnd_ok e] at q
    intro p vs B' H' g w' hn nv hb hp r
    have hs : Sub B' (upd B' p (.lst vs)) := sub_new hb
    refine q (.ref p) (upd B' p (.lst vs)) H' ⟨fun a o z => ?_, g.bb.trans hs, g.hh, fun a o z => ?_⟩ w' (.lst upd_same (r.mono hs))
    · by_cases ha : a = p
      · subst ha
        rw [upd_same] at z
        cases z
        exact ⟨nv, hp⟩
      · rw [upd_ne ha] at z
        exact g.kn a o z
    · rw [upd_ne (ne_of_none z hn)]
      exact g.nw a o z
  | exc C fs s' =>
    rw [bnd_exc e] at q
    exact q
  | stuck =>
    rw [bnd_stk e] at q
    exact q
end
end PV
set_option maxHeartbeats 4000000
/-! Sound expressions. -/
namespace PV
open PySem L2
variable {G : Gd}
section
variable {W : Wd} {K : PySem.W.Frag} {B H B1 H1 : Hp} {Q Q1 : VK} {E : XK} {s : DS}
theorem Ans.grow {r : Res D} (g : Gr W B H B1 H1) (h : Ans W K B H r Q E) : Ans W K B1 H1 r Q E := by
  cases r with
  | ok d s' => exact fun v B' H' g' w r => h v B' H' (g.trans g') w r
  | exc C fs s' => exact fun od B' H' g' w x => h od B' H' (g.trans g') w x
  | stuck => exact h
/-- the first of two steps -/
theorem Ans.bind {ma : M D} {f : D → M D} (h : Ans W K B H (bnd ma f s) Q E)
    (hc : ∀ (d : D) (s' : DS) (v : V) (B1 H1 : Hp), Gr W B H B1 H1 → W.ok s' H1 → Dv K B1 v d → Ans W K B1 H1 (f d s') Q E → Q1 v H1) : Ans W K B H (ma s) Q1 E := by
  cases e : ma s with
  | ok d s' =>
    rw [bnd_ok e] at h
    exact fun v B1 H1 g w r => hc d s' v B1 H1 g w r (h.grow g)
  | exc C fs s' =>
    rw [bnd_exc e] at h
    exact h
  | stuck =>
    rw [bnd_stk e] at h
    exact h
/-- .. where the first one's value is borrowed -/
theorem Ans.bindO {ma : M D} {f : D → M D} (h : Ans W K B H (bnd ma f s) Q E)
    (hc : ∀ (d : D) (s' : DS) (v : V) (B1 H1 : Hp), Gr W B H B1 H1 → W.ok s' H1 → Db W K B1 H1 v d → Ans W K B1 H1 (f d s') Q E → Q1 v H1) : AnsO W K B H (ma s) Q1 E := by
  cases e : ma s with
  | ok d s' =>
    rw [bnd_ok e] at h
    exact fun v B1 H1 g w r => hc d s' v B1 H1 g w r (h.grow g)
  | exc C fs s' =>
    rw [bnd_exc e] at h
    exact h
  | stuck =>
    rw [bnd_stk e] at h
    exact h
theorem AnsL.grow {r : Res (List D)} (g : Gr W B H B1 H1) (w1 : ∃ s1, W.ok s1 H1) (h : AnsL W K B H r Q E) : AnsL W K B1 H1 r Q E := by
  cases r with
  | ok d s' =>
    refine fun p vs B' H' g' w hn nv hb hp r => h p vs B' H' (g.trans g') w ?_ nv hb hp r
    cases e : H p with
    | none => rfl
    | some o =>
      rw [g.hh p o nv e] at hn
      cases hn
  | exc C fs s' => exact fun od B' H' g' w x => h od B' H' (g.trans g') w x
  | stuck => exact h
theorem AnsL.bindO {ma : M D} {f : D → M (List D)} (h : AnsL W K B H (bnd ma f s) Q E)
    (hc : ∀ (d : D) (s' : DS) (v : V) (B1 H1 : Hp), Gr W B H B1 H1 → W.ok s' H1 → Db W K B1 H1 v d → AnsL W K B1 H1 (f d s') Q E → Q1 v H1) : AnsO W K B H (ma s) Q1 E := by
  cases e : ma s with
  | ok d s' =>
    rw [bnd_ok e] at h
    exact fun v B1 H1 g w r => hc d s' v B1 H1 g w r (h.grow g ⟨_, w⟩)
  | exc C fs s' =>
    rw [bnd_exc e] at h
    exact h
  | stuck =>
    rw [bnd_stk e] at h
    exact h
/-- a new list at its end -/
theorem AnsL.ret_ {ds : List D} {vs : List V} {p : Addr} (h : AnsL W K B H (.ok ds s) Q E) (k : Kn W B H) (w : W.ok s H) (hn : H p = none) (r : DvL K B vs ds) : Q (.ref p) (upd H p (.lst vs)) := by
  have nv : ¬ W.vol p := fun v => by
    obtain ⟨o, e⟩ := w.dom v
    rw [e] at hn
    cases hn
  have nb : B p = none := by
    cases e : B p with
    | none => rfl
    | some o =>
      rw [(k p o e).2] at hn
      cases hn
  exact h p vs B _ (Gr.lay k hn) (w.st (sub_new hn)) hn nv nb upd_same r
/-- a new tuple at its end -/
theorem Ans.new_ {d : D} {p : Addr} {o : HO} (h : Ans W K B H (.ok d s) Q E) (k : Kn W B H) (w : W.ok s H) (hn : H p = none) (r : Dv K (upd B p o) (.ref p) d) : Q (.ref p) (upd H p o) :=
  h (.ref p) _ _ (Gr.new k w hn) (w.st (sub_new hn)) r
theorem none_of_kn {p : Addr} (k : Kn W B H) (h : H p = none) : B p = none := by
  cases e : B p with
  | none => rfl
  | some o =>
    rw [(k p o e).2] at h
    cases h
theorem Ans.ret_ {d : D} {v : V} (h : Ans W K B H (.ok d s) Q E) (k : Kn W B H) (w : W.ok s H) (r : Dv K B v d) : Q v H := h v B H (Gr.refl k) w r
end

section
variable {X : Cx} {Wx : WX} {a b c e : Expr} {es : List Expr} {ma mb mc me : Mir D} {pos : Pos}
theorem PE.or {t t' : TE} (h : PE X e t) (h' : PE X e t') : PE X e (fun σ H Q => t σ H Q ∨ t' σ H Q) :=
  ⟨fun pins s σ H Q I q => q.elim (h.run pins s σ H Q I) (h'.run pins s σ H Q I)⟩
/-! ### names and constants -/
def mVar (i : Nat) : Mir D := fun ls => match ls[i]? with
  | some (.va d) => ret d
  | _ => stk
theorem se_var {i : Nat} {x : Str} (hN : X.N[i]? = some x := by rfl) (hv : Vis X.env.scope x := by first | exact Or.inl rfl | exact Or.inr (Or.inl rfl) | exact Or.inr (Or.inr rfl)) (hd : (x == ("__debug__" : Str)) = false := by decide)
    (hcd : (x == ("__classdict__" : Str)) = false := by decide) : SE G X Wx (.Name x pos) (mVar i) := by
  refine ⟨tVar i, pe_var hN hv hd hcd, fun W H0 σ B H ls s Q k w sm h => ?_⟩
  unfold mVar at h
  cases e : ls[i]? with
  | none =>
    rw [e] at h
    exact (show False from h).elim
  | some sl =>
    rw [e] at h
    cases sl with
    | va d =>
      obtain ⟨ov, e1, v, rfl, r⟩ := sm.sl i _ e
      exact ⟨v, e1, h.ret_ k w r⟩
    | un => exact (show False from h).elim
    | cl => exact (show False from h).elim
    | ow ds => exact (show False from h).elim
/-- an owned list, borrowed -/
def mOwn (i : Nat) : Mir D := fun ls => match ls[i]? with
  | some (.ow ds) => ret (.lst ds)
  | _ => stk
theorem so_own {i : Nat} {x : Str} (hN : X.N[i]? = some x := by rfl) (hv : Vis X.env.scope x := by first | exact Or.inl rfl | exact Or.inr (Or.inl rfl) | exact Or.inr (Or.inr rfl)) (hd : (x == ("__debug__" : Str)) = false := by decide)
    (hcd : (x == ("__classdict__" : Str)) = false := by decide) : SO G X Wx (.Name x pos) (mOwn i) := by
  refine ⟨tVar i, pe_var hN hv hd hcd, fun W H0 σ B H ls s Q k w sm h => ?_⟩
  unfold mOwn at h
  cases e : ls[i]? with
  | none =>
    rw [e] at h
    exact (show False from h).elim
  | some sl =>
    rw [e] at h
    cases sl with
    | ow ds =>
      obtain ⟨ov, e1, p, vs, rfl, nv, h0, hp, hb, r⟩ := sm.sl i _ e
      exact ⟨_, e1, h (.ref p) B H (Gr.refl k) w (Or.inr ⟨p, vs, ds, rfl, rfl, nv, hp, r⟩)⟩
    | un => exact (show False from h).elim
    | cl => exact (show False from h).elim
    | va ds => exact (show False from h).elim
theorem se_int {i : Int} {j} : SE G X Wx (.Constant (.int i) j pos) (fun _ => ret (.int i)) := ⟨_, pe_int, fun W H0 σ B H ls s Q k w sm h => h.ret_ k w (.int i)⟩
theorem se_bl {i : Bool} {j} : SE G X Wx (.Constant (.bool i) j pos) (fun _ => ret (.bl i)) := ⟨_, pe_bl, fun W H0 σ B H ls s Q k w sm h => h.ret_ k w (.bl i)⟩
theorem se_non {j} : SE G X Wx (.Constant .none j pos) (fun _ => ret .non) := ⟨_, pe_non, fun W H0 σ B H ls s Q k w sm h => h.ret_ k w .non⟩
theorem se_str {x : Str} {j} : SE G X Wx (.Constant (.str x) j pos) (fun _ => ret (.str x)) := ⟨_, pe_str, fun W H0 σ B H ls s Q k w sm h => h.ret_ k w (.str x)⟩
/-- a module's constant, a class: the value is told as data of any heap -/
theorem se_glob {x : Str} {v : V} {u : Value} {d : D} (hg : Gl X x) (hm : X.mg x = some u) (r : RelV v u) (q : ∀ B, Dv X.K B v d) (hd : (x == ("__debug__" : Str)) = false := by decide) : SE G X Wx (.Name x pos) (fun _ => ret d) :=
  ⟨_, pe_glob hg hm r hd, fun W H0 σ B H ls s Q k w sm h => h.ret_ k w (q B)⟩
/-- a built-in as a value -/
theorem se_bltn {x : Str} {v : V} {u : Value} (hg : Gl X x) (hm : X.mg x = none) (hv : bootBuiltins x = some u) (r : RelV v u) (hn : x ≠ "__name__" := by decide) (hd : (x == ("__debug__" : Str)) = false := by decide) : SE G X Wx (.Name x pos) (fun _ => ret (.raw v)) :=
  ⟨_, pe_bltn hg hm hv r hn hd, fun W H0 σ B H ls s Q k w sm h => h.ret_ k w (.raw v)⟩

/-! ### operations on two values -/
structure Op2 (X : Cx) (f : Value → Value → Sem Value) (op : D → D → M D) : Prop where
  ex : ∃ r, OpR X f r ∧ ∀ (W : Wd) (B H : Hp) (s : DS) (x y : V) (dx dy : D) (Q : VK) (E : XK), Kn W B H → W.ok s H → Db W X.K B H x dx → Db W X.K B H y dy → Ans W X.K B H (op dx dy s) Q E → r x y H Q
def m2 (op : D → D → M D) (ma mb : Mir D) : Mir D := fun ls => bnd (ma ls) fun x => bnd (mb ls) fun y => op x y
theorem se_op {op : Operator} {f : D → D → M D} (ho : Op2 X (binaryOp op) f) (ha : SO G X Wx a ma) (hb : SO G X Wx b mb) : SE G X Wx (.BinOp a op b pos) (m2 f ma mb) := by
  obtain ⟨r, pr, hr⟩ := ho.ex
  obtain ⟨ta, pa, ha⟩ := ha.ex
  obtain ⟨tb, pb, hb⟩ := hb.ex
  refine ⟨_, pe_op pr pa pb, fun W H0 σ B H ls s Q k w sm h => ?_⟩
  refine ha W H0 σ B H ls s _ k w sm (h.bindO fun dx s1 x B1 H1 g1 w1 rx h1 => ?_)
  refine hb W H0 σ B1 H1 ls s1 _ g1.kn w1 (sm.grow g1) (h1.bindO fun dy s2 y B2 H2 g2 w2 ry h2 => ?_)
  exact hr W B2 H2 s2 x y dx dy Q _ g2.kn w2 (rx.grow g2) ry h2
theorem se_cmp {op : CmpOp} {f : D → D → M D} (ho : Op2 X (compareOp op) f) (ha : SO G X Wx a ma) (hb : SO G X Wx b mb) (hm : behindInMarks op b = false := by first | rfl | exact nomark _ | with_unfolding_all rfl) : SE G X Wx (.Compare a [op] [b] pos) (m2 f ma mb) := by
  obtain ⟨r, pr, hr⟩ := ho.ex
  obtain ⟨ta, pa, ha⟩ := ha.ex
  obtain ⟨tb, pb, hb⟩ := hb.ex
  refine ⟨_, pe_cmpR pr pa pb hm, fun W H0 σ B H ls s Q k w sm h => ?_⟩
  refine ha W H0 σ B H ls s _ k w sm (h.bindO fun dx s1 x B1 H1 g1 w1 rx h1 => ?_)
  refine hb W H0 σ B1 H1 ls s1 _ g1.kn w1 (sm.grow g1) (h1.bindO fun dy s2 y B2 H2 g2 w2 ry h2 => ?_)
  exact hr W B2 H2 s2 x y dx dy Q _ g2.kn w2 (rx.grow g2) ry h2
/-- a bool goes on -/
def onB (d : D) (t f : M D) : M D := match d with
  | .bl true => t
  | .bl false => f
  | _ => stk
def mChain (f g : D → D → M D) (ma mb mc : Mir D) : Mir D := fun ls => bnd (ma ls) fun x => bnd (mb ls) fun y => bnd (f x y) fun z => onB z (bnd (mc ls) fun u => g y u) (ret (.bl false))
theorem se_chain {op op' : CmpOp} {f g : D → D → M D} (ho : Op2 X (compareOp op) f) (ho' : Op2 X (compareOp op') g) (ha : SO G X Wx a ma) (hb : SO G X Wx b mb) (hc : SO G X Wx c mc)
    (hm : lastMarks [op, op'] [b, c] = false := by with_unfolding_all rfl) : SE G X Wx (.Compare a [op, op'] [b, c] pos) (mChain f g ma mb mc) := by
  obtain ⟨r, pr, hr⟩ := ho.ex
  obtain ⟨r', pr', hr'⟩ := ho'.ex
  obtain ⟨ta, pa, ha⟩ := ha.ex
  obtain ⟨tb, pb, hb⟩ := hb.ex
  obtain ⟨tc, pc, hc⟩ := hc.ex
  refine ⟨_, pe_chain pr pr' pa pb pc hm, fun W H0 σ B H ls s Q k w sm h => ?_⟩
  refine ha W H0 σ B H ls s _ k w sm (h.bindO fun dx s1 x B1 H1 g1 w1 rx h1 => ?_)
  refine hb W H0 σ B1 H1 ls s1 _ g1.kn w1 (sm.grow g1) (h1.bindO fun dy s2 y B2 H2 g2 w2 ry h2 => ?_)
  refine hr W B2 H2 s2 x y dx dy _ _ g2.kn w2 (rx.grow g2) ry (h2.bind fun dz s3 z B3 H3 g3 w3 rz h3 => ?_)
  unfold onB at h3
  split at h3
  · cases rz
    refine ⟨true, rfl, ?_⟩
    rw [if_pos rfl]
    refine hc W H0 σ B3 H3 ls s3 _ g3.kn w3 (((sm.grow g1).grow g2).grow g3) (h3.bindO fun du s4 u B4 H4 g4 w4 ru h4 => ?_)
    exact hr' W B4 H4 s4 y u dy du Q _ g4.kn w4 ((ry.grow g3).grow g4) ru h4
  · cases rz
    refine ⟨false, rfl, ?_⟩
    rw [if_neg (by decide)]
    exact h3.ret_ g3.kn w3 (.bl false)
  · exact h3.elim
/-! ### and, or, not as values -/
def mAnd (ma mb : Mir D) : Mir D := fun ls => bnd (ma ls) fun x => onB x (mb ls) (ret (.bl false))
def mOr (ma mb : Mir D) : Mir D := fun ls => bnd (ma ls) fun x => onB x (ret (.bl true)) (mb ls)
def mNot (ma : Mir D) : Mir D := fun ls => bnd (ma ls) fun x => onB x (ret (.bl false)) (ret (.bl true))
theorem se_one {op} (h : SE G X Wx a ma) : SE G X Wx (.BoolOp op [a] pos) ma := by
  obtain ⟨t, p, h⟩ := h.ex
  exact ⟨t, pe_one p, h⟩
theorem se_and {rest : List Expr} (ha : SE G X Wx a ma) (hb : SE G X Wx (.BoolOp .And (b :: rest) pos) mb) : SE G X Wx (.BoolOp .And (a :: b :: rest) pos) (mAnd ma mb) := by
  obtain ⟨ta, pa, ha⟩ := ha.ex
  obtain ⟨tb, pb, hb⟩ := hb.ex
  refine ⟨_, pe_and pa pb, fun W H0 σ B H ls s Q k w sm h => ?_⟩
  refine ha W H0 σ B H ls s _ k w sm (h.bind fun dx s1 x B1 H1 g1 w1 rx h1 => ?_)
  unfold onB at h1
  split at h1
  · cases rx
    refine ⟨true, rfl, ?_⟩
    rw [if_pos rfl]
    exact hb W H0 σ B1 H1 ls s1 _ g1.kn w1 (sm.grow g1) h1
  · cases rx
    refine ⟨false, rfl, ?_⟩
    rw [if_neg (by decide)]
    exact h1.ret_ g1.kn w1 (.bl false)
  · exact h1.elim
theorem se_or {rest : List Expr} (ha : SE G X Wx a ma) (hb : SE G X Wx (.BoolOp .Or (b :: rest) pos) mb) : SE G X Wx (.BoolOp .Or (a :: b :: rest) pos) (mOr ma mb) := by
  obtain ⟨ta, pa, ha⟩ := ha.ex
  obtain ⟨tb, pb, hb⟩ := hb.ex
  refine ⟨_, pe_or pa pb, fun W H0 σ B H ls s Q k w sm h => ?_⟩
  refine ha W H0 σ B H ls s _ k w sm (h.bind fun dx s1 x B1 H1 g1 w1 rx h1 => ?_)
  unfold onB at h1
  split at h1
  · cases rx
    refine ⟨true, rfl, ?_⟩
    rw [if_pos rfl]
    exact h1.ret_ g1.kn w1 (.bl true)
  · cases rx
    refine ⟨false, rfl, ?_⟩
    rw [if_neg (by decide)]
    exact hb W H0 σ B1 H1 ls s1 _ g1.kn w1 (sm.grow g1) h1
  · exact h1.elim
theorem se_not (ha : SE G X Wx a ma) : SE G X Wx (.UnaryOp .Not a pos) (mNot ma) := by
  obtain ⟨ta, pa, ha⟩ := ha.ex
  refine ⟨_, pe_not pa, fun W H0 σ B H ls s Q k w sm h => ?_⟩
  refine ha W H0 σ B H ls s _ k w sm (h.bind fun dx s1 x B1 H1 g1 w1 rx h1 => ?_)
  unfold onB at h1
  split at h1
  · cases rx
    exact ⟨true, rfl, h1.ret_ g1.kn w1 (.bl false)⟩
  · cases rx
    exact ⟨false, rfl, h1.ret_ g1.kn w1 (.bl true)⟩
  · exact h1.elim

/-! ### tests -/
def AnsB (W : Wd) (K : PySem.W.Frag) (B H : Hp) (r : Res Bool) (Q : Bool → Hp → Prop) (E : XK) : Prop := match r with
  | .ok b s' => ∀ (B' H' : Hp), Gr W B H B' H' → W.ok s' H' → Q b H'
  | .exc C fs s' => XW W K B H C fs s' E
  | .stuck => False
structure ST (G : Gd) (X : Cx) (Wx : WX) (e : Expr) (m : Mir Bool) : Prop where
  ex : ∃ t, PT X e t ∧ ∀ (W : Wd) (H0 : Hp) (σ : L2.St) (B H : Hp) (ls : List Sl) (s : DS) (Q : Bool → Hp → Prop), Kn W B H → W.ok s H → Sm G W X.K H0 B H σ ls → AnsB W X.K B H (m ls s) Q (fun c d H' => Wx c d σ H') → t σ H Q
structure STw (G : Gd) (X : Cx) (Wx : WX) (e : Expr) (m : Mir Bool) : Prop where
  ex : ∃ t, PW X e t ∧ ∀ (W : Wd) (H0 : Hp) (σ : L2.St) (B H : Hp) (ls : List Sl) (s : DS) (Q : Bool → Hp → Prop), Kn W B H → W.ok s H → Sm G W X.K H0 B H σ ls → AnsB W X.K B H (m ls s) Q (fun c d H' => Wx c d σ H') → t σ H Q
end
section
variable {W : Wd} {K : PySem.W.Frag} {B H B1 H1 : Hp} {Q : Bool → Hp → Prop} {E : XK} {s : DS}
theorem AnsB.grow {r : Res Bool} (g : Gr W B H B1 H1) (h : AnsB W K B H r Q E) : AnsB W K B1 H1 r Q E := by
  cases r with
  | ok d s' => exact fun B' H' g' w => h B' H' (g.trans g') w
  | exc C fs s' => exact fun od B' H' g' w x => h od B' H' (g.trans g') w x
  | stuck => exact h
theorem AnsB.bind {ma : M D} {f : D → M Bool} {Q1 : VK} (h : AnsB W K B H (bnd ma f s) Q E)
    (hc : ∀ (d : D) (s' : DS) (v : V) (B1 H1 : Hp), Gr W B H B1 H1 → W.ok s' H1 → Dv K B1 v d → AnsB W K B1 H1 (f d s') Q E → Q1 v H1) : Ans W K B H (ma s) Q1 E := by
  cases e : ma s with
  | ok d s' =>
    rw [bnd_ok e] at h
    exact fun v B1 H1 g w r => hc d s' v B1 H1 g w r (h.grow g)
  | exc C fs s' =>
    rw [bnd_exc e] at h
    exact h
  | stuck =>
    rw [bnd_stk e] at h
    exact h
theorem AnsB.bindO {ma : M D} {f : D → M Bool} {Q1 : VK} (h : AnsB W K B H (bnd ma f s) Q E)
    (hc : ∀ (d : D) (s' : DS) (v : V) (B1 H1 : Hp), Gr W B H B1 H1 → W.ok s' H1 → Db W K B1 H1 v d → AnsB W K B1 H1 (f d s') Q E → Q1 v H1) : AnsO W K B H (ma s) Q1 E := by
  cases e : ma s with
  | ok d s' =>
    rw [bnd_ok e] at h
    exact fun v B1 H1 g w r => hc d s' v B1 H1 g w r (h.grow g)
  | exc C fs s' =>
    rw [bnd_exc e] at h
    exact h
  | stuck =>
    rw [bnd_stk e] at h
    exact h
theorem AnsB.bindB {ma : M Bool} {f : Bool → M Bool} {Q1 : Bool → Hp → Prop} (h : AnsB W K B H (bnd ma f s) Q E)
    (hc : ∀ (b : Bool) (s' : DS) (B1 H1 : Hp), Gr W B H B1 H1 → W.ok s' H1 → AnsB W K B1 H1 (f b s') Q E → Q1 b H1) : AnsB W K B H (ma s) Q1 E := by
  cases e : ma s with
  | ok d s' =>
    rw [bnd_ok e] at h
    exact fun B1 H1 g w => hc d s' B1 H1 g w (h.grow g)
  | exc C fs s' =>
    rw [bnd_exc e] at h
    exact h
  | stuck =>
    rw [bnd_stk e] at h
    exact h
theorem Ans.bindB {ma : M Bool} {f : Bool → M D} {Q : VK} {Q1 : Bool → Hp → Prop} (h : Ans W K B H (bnd ma f s) Q E)
    (hc : ∀ (b : Bool) (s' : DS) (B1 H1 : Hp), Gr W B H B1 H1 → W.ok s' H1 → Ans W K B1 H1 (f b s') Q E → Q1 b H1) : AnsB W K B H (ma s) Q1 E := by
  cases e : ma s with
  | ok d s' =>
    rw [bnd_ok e] at h
    exact fun B1 H1 g w => hc d s' B1 H1 g w (h.grow g)
  | exc C fs s' =>
    rw [bnd_exc e] at h
    exact h
  | stuck =>
    rw [bnd_stk e] at h
    exact h
theorem AnsB.ret_ {b : Bool} (h : AnsB W K B H (.ok b s) Q E) (k : Kn W B H) (w : W.ok s H) : Q b H := h B H (Gr.refl k) w
end
section
variable {X : Cx} {Wx : WX} {a b c e : Expr} {es : List Expr} {ma mb mc me : Mir D} {na nb : Mir Bool} {pos : Pos}
/-- a value's truth -/
def truD (d : D) : M Bool := match d with
  | .non => ret false
  | .bl b => ret b
  | .int i => ret (i != 0)
  | .str y => if y.length ≤ sizeLine then ret ((y.length : Int) != 0) else stk
  | .lst xs => ret (!xs.isEmpty)
  | .tup xs => ret (!xs.isEmpty)
  | _ => stk
theorem DvL.empty {K : PySem.W.Frag} {H : Hp} {vs : List V} {ds : List D} (h : DvL K H vs ds) : vs.isEmpty = ds.isEmpty := by
  cases h <;> rfl
theorem st_val (ha : SO G X Wx a ma) (he : ∀ whole, isTrue a X.env whole = (do let v ← whole; standAt a.pos; holding [v] (truthy v)) := by intro _; rfl) : ST G X Wx a (fun ls => bnd (ma ls) truD) := by
  obtain ⟨ta, pa, ha⟩ := ha.ex
  refine ⟨_, pt_truth pa he, fun W H0 σ B H ls s Q k w sm h => ?_⟩
  refine ha W H0 σ B H ls s _ k w sm (h.bindO fun dx s1 x B1 H1 g1 w1 rx h1 => ?_)
  rcases rx with rx | ⟨p, vs, ds, rfl, rfl, nv, hp, r⟩
  · unfold truD at h1
    split at h1
    · cases rx; exact ⟨false, rfl, h1.ret_ g1.kn w1⟩
    · cases rx; exact ⟨_, rfl, h1.ret_ g1.kn w1⟩
    · cases rx; exact ⟨_, rfl, h1.ret_ g1.kn w1⟩
    · cases rx
      split at h1
      · rename_i hl
        exact ⟨_, ⟨hl, rfl⟩, h1.ret_ g1.kn w1⟩
      · exact h1.elim
    · cases rx with
      | lst hs r => exact ⟨_, Or.inl ⟨_, SqL.of (g1.kn.sub _ _ hs), rfl⟩, by rw [r.empty]; exact h1.ret_ g1.kn w1⟩
    · cases rx with
      | tup hs r => exact ⟨_, Or.inr (Or.inl ⟨_, g1.kn.sub.t hs, rfl⟩), by rw [r.empty]; exact h1.ret_ g1.kn w1⟩
    · exact h1.elim
  · exact ⟨_, Or.inl ⟨_, SqL.of hp, rfl⟩, by rw [r.empty]; exact h1.ret_ g1.kn w1⟩
def boD (d : D) : M Bool := match d with
  | .bl b => ret b
  | _ => stk
theorem st_cmp {op : CmpOp} {f : D → D → M D} (ho : Op2 X (compareOp op) f) (ha : SO G X Wx a ma) (hb : SO G X Wx b mb) (hm : behindInMarks op b = false := by first | rfl | exact nomark _ | with_unfolding_all rfl) : ST G X Wx (.Compare a [op] [b] pos) (fun ls => bnd (m2 f ma mb ls) boD) := by
  obtain ⟨r, pr, hr⟩ := ho.ex
  obtain ⟨ta, pa, ha⟩ := ha.ex
  obtain ⟨tb, pb, hb⟩ := hb.ex
  refine ⟨_, pt_cmpR pr pa pb hm, fun W H0 σ B H ls s Q k w sm h => ?_⟩
  unfold m2 at h
  rw [bnd_bnd] at h
  refine ha W H0 σ B H ls s _ k w sm (h.bindO fun dx s1 x B1 H1 g1 w1 rx h1 => ?_)
  rw [bnd_bnd] at h1
  refine hb W H0 σ B1 H1 ls s1 _ g1.kn w1 (sm.grow g1) (h1.bindO fun dy s2 y B2 H2 g2 w2 ry h2 => ?_)
  refine hr W B2 H2 s2 x y dx dy _ _ g2.kn w2 (rx.grow g2) ry (h2.bind fun dz s3 z B3 H3 g3 w3 rz h3 => ?_)
  unfold boD at h3
  split at h3
  · cases rz
    exact ⟨_, rfl, h3.ret_ g3.kn w3⟩
  · exact h3.elim
theorem st_chain {op op' : CmpOp} {f g : D → D → M D} (ho : Op2 X (compareOp op) f) (ho' : Op2 X (compareOp op') g) (ha : SO G X Wx a ma) (hb : SO G X Wx b mb) (hc : SO G X Wx c mc)
    (hm : lastMarks [op, op'] [b, c] = false := by with_unfolding_all rfl) : ST G X Wx (.Compare a [op, op'] [b, c] pos) (fun ls => bnd (mChain f g ma mb mc ls) boD) := by
  obtain ⟨r, pr, hr⟩ := ho.ex
  obtain ⟨r', pr', hr'⟩ := ho'.ex
  obtain ⟨ta, pa, ha⟩ := ha.ex
  obtain ⟨tb, pb, hb⟩ := hb.ex
  obtain ⟨tc, pc, hc⟩ := hc.ex
  refine ⟨_, pt_chain pr pr' pa pb pc hm, fun W H0 σ B H ls s Q k w sm h => ?_⟩
  unfold mChain at h
  rw [bnd_bnd] at h
  refine ha W H0 σ B H ls s _ k w sm (h.bindO fun dx s1 x B1 H1 g1 w1 rx h1 => ?_)
  rw [bnd_bnd] at h1
  refine hb W H0 σ B1 H1 ls s1 _ g1.kn w1 (sm.grow g1) (h1.bindO fun dy s2 y B2 H2 g2 w2 ry h2 => ?_)
  rw [bnd_bnd] at h2
  refine hr W B2 H2 s2 x y dx dy _ _ g2.kn w2 (rx.grow g2) ry (h2.bind fun dz s3 z B3 H3 g3 w3 rz h3 => ?_)
  unfold onB at h3
  split at h3
  · cases rz
    refine ⟨true, rfl, ?_⟩
    rw [if_pos rfl]
    rw [bnd_bnd] at h3
    refine hc W H0 σ B3 H3 ls s3 _ g3.kn w3 (((sm.grow g1).grow g2).grow g3) (h3.bindO fun du s4 u B4 H4 g4 w4 ru h4 => ?_)
    refine hr' W B4 H4 s4 y u dy du _ _ g4.kn w4 ((ry.grow g3).grow g4) ru (h4.bind fun dz s5 z B5 H5 g5 w5 rz h5 => ?_)
    unfold boD at h5
    split at h5
    · cases rz
      exact ⟨_, rfl, h5.ret_ g5.kn w5⟩
    · exact h5.elim
  · cases rz
    refine ⟨false, rfl, ?_⟩
    rw [if_neg (by decide)]
    exact ⟨false, rfl, h3.ret_ g3.kn w3⟩
  · exact (show False from h3).elim
def nAnd (ma mb : Mir Bool) : Mir Bool := fun ls => bnd (ma ls) fun x => if x = true then mb ls else ret false
def nOr (ma mb : Mir Bool) : Mir Bool := fun ls => bnd (ma ls) fun x => if x = true then ret true else mb ls
def nNot (ma : Mir Bool) : Mir Bool := fun ls => bnd (ma ls) fun x => ret (!x)
theorem stw_and1 (ha : ST G X Wx a na) : STw G X Wx (.BoolOp .And [a] pos) na := by
  obtain ⟨t, p, h⟩ := ha.ex
  exact ⟨t, pw_and1 p, h⟩
theorem stw_or1 (ha : ST G X Wx a na) : STw G X Wx (.BoolOp .Or [a] pos) na := by
  obtain ⟨t, p, h⟩ := ha.ex
  exact ⟨t, pw_or1 p, h⟩
theorem stw_and {rest : List Expr} (ha : ST G X Wx a na) (hb : STw G X Wx (.BoolOp .And (b :: rest) pos) nb) : STw G X Wx (.BoolOp .And (a :: b :: rest) pos) (nAnd na nb) := by
  obtain ⟨ta, pa, ha⟩ := ha.ex
  obtain ⟨tb, pb, hb⟩ := hb.ex
  refine ⟨_, pw_and pa pb, fun W H0 σ B H ls s Q k w sm h => ?_⟩
  refine ha W H0 σ B H ls s _ k w sm (h.bindB fun x s1 B1 H1 g1 w1 h1 => ?_)
  cases x with
  | true =>
    rw [if_pos rfl] at h1 ⊢
    exact hb W H0 σ B1 H1 ls s1 _ g1.kn w1 (sm.grow g1) h1
  | false =>
    rw [if_neg (by decide)] at h1 ⊢
    exact h1.ret_ g1.kn w1
theorem stw_or {rest : List Expr} (ha : ST G X Wx a na) (hb : STw G X Wx (.BoolOp .Or (b :: rest) pos) nb) : STw G X Wx (.BoolOp .Or (a :: b :: rest) pos) (nOr na nb) := by
  obtain ⟨ta, pa, ha⟩ := ha.ex
  obtain ⟨tb, pb, hb⟩ := hb.ex
  refine ⟨_, pw_or pa pb, fun W H0 σ B H ls s Q k w sm h => ?_⟩
  refine ha W H0 σ B H ls s _ k w sm (h.bindB fun x s1 B1 H1 g1 w1 h1 => ?_)
  cases x with
  | true =>
    rw [if_pos rfl] at h1 ⊢
    exact h1.ret_ g1.kn w1
  | false =>
    rw [if_neg (by decide)] at h1 ⊢
    exact hb W H0 σ B1 H1 ls s1 _ g1.kn w1 (sm.grow g1) h1
theorem STw.st (h : STw G X Wx a na) : ST G X Wx a na := by
  obtain ⟨t, p, h⟩ := h.ex
  exact ⟨t, p.pt, h⟩
theorem st_not (ha : ST G X Wx a na) : ST G X Wx (.UnaryOp .Not a pos) (nNot na) := by
  obtain ⟨ta, pa, ha⟩ := ha.ex
  refine ⟨_, pt_not pa, fun W H0 σ B H ls s Q k w sm h => ?_⟩
  exact ha W H0 σ B H ls s _ k w sm (h.bindB fun x s1 B1 H1 g1 w1 h1 => h1.ret_ g1.kn w1)
def mIf (n : Mir Bool) (ma mb : Mir D) : Mir D := fun ls => bnd (n ls) fun x => if x = true then ma ls else mb ls
theorem se_if (hc : ST G X Wx c na) (ha : SE G X Wx a ma) (hb : SE G X Wx b mb) : SE G X Wx (.IfExp c a b pos) (mIf na ma mb) := by
  obtain ⟨tc, pc, hc⟩ := hc.ex
  obtain ⟨ta, pa, ha⟩ := ha.ex
  obtain ⟨tb, pb, hb⟩ := hb.ex
  refine ⟨_, pe_ifExp pc pa pb, fun W H0 σ B H ls s Q k w sm h => ?_⟩
  refine hc W H0 σ B H ls s _ k w sm (h.bindB fun x s1 B1 H1 g1 w1 h1 => ?_)
  cases x with
  | true =>
    rw [if_pos rfl] at h1 ⊢
    exact ha W H0 σ B1 H1 ls s1 _ g1.kn w1 (sm.grow g1) h1
  | false =>
    rw [if_neg (by decide)] at h1 ⊢
    exact hb W H0 σ B1 H1 ls s1 _ g1.kn w1 (sm.grow g1) h1
end
end PV
set_option maxHeartbeats 4000000
/-! Operations on deep values. -/
namespace PV
open PySem L2
variable {G : Gd}
/-! ### as the library's data -/
mutual
def D.pd : D → Option PyData
  | .non => some .none
  | .bl b => some (.bool b)
  | .int i => some (.int i)
  | .str s => some (.str s)
  | .lst xs => (D.pdL xs).map .list
  | .tup xs => (D.pdL xs).map .tuple
  | _ => none
def D.pdL : List D → Option (List PyData)
  | [] => some []
  | x :: xs => match D.pd x, D.pdL xs with
    | some a, some r => some (a :: r)
    | _, _ => none
end
section
variable {K : PySem.W.Frag} {H : Hp}
mutual
theorem Dv.dp : ∀ {v : V} {d : D} {p : PyData}, Dv K H v d → d.pd = some p → Dp K H v p
  | _, _, _, .non, e => by cases e; exact .non
  | _, _, _, .bl b, e => by cases e; exact .bl b
  | _, _, _, .int i, e => by cases e; exact .int i
  | _, _, _, .str x, e => by cases e; exact .str x
  | _, _, _, .lst (ds := ds) h r, e => by
    unfold D.pd at e
    cases q : D.pdL ds with
    | none => rw [q] at e; cases e
    | some l => rw [q] at e; cases e; exact .lst (SqL.of h) (DvL.dp r q)
  | _, _, _, .tup (ds := ds) h r, e => by
    unfold D.pd at e
    cases q : D.pdL ds with
    | none => rw [q] at e; cases e
    | some l => rw [q] at e; cases e; exact .tup h (DvL.dp r q)
  | _, _, _, .dcE h, e => by unfold D.pd at e; cases e
  | _, _, _, .raw v, e => by unfold D.pd at e; cases e
  | _, _, _, .scr _, e => by unfold D.pd at e; cases e
  | _, _, _, .exc _ _ _ _, e => by unfold D.pd at e; cases e
theorem DvL.dp : ∀ {vs : List V} {ds : List D} {ps : List PyData}, DvL K H vs ds → D.pdL ds = some ps → DpAll K H vs ps
  | _, _, _, .nil, e => by cases e; exact .nil
  | _, _, _, .cons (d := d) (ds := ds) a r, e => by
    unfold D.pdL at e
    cases q : d.pd with
    | none => rw [q] at e; cases e
    | some x =>
      cases q2 : D.pdL ds with
      | none => rw [q, q2] at e; cases e
      | some l => rw [q, q2] at e; cases e; exact .cons (Dv.dp a q) (DvL.dp r q2)
end
end
section
variable {W : Wd} {K : PySem.W.Frag} {B H : Hp} {v : V} {d : D} {p : PyData}
theorem Db.dp (k : Kn W B H) (h : Db W K B H v d) (e : d.pd = some p) : Dp K H v p := by
  rcases h with h | ⟨a, vs, ds, rfl, rfl, nv, hp, r⟩
  · exact (h.mono k.sub).dp e
  · exact Dv.dp (.lst hp (r.mono k.sub)) e
theorem Db.int {i : Int} (h : Db W K B H v (.int i)) : v = .int i := by
  rcases h with h | ⟨a, vs, ds, e1, e2, _⟩
  · cases h; rfl
  · cases e2
theorem Db.str {i : Str} (h : Db W K B H v (.str i)) : v = .str i := by
  rcases h with h | ⟨a, vs, ds, e1, e2, _⟩
  · cases h; rfl
  · cases e2
theorem Db.bl {i : Bool} (h : Db W K B H v (.bl i)) : v = .bl i := by
  rcases h with h | ⟨a, vs, ds, e1, e2, _⟩
  · cases h; rfl
  · cases e2
theorem Db.non (h : Db W K B H v .non) : v = .non := by
  rcases h with h | ⟨a, vs, ds, e1, e2, _⟩
  · cases h; rfl
  · cases e2
theorem Db.raw {x : V} (h : Db W K B H v (.raw x)) : v = x := by
  rcases h with h | ⟨a, vs, ds, e1, e2, _⟩
  · cases h; rfl
  · cases e2
theorem Db.tup {xs : List D} (h : Db W K B H v (.tup xs)) : ∃ a vs, v = .ref a ∧ SqT K B a vs ∧ DvL K B vs xs := by
  rcases h with h | ⟨a, vs, ds, e1, e2, _⟩
  · cases h with | tup hs r => exact ⟨_, _, rfl, hs, r⟩
  · cases e2
theorem Db.lst {xs : List D} (k : Kn W B H) (h : Db W K B H v (.lst xs)) : ∃ a vs, v = .ref a ∧ H a = some (.lst vs) ∧ DvL K B vs xs := by
  rcases h with h | ⟨a, vs, ds, e1, e2, nv, hp, r⟩
  · cases h with | lst hs r => exact ⟨_, _, rfl, k.sub _ _ hs, r⟩
  · cases e2; exact ⟨a, vs, e1, hp, r⟩
/-- a deep value that is no list is known -/
theorem Db.dv (h : Db W K B H v d) (n : ∀ ds, d ≠ .lst ds) : Dv K B v d := by
  rcases h with h | ⟨a, vs, ds, e1, e2, _⟩
  · exact h
  · exact absurd e2 (n ds)
end
section
variable {X : Cx}
theorem Op2.mk' {f : Value → Value → Sem Value} {op : D → D → M D} {r : R2} (h : OpR X f r) (q : ∀ (W : Wd) (B H : Hp) (s : DS) (x y : V) (dx dy : D) (Q : VK) (E : XK), Kn W B H → W.ok s H → Db W X.K B H x dx → Db W X.K B H y dy → Ans W X.K B H (op dx dy s) Q E → r x y H Q) : Op2 X f op := ⟨r, h, q⟩
/-! ### arithmetic -/
def addD : D → D → M D
  | .int i, .int j => ret (.int (i + j))
  | .str a, .str b => if a.length + b.length ≤ sizeLine then ret (.str (a ++ b)) else stk
  | .tup a, .tup b => if a.length + b.length ≤ sizeLine then ret (.tup (a ++ b)) else stk
  | _, _ => stk
theorem o_add : Op2 X (binaryOp .Add) addD := by
  refine .mk' (op_add.or (op_add_str.or op_catA)) fun W B H s x y dx dy Q E k w rx ry h => ?_
  unfold addD at h
  split at h
  · rename_i i j
    exact Or.inl ⟨i, j, rx.int, ry.int, h.ret_ k w (.int _)⟩
  · rename_i a b
    split at h
    · rename_i hl
      exact Or.inr (Or.inl ⟨a, b, rx.str, ry.str, hl, h.ret_ k w (.str _)⟩)
    · exact h.elim
  · rename_i a b
    split at h
    · rename_i hl
      obtain ⟨p, vs, rfl, h1, r1⟩ := rx.tup
      obtain ⟨q, us, rfl, h2, r2⟩ := ry.tup
      refine Or.inr (Or.inr ⟨p, q, vs, us, rfl, rfl, k.sub.t h1, k.sub.t h2, by rw [r1.len, r2.len]; exact hl, fun e => ?_, fun _ e => ?_, fun _ _ c hc => ?_⟩)
      · subst e
        cases r1
        exact h.ret_ k w (.tup h2 r2)
      · subst e
        cases r2
        rw [List.append_nil] at h
        exact h.ret_ k w (.tup h1 r1)
      · exact h.new_ k w hc (.tup (SqT.of upd_same) ((r1.app r2).mono (sub_new (none_of_kn k hc))))
    · exact h.elim
  · exact (show False from h).elim
def subD : D → D → M D
  | .int i, .int j => ret (.int (i - j))
  | _, _ => stk
theorem o_sub : Op2 X (binaryOp .Sub) subD := by
  refine .mk' op_sub fun W B H s x y dx dy Q E k w rx ry h => ?_
  unfold subD at h
  split at h
  · exact ⟨_, _, rx.int, ry.int, h.ret_ k w (.int _)⟩
  · exact (show False from h).elim
def mulD : D → D → M D
  | .int i, .int j => if (-(2 ^ 64) < i ∧ i < 2 ^ 64) ∨ (-(2 ^ 64) < j ∧ j < 2 ^ 64) then ret (.int (i * j)) else stk
  | .tup xs, .int k => if xs ≠ [] ∧ 2 ≤ k ∧ k ≤ 1000 ∧ xs.length ≤ 1000 then ret (.tup (List.replicate k.toNat xs).flatten) else stk
  | _, _ => stk
theorem DvL.rep {K : PySem.W.Frag} {H : Hp} {vs : List V} {ds : List D} (h : DvL K H vs ds) : ∀ n : Nat, DvL K H (List.replicate n vs).flatten (List.replicate n ds).flatten
  | 0 => .nil
  | n + 1 => by
    rw [List.replicate_succ, List.replicate_succ, List.flatten_cons, List.flatten_cons]
    exact h.app (DvL.rep h n)
theorem o_mul : Op2 X (binaryOp .Mult) mulD := by
  refine .mk' (op_mul.or op_repT) fun W B H s x y dx dy Q E k w rx ry h => ?_
  unfold mulD at h
  split at h
  · split at h
    · rename_i hc
      exact Or.inl ⟨_, _, rx.int, ry.int, hc, h.ret_ k w (.int _)⟩
    · exact h.elim
  · split at h
    · rename_i hc
      obtain ⟨p, vs, rfl, h1, r1⟩ := rx.tup
      refine Or.inr ⟨p, _, vs, rfl, ry.int, k.sub.t h1, fun e => hc.1 ?_, hc.2.1, hc.2.2.1, by rw [r1.len]; exact hc.2.2.2, fun c hn => ?_⟩
      · subst e
        cases r1
        rfl
      · exact h.new_ k w hn (.tup (SqT.of upd_same) ((r1.rep _).mono (sub_new (none_of_kn k hn))))
    · exact h.elim
  · exact (show False from h).elim
def fdivD : D → D → M D
  | .int i, .int j => if 0 < j ∧ j < 1073741824 then ret (.int (i / j)) else stk
  | _, _ => stk
theorem o_fdiv : Op2 X (binaryOp .FloorDiv) fdivD := by
  refine .mk' op_fdiv fun W B H s x y dx dy Q E k w rx ry h => ?_
  unfold fdivD at h
  split at h
  · split at h
    · rename_i hc
      exact ⟨_, _, rx.int, ry.int, hc, h.ret_ k w (.int _)⟩
    · exact h.elim
  · exact (show False from h).elim
def modD : D → D → M D
  | .int i, .int j => if 0 < j then ret (.int (i % j)) else stk
  | _, _ => stk
theorem o_mod : Op2 X (binaryOp .Mod) modD := by
  refine .mk' op_mod fun W B H s x y dx dy Q E k w rx ry h => ?_
  unfold modD at h
  split at h
  · split at h
    · rename_i hc
      exact ⟨_, _, rx.int, ry.int, hc, h.ret_ k w (.int _)⟩
    · exact h.elim
  · exact (show False from h).elim
def powD : D → D → M D
  | .int i, .int j => if 0 ≤ j ∧ j ≤ 1000000 ∧ i.natAbs < 2 ^ 64 then ret (.int (i ^ j.toNat)) else stk
  | _, _ => stk
theorem o_pow : Op2 X (binaryOp .Pow) powD := by
  refine .mk' op_pow fun W B H s x y dx dy Q E k w rx ry h => ?_
  unfold powD at h
  split at h
  · split at h
    · rename_i hc
      exact ⟨_, _, rx.int, ry.int, hc, h.ret_ k w (.int _)⟩
    · exact h.elim
  · exact (show False from h).elim
/-! ### comparisons -/
def on2 {α β γ : Type} (a : Option α) (b : Option β) (f : α → β → M γ) : M γ := match a, b with
  | some p, some q => f p q
  | _, _ => stk
theorem on2_ans {α β : Type} {W : Wd} {K : PySem.W.Frag} {B H : Hp} {a : Option α} {b : Option β} {f : α → β → M D} {s : DS} {Q : VK} {E : XK} (h : Ans W K B H (on2 a b f s) Q E) : ∃ p q, a = some p ∧ b = some q ∧ Ans W K B H (f p q s) Q E := by
  cases a with
  | none => exact (show False from h).elim
  | some p =>
    cases b with
    | none => exact (show False from h).elim
    | some q => exact ⟨p, q, rfl, rfl, h⟩
/-- two ints, two texts -/
def scD : D → D → Option Bool
  | .int i, .int j => some (decide (i = j))
  | .str a, .str b => some (decide (a = b))
  | _, _ => none
def eqD (x y : D) : M D := match scD x y with
  | some b => ret (.bl b)
  | none => on2 x.pd y.pd fun p q => if SeqAt.shaped p = true ∧ SeqAt.shaped q = true then ret (.bl (PyData.eqv p q)) else stk
def neD (x y : D) : M D := match scD x y with
  | some b => ret (.bl (!b))
  | none => on2 x.pd y.pd fun p q => if SeqAt.shaped p = true ∧ SeqAt.shaped q = true then ret (.bl (!PyData.eqv p q)) else stk
theorem scD_ok {W : Wd} {K : PySem.W.Frag} {B H : Hp} {x y : V} {dx dy : D} {b : Bool} (rx : Db W K B H x dx) (ry : Db W K B H y dy) (e : scD dx dy = some b) : L2.scal x y = true ∧ decide (x = y) = b := by
  unfold scD at e
  split at e
  · cases e
    rw [rx.int, ry.int]
    exact ⟨rfl, by simp⟩
  · cases e
    rw [rx.str, ry.str]
    exact ⟨rfl, by simp⟩
  · cases e
theorem o_eq {k : Nat} (hr : Room k X.A) : Op2 X (compareOp .Eq) eqD := by
  refine .mk' (op_eq.or (op_eqD hr.units)) fun W B H s x y dx dy Q E k w rx ry h => ?_
  unfold eqD at h
  cases es : scD dx dy with
  | some b =>
    rw [es] at h
    obtain ⟨h1, h2⟩ := scD_ok rx ry es
    exact .inl ⟨h1, by rw [h2]; exact h.ret_ k w (.bl _)⟩
  | none =>
    rw [es] at h
    obtain ⟨p, q, e1, e2, h⟩ := on2_ans h
    split at h
    · rename_i hc
      exact .inr ⟨p, q, rx.dp k e1, ry.dp k e2, hc.1, hc.2, h.ret_ k w (.bl _)⟩
    · exact h.elim
theorem o_ne {k : Nat} (hr : Room k X.A) : Op2 X (compareOp .NotEq) neD := by
  refine .mk' (op_ne.or (op_neD hr.units)) fun W B H s x y dx dy Q E k w rx ry h => ?_
  unfold neD at h
  cases es : scD dx dy with
  | some b =>
    rw [es] at h
    obtain ⟨h1, h2⟩ := scD_ok rx ry es
    exact .inl ⟨h1, by rw [h2]; exact h.ret_ k w (.bl _)⟩
  | none =>
    rw [es] at h
    obtain ⟨p, q, e1, e2, h⟩ := on2_ans h
    split at h
    · rename_i hc
      exact .inr ⟨p, q, rx.dp k e1, ry.dp k e2, hc.1, hc.2, h.ret_ k w (.bl _)⟩
    · exact h.elim
def cmpD (f : Int → Int → Bool) : D → D → M D
  | .int i, .int j => ret (.bl (f i j))
  | _, _ => stk
abbrev ltD := cmpD fun i j => decide (i < j)
abbrev leD := cmpD fun i j => decide (i ≤ j)
abbrev gtD := cmpD fun i j => decide (j < i)
abbrev geD := cmpD fun i j => decide (j ≤ i)
theorem o_cmp {g : Value → Value → Sem Value} {f : Int → Int → Bool} (h : OpR X g (rI0 fun i j => .bl (f i j))) : Op2 X g (cmpD f) := by
  refine .mk' h fun W B H s x y dx dy Q E k w rx ry h => ?_
  unfold cmpD at h
  split at h
  · exact ⟨_, _, rx.int, ry.int, h.ret_ k w (.bl _)⟩
  · exact (show False from h).elim
theorem o_lt : Op2 X (compareOp .Lt) ltD := o_cmp op_lt
theorem o_le : Op2 X (compareOp .LtE) leD := o_cmp op_le
theorem o_gt : Op2 X (compareOp .Gt) gtD := o_cmp op_gt
theorem o_ge : Op2 X (compareOp .GtE) geD := o_cmp op_ge
/-- x in a list or a tuple of data; a text in a text -/
def anyEq (d : PyData) (ps : List PyData) : Bool := ps.any fun z => PyData.eqv z d
def inD (x y : D) : M D := match y with
  | .lst ys => on2 x.pd (D.pdL ys) fun p qs => if SeqAt.shaped p = true ∧ SeqAt.shaped (.list qs) = true then ret (.bl (anyEq p qs)) else stk
  | .tup ys => on2 x.pd (D.pdL ys) fun p qs => if SeqAt.shaped p = true ∧ SeqAt.shaped (.tuple qs) = true then ret (.bl (anyEq p qs)) else stk
  | .str z => match x with
    | .str a => ret (.bl (!(Builtin.Str.occurrences z a 0 z.length 1).isEmpty))
    | _ => stk
  | _ => stk
def ninD (x y : D) : M D := match y with
  | .lst ys => on2 x.pd (D.pdL ys) fun p qs => if SeqAt.shaped p = true ∧ SeqAt.shaped (.list qs) = true then ret (.bl (!anyEq p qs)) else stk
  | .tup ys => on2 x.pd (D.pdL ys) fun p qs => if SeqAt.shaped p = true ∧ SeqAt.shaped (.tuple qs) = true then ret (.bl (!anyEq p qs)) else stk
  | .str z => match x with
    | .str a => ret (.bl (!!(Builtin.Str.occurrences z a 0 z.length 1).isEmpty))
    | _ => stk
  | _ => stk
def rInT (K : PySem.W.Frag) (neg : Bool) : R2 := fun x y H Q => ∃ d ds, Dp K H x d ∧ Dp K H y (.tuple ds) ∧ SeqAt.shaped d = true ∧ SeqAt.shaped (.tuple ds) = true ∧ Q (.bl (if neg then !anyEq d ds else anyEq d ds)) H
theorem room_in {A : Around} {d e : PyData} (hd : SeqAt.shaped d = true) (hu : A.units + 65 < cLine) : A.units + 1 + min (PyData.depthAll ds) d.depth < cLine := by
  have z := of_decide_eq_true (Bool.and_eq_true_iff.mp hd).2
  have z2 : min (PyData.depthAll ds) d.depth ≤ d.depth := Nat.min_le_right _ _
  omega
theorem op_inT (hu : X.A.units + 65 < cLine) : OpR X (compareOp .In) (rInT X.K false) := by
  intro pins s σ H x y v u Q I rx ry h
  obtain ⟨d, ds, hd, he, sd, se, q⟩ := h
  obtain ⟨as, r1⟩ := Dp.reads I d x v hd rx
  obtain ⟨bs, r2⟩ := Dp.reads I (.tuple ds) y u he ry
  exact SeqAt.in_tuple_reads r2 r1 (SeqAt.canLay_of_shaped se) (SeqAt.canLay_of_shaped sd) (room_in (e := d) sd hu) ⟨.bl _, H, I, rfl, q⟩
theorem op_ninT (hu : X.A.units + 65 < cLine) : OpR X (compareOp .NotIn) (rInT X.K true) := by
  intro pins s σ H x y v u Q I rx ry h
  obtain ⟨d, ds, hd, he, sd, se, q⟩ := h
  obtain ⟨as, r1⟩ := Dp.reads I d x v hd rx
  obtain ⟨bs, r2⟩ := Dp.reads I (.tuple ds) y u he ry
  exact SeqAt.notIn_tuple_reads r2 r1 (SeqAt.canLay_of_shaped se) (SeqAt.canLay_of_shaped sd) (room_in (e := d) sd hu) ⟨.bl _, H, I, rfl, q⟩
theorem room65 {k : Nat} {A : Around} (hr : Room k A) : A.units + 65 < cLine := by have := hr.un; omega
theorem dp_list {K : PySem.W.Frag} {W : Wd} {B H : Hp} {v : V} {ys : List D} {qs : List PyData} (k : Kn W B H) (r : Db W K B H v (.lst ys)) (e : D.pdL ys = some qs) : Dp K H v (.list qs) := r.dp k (by unfold D.pd; rw [e]; rfl)
theorem dp_tup {K : PySem.W.Frag} {W : Wd} {B H : Hp} {v : V} {ys : List D} {qs : List PyData} (k : Kn W B H) (r : Db W K B H v (.tup ys)) (e : D.pdL ys = some qs) : Dp K H v (.tuple qs) := r.dp k (by unfold D.pd; rw [e]; rfl)
theorem o_in {k : Nat} (hr : Room k X.A) : Op2 X (compareOp .In) inD := by
  refine .mk' ((op_inD (room65 hr)).or ((op_inT (room65 hr)).or op_in_str)) fun W B H s x y dx dy Q E k w rx ry h => ?_
  unfold inD at h
  split at h
  · obtain ⟨p, qs, e1, e2, h⟩ := on2_ans h
    split at h
    · rename_i hc
      exact Or.inl ⟨p, qs, rx.dp k e1, dp_list k ry e2, hc.1, hc.2, h.ret_ k w (.bl _)⟩
    · exact h.elim
  · obtain ⟨p, qs, e1, e2, h⟩ := on2_ans h
    split at h
    · rename_i hc
      exact Or.inr (Or.inl ⟨p, qs, rx.dp k e1, dp_tup k ry e2, hc.1, hc.2, h.ret_ k w (.bl _)⟩)
    · exact h.elim
  · split at h
    · exact Or.inr (Or.inr ⟨_, _, rx.str, ry.str, h.ret_ k w (.bl _)⟩)
    · exact (show False from h).elim
  · exact (show False from h).elim
theorem o_nin {k : Nat} (hr : Room k X.A) : Op2 X (compareOp .NotIn) ninD := by
  refine .mk' ((op_notInD (room65 hr)).or ((op_ninT (room65 hr)).or op_notin_str)) fun W B H s x y dx dy Q E k w rx ry h => ?_
  unfold ninD at h
  split at h
  · obtain ⟨p, qs, e1, e2, h⟩ := on2_ans h
    split at h
    · rename_i hc
      exact Or.inl ⟨p, qs, rx.dp k e1, dp_list k ry e2, hc.1, hc.2, h.ret_ k w (.bl _)⟩
    · exact h.elim
  · obtain ⟨p, qs, e1, e2, h⟩ := on2_ans h
    split at h
    · rename_i hc
      exact Or.inr (Or.inl ⟨p, qs, rx.dp k e1, dp_tup k ry e2, hc.1, hc.2, h.ret_ k w (.bl _)⟩)
    · exact h.elim
  · split at h
    · exact Or.inr (Or.inr ⟨_, _, rx.str, ry.str, h.ret_ k w (.bl _)⟩)
    · exact (show False from h).elim
  · exact (show False from h).elim
/-- is None, is True, is False -/
def isNon : D → Bool
  | .non => true
  | _ => false
def isD : D → D → M D
  | .raw _, _ => stk
  | x, .non => ret (.bl (isNon x))
  | .bl a, .bl b => ret (.bl (decide (a = b)))
  | _, _ => stk
def isnD : D → D → M D
  | .raw _, _ => stk
  | x, .non => ret (.bl (!isNon x))
  | .bl a, .bl b => ret (.bl (!decide (a = b)))
  | _, _ => stk
theorem not_non {W : Wd} {K : PySem.W.Frag} {B H : Hp} {v : V} {d : D} (r : Db W K B H v d) (h : ∀ x, d ≠ .raw x) : decide (v = .non) = isNon d := by
  rcases r with r | ⟨a, vs, ds, rfl, rfl, _⟩
  · cases r <;> first | rfl | exact absurd rfl (h _)
  · rfl
theorem o_is : Op2 X (compareOp .Is) isD := by
  refine .mk' (op_isN.or op_isBl) fun W B H s x y dx dy Q E k w rx ry h => ?_
  unfold isD at h
  split at h
  · exact (show False from h).elim
  · rename_i n
    refine Or.inl ⟨ry.non, ?_⟩
    rw [not_non rx n]
    exact h.ret_ k w (.bl _)
  · exact Or.inr ⟨_, _, rx.bl, ry.bl, h.ret_ k w (.bl _)⟩
  · exact (show False from h).elim
theorem o_isn : Op2 X (compareOp .IsNot) isnD := by
  refine .mk' (op_notN.or op_notBl) fun W B H s x y dx dy Q E k w rx ry h => ?_
  unfold isnD at h
  split at h
  · exact (show False from h).elim
  · rename_i n
    refine Or.inl ⟨ry.non, ?_⟩
    rw [not_non rx n]
    exact h.ret_ k w (.bl _)
  · exact Or.inr ⟨_, _, rx.bl, ry.bl, h.ret_ k w (.bl _)⟩
  · exact (show False from h).elim
end
end PV
set_option maxHeartbeats 4000000
/-! Arguments, displays, subscripts, slices, calls of built-ins. -/
namespace PV
open PySem L2
variable {G : Gd}
/-! ### arguments -/
def AnsA (W : Wd) (K : PySem.W.Frag) (B H : Hp) (r : Res (List D)) (Q : List V → Hp → Prop) (E : XK) : Prop := match r with
  | .ok ds s' => ∀ (vs : List V) (B' H' : Hp), Gr W B H B' H' → W.ok s' H' → DvL K B' vs ds → Q vs H'
  | .exc C fs s' => XW W K B H C fs s' E
  | .stuck => False
structure SA (G : Gd) (X : Cx) (Wx : WX) (es : List Expr) (m : Mir (List D)) : Prop where
  ex : ∃ t, PA X es t ∧ ∀ (W : Wd) (H0 : Hp) (σ : L2.St) (B H : Hp) (ls : List Sl) (s : DS) (Q : List V → Hp → Prop), Kn W B H → W.ok s H → Sm G W X.K H0 B H σ ls → AnsA W X.K B H (m ls s) Q (fun c d H' => Wx c d σ H') → t σ H Q
/-- borrowed arguments -/
inductive DbL (W : Wd) (K : PySem.W.Frag) (B H : Hp) : List V → List D → Prop
  | nil : DbL W K B H [] []
  | cons {v : V} {vs : List V} {d : D} {ds : List D} : Db W K B H v d → DbL W K B H vs ds → DbL W K B H (v :: vs) (d :: ds)
theorem DbL.grow {W : Wd} {K : PySem.W.Frag} {B H B' H' : Hp} (g : Gr W B H B' H') : ∀ {vs : List V} {ds : List D}, DbL W K B H vs ds → DbL W K B' H' vs ds
  | _, _, .nil => .nil
  | _, _, .cons a r => .cons (a.grow g) (DbL.grow g r)
def AnsAO (W : Wd) (K : PySem.W.Frag) (B H : Hp) (r : Res (List D)) (Q : List V → Hp → Prop) (E : XK) : Prop := match r with
  | .ok ds s' => ∀ (vs : List V) (B' H' : Hp), Gr W B H B' H' → W.ok s' H' → DbL W K B' H' vs ds → Q vs H'
  | .exc C fs s' => XW W K B H C fs s' E
  | .stuck => False
structure SAO (G : Gd) (X : Cx) (Wx : WX) (es : List Expr) (m : Mir (List D)) : Prop where
  ex : ∃ t, PA X es t ∧ ∀ (W : Wd) (H0 : Hp) (σ : L2.St) (B H : Hp) (ls : List Sl) (s : DS) (Q : List V → Hp → Prop), Kn W B H → W.ok s H → Sm G W X.K H0 B H σ ls → AnsAO W X.K B H (m ls s) Q (fun c d H' => Wx c d σ H') → t σ H Q
section
variable {W : Wd} {K : PySem.W.Frag} {B H B1 H1 : Hp} {E : XK} {s : DS}
theorem AnsA.grow {r : Res (List D)} {Q : List V → Hp → Prop} (g : Gr W B H B1 H1) (h : AnsA W K B H r Q E) : AnsA W K B1 H1 r Q E := by
  cases r with
  | ok d s' => exact fun v B' H' g' w r => h v B' H' (g.trans g') w r
  | exc C fs s' => exact fun od B' H' g' w x => h od B' H' (g.trans g') w x
  | stuck => exact h
theorem AnsAO.grow {r : Res (List D)} {Q : List V → Hp → Prop} (g : Gr W B H B1 H1) (h : AnsAO W K B H r Q E) : AnsAO W K B1 H1 r Q E := by
  cases r with
  | ok d s' => exact fun v B' H' g' w r => h v B' H' (g.trans g') w r
  | exc C fs s' => exact fun od B' H' g' w x => h od B' H' (g.trans g') w x
  | stuck => exact h
end
section
variable {X : Cx} {Wx : WX} {a b c e : Expr} {es : List Expr} {ma mb mc me : Mir D} {ms : Mir (List D)} {pos p : Pos}
theorem sa_nil : SA G X Wx [] (fun _ => ret []) := ⟨_, pa_nil, fun W H0 σ B H ls s Q k w sm h => h [] B H (Gr.refl k) w .nil⟩
theorem sao_nil : SAO G X Wx [] (fun _ => ret []) := ⟨_, pa_nil, fun W H0 σ B H ls s Q k w sm h => h [] B H (Gr.refl k) w .nil⟩
def mCons (ma : Mir D) (ms : Mir (List D)) : Mir (List D) := fun ls => bnd (ma ls) fun d => bnd (ms ls) fun ds => ret (d :: ds)
theorem sa_cons (ha : SE G X Wx e ma) (hr : SA G X Wx es ms) (hs : starEach (e :: es) X.env = (false, eval e X.env) :: starEach es X.env := by rfl) : SA G X Wx (e :: es) (mCons ma ms) := by
  obtain ⟨ta, pa, ha⟩ := ha.ex
  obtain ⟨tr, pr, hr⟩ := hr.ex
  refine ⟨_, pa_cons pa pr hs, fun W H0 σ B H ls s Q k w sm h => ?_⟩
  refine ha W H0 σ B H ls s _ k w sm ?_
  unfold mCons at h
  cases e1 : ma ls s with
  | stuck => rw [bnd_stk e1] at h; exact h
  | exc C fs s' => rw [bnd_exc e1] at h; exact h
  | ok d s1 =>
    rw [bnd_ok e1] at h
    intro v B1 H1 g1 w1 r1
    refine hr W H0 σ B1 H1 ls s1 _ g1.kn w1 (sm.grow g1) ?_
    have h := h.grow g1
    cases e2 : ms ls s1 with
    | stuck => rw [bnd_stk e2] at h; exact h
    | exc C fs s' => rw [bnd_exc e2] at h; exact h
    | ok ds s2 =>
      rw [bnd_ok e2] at h
      exact fun vs B2 H2 g2 w2 r2 => h (v :: vs) B2 H2 g2 w2 (.cons (r1.mono g2.bb) r2)
theorem sao_cons (ha : SO G X Wx e ma) (hr : SAO G X Wx es ms) (hs : starEach (e :: es) X.env = (false, eval e X.env) :: starEach es X.env := by rfl) : SAO G X Wx (e :: es) (mCons ma ms) := by
  obtain ⟨ta, pa, ha⟩ := ha.ex
  obtain ⟨tr, pr, hr⟩ := hr.ex
  refine ⟨_, pa_cons pa pr hs, fun W H0 σ B H ls s Q k w sm h => ?_⟩
  refine ha W H0 σ B H ls s _ k w sm ?_
  unfold mCons at h
  cases e1 : ma ls s with
  | stuck => rw [bnd_stk e1] at h; exact h
  | exc C fs s' => rw [bnd_exc e1] at h; exact h
  | ok d s1 =>
    rw [bnd_ok e1] at h
    intro v B1 H1 g1 w1 r1
    refine hr W H0 σ B1 H1 ls s1 _ g1.kn w1 (sm.grow g1) ?_
    have h := h.grow g1
    cases e2 : ms ls s1 with
    | stuck => rw [bnd_stk e2] at h; exact h
    | exc C fs s' => rw [bnd_exc e2] at h; exact h
    | ok ds s2 =>
      rw [bnd_ok e2] at h
      exact fun vs B2 H2 g2 w2 r2 => h (v :: vs) B2 H2 g2 w2 (.cons (r1.grow g2) r2)
/-- the items of a list or a tuple -/
def seqD : D → M (List D)
  | .lst xs => ret xs
  | .tup xs => ret xs
  | _ => stk
theorem Db.seq {W : Wd} {K : PySem.W.Frag} {B H : Hp} {v : V} {d : D} {s s' : DS} {xs : List D} (k : Kn W B H) (r : Db W K B H v d) (h : seqD d s = .ok xs s') : s' = s ∧ ∃ q vs, v = .ref q ∧ (SqT K H q vs ∨ SqL K H q vs) ∧ DvL K B vs xs := by
  unfold seqD at h
  split at h
  · cases h
    obtain ⟨q, vs, e, hq, rr⟩ := r.lst k
    exact ⟨rfl, q, vs, e, Or.inr (SqL.of hq), rr⟩
  · cases h
    obtain ⟨q, vs, e, hq, rr⟩ := r.tup
    exact ⟨rfl, q, vs, e, Or.inl (k.sub.t hq), rr⟩
  · cases h
def mStar (ma : Mir D) (ms : Mir (List D)) : Mir (List D) := fun ls => bnd (ma ls) fun d => bnd (seqD d) fun xs => bnd (ms ls) fun ds => ret (xs ++ ds)
theorem seqD_res (d : D) (s : DS) : (∃ xs, seqD d s = .ok xs s) ∨ seqD d s = .stuck := by
  unfold seqD
  split
  · exact Or.inl ⟨_, rfl⟩
  · exact Or.inl ⟨_, rfl⟩
  · exact Or.inr rfl
theorem sa_star (ha : SO G X Wx e ma) (hr : SA G X Wx es ms) (hs : starEach (.Starred e p :: es) X.env = (true, eval e X.env) :: starEach es X.env := by rfl) : SA G X Wx (.Starred e p :: es) (mStar ma ms) := by
  obtain ⟨ta, pa, ha⟩ := ha.ex
  obtain ⟨tr, pr, hr⟩ := hr.ex
  refine ⟨_, StX.pa_star pa pr hs, fun W H0 σ B H ls s Q k w sm h => ?_⟩
  refine ha W H0 σ B H ls s _ k w sm ?_
  unfold mStar at h
  cases e1 : ma ls s with
  | stuck => rw [bnd_stk e1] at h; exact h
  | exc C fs s' => rw [bnd_exc e1] at h; exact h
  | ok d s1 =>
    rw [bnd_ok e1] at h
    intro v B1 H1 g1 w1 r1
    have h := h.grow g1
    rcases seqD_res d s1 with ⟨xs, e3⟩ | e3
    · rw [bnd_ok e3] at h
      obtain ⟨_, q, vs, rfl, hq, rr⟩ := r1.seq g1.kn e3
      refine ⟨q, vs, rfl, hq, ?_⟩
      refine hr W H0 σ B1 H1 ls s1 _ g1.kn w1 (sm.grow g1) ?_
      cases e2 : ms ls s1 with
      | stuck => rw [bnd_stk e2] at h; exact h
      | exc C fs s' => rw [bnd_exc e2] at h; exact h
      | ok ds s2 =>
        rw [bnd_ok e2] at h
        exact fun us B2 H2 g2 w2 r2 => h (vs ++ us) B2 H2 g2 w2 ((rr.mono g2.bb).app r2)
    · rw [bnd_stk e3] at h
      exact h.elim
/-! ### displays -/
def tupD (ds : List D) : M D := if ds.length ≤ sizeLine then ret (.tup ds) else stk
def lstD (ds : List D) : M (List D) := if ds.length ≤ sizeLine then ret ds else stk
theorem se_tup {x1} (h : SA G X Wx es ms) : SE G X Wx (.Tuple es x1 pos) (fun ls => bnd (ms ls) tupD) := by
  obtain ⟨t, pt, ht⟩ := h.ex
  refine ⟨_, pe_tup pt, fun W H0 σ B H ls s Q k w sm h => ?_⟩
  refine ht W H0 σ B H ls s _ k w sm ?_
  cases e : ms ls s with
  | stuck => rw [bnd_stk e] at h; exact h
  | exc C fs s' => rw [bnd_exc e] at h; exact h
  | ok ds s1 =>
    rw [bnd_ok e] at h
    intro vs B1 H1 g1 w1 r1
    have h := h.grow g1
    unfold tupD at h
    split at h
    · rename_i hl
      exact ⟨by rw [r1.len]; exact hl, fun q hq => h.new_ g1.kn w1 hq (.tup (SqT.of upd_same) (r1.mono (sub_new (none_of_kn g1.kn hq))))⟩
    · exact h.elim
theorem sl_lst (h : SA G X Wx es ms) : SL G X Wx (.List es pos) (fun ls => bnd (ms ls) lstD) := by
  obtain ⟨t, pt, ht⟩ := h.ex
  refine ⟨_, pe_lst pt, fun W H0 σ B H ls s Q k w sm h => ?_⟩
  refine ht W H0 σ B H ls s _ k w sm ?_
  cases e : ms ls s with
  | stuck => rw [bnd_stk e] at h; exact h
  | exc C fs s' => rw [bnd_exc e] at h; exact h
  | ok ds s1 =>
    rw [bnd_ok e] at h
    intro vs B1 H1 g1 w1 r1
    have h := h.grow g1 ⟨_, w1⟩
    unfold lstD at h
    split at h
    · rename_i hl
      exact ⟨by rw [r1.len]; exact hl, fun q hq => h.ret_ g1.kn w1 hq r1⟩
    · exact h.elim
/-- {} -/
theorem se_dct0 : SE G X Wx (.Dict [] [] pos) (fun _ => ret (.dct [])) := by
  refine ⟨_, pe_dnewK, fun W H0 σ B H ls s Q k w sm h => ?_⟩
  intro q hq
  exact h.new_ k w hq (.dcE upd_same)
/-! ### lists put together -/
def catD : D → D → M (List D)
  | .lst a, .lst b => if a.length + b.length ≤ sizeLine then ret (a ++ b) else stk
  | _, _ => stk
theorem sl_cat (ha : SO G X Wx a ma) (hb : SO G X Wx b mb) : SL G X Wx (.BinOp a .Add b pos) (fun ls => bnd (ma ls) fun x => bnd (mb ls) fun y => catD x y) := by
  obtain ⟨ta, pa, ha⟩ := ha.ex
  obtain ⟨tb, pb, hb⟩ := hb.ex
  refine ⟨_, pe_op op_cat pa pb, fun W H0 σ B H ls s Q k w sm h => ?_⟩
  refine ha W H0 σ B H ls s _ k w sm (h.bindO fun dx s1 x B1 H1 g1 w1 rx h1 => ?_)
  refine hb W H0 σ B1 H1 ls s1 _ g1.kn w1 (sm.grow g1) (h1.bindO fun dy s2 y B2 H2 g2 w2 ry h2 => ?_)
  unfold catD at h2
  split at h2
  · split at h2
    · rename_i hl
      obtain ⟨p, vs, rfl, hp, r1⟩ := (rx.grow g2).lst g2.kn
      obtain ⟨q, us, rfl, hq, r2⟩ := ry.lst g2.kn
      exact ⟨p, q, vs, us, rfl, rfl, hp, hq, by rw [r1.len, r2.len]; exact hl, fun c hc => h2.ret_ g2.kn w2 hc (r1.app r2)⟩
    · exact h2.elim
  · exact (show False from h2).elim
/-! ### subscripts -/
def optM {α : Type} : Option α → M α
  | some a => ret a
  | none => stk
def ixD : D → D → M D
  | .lst xs, .int i => optM (atI xs i)
  | .tup xs, .int i => optM (atI xs i)
  | .str z, .int i => if z.length ≤ sizeLine then optM ((atI z.cps.toList i).map fun c => .str ⟨#[c]⟩) else stk
  | _, _ => stk
theorem DvL.at {K : PySem.W.Frag} {H : Hp} {vs : List V} {ds : List D} {i : Int} {d : D} (r : DvL K H vs ds) (h : atI ds i = some d) : ∃ v, atI vs i = some v ∧ Dv K H v d := by
  unfold atI at h ⊢
  rw [r.len]
  cases e : ixN ds.length i with
  | none => rw [e] at h; cases h
  | some j =>
    rw [e] at h
    exact r.getD h
theorem se_ix (ha : SO G X Wx a ma) (hb : SO G X Wx b mb) (hs : PlainIx b := by intro _ _; rfl) : SE G X Wx (.Subscript a b pos) (m2 ixD ma mb) := by
  obtain ⟨ta, pa, ha⟩ := ha.ex
  obtain ⟨tb, pb, hb⟩ := hb.ex
  refine ⟨_, pe_ix (ix_list.or (ix_tup.or ix_str)) pa pb hs, fun W H0 σ B H ls s Q k w sm h => ?_⟩
  refine ha W H0 σ B H ls s _ k w sm (h.bindO fun dx s1 x B1 H1 g1 w1 rx h1 => ?_)
  refine hb W H0 σ B1 H1 ls s1 _ g1.kn w1 (sm.grow g1) (h1.bindO fun dy s2 y B2 H2 g2 w2 ry h2 => ?_)
  have rx2 := rx.grow g2
  unfold ixD at h2
  split at h2
  · rename_i xs i
    obtain ⟨p, vs, rfl, hp, r1⟩ := rx2.lst g2.kn
    cases e : atI xs i with
    | none => rw [e] at h2; exact (show False from h2).elim
    | some d =>
      rw [e] at h2
      obtain ⟨v, e1, r2⟩ := r1.at e
      exact Or.inl ⟨p, vs, i, v, rfl, ry.int, SqL.of hp, e1, h2.ret_ g2.kn w2 r2⟩
  · rename_i xs i
    obtain ⟨p, vs, rfl, hp, r1⟩ := rx2.tup
    cases e : atI xs i with
    | none => rw [e] at h2; exact (show False from h2).elim
    | some d =>
      rw [e] at h2
      obtain ⟨v, e1, r2⟩ := r1.at e
      exact Or.inr (Or.inl ⟨p, vs, i, v, rfl, ry.int, g2.kn.sub.t hp, e1, h2.ret_ g2.kn w2 r2⟩)
  · rename_i z i
    split at h2
    · rename_i hl
      cases e : atI z.cps.toList i with
      | none => rw [e] at h2; exact (show False from h2).elim
      | some c =>
        rw [e] at h2
        exact Or.inr (Or.inr ⟨z, i, c, rx2.str, ry.int, hl, e, h2.ret_ g2.kn w2 (.str _)⟩)
    · exact h2.elim
  · exact (show False from h2).elim
/-! ### slices -/
def AnsP (W : Wd) (K : PySem.W.Frag) (B H : Hp) (r : Res (Option Int)) (Q : Option Int → Hp → Prop) (E : XK) : Prop := match r with
  | .ok o s' => ∀ (B' H' : Hp), Gr W B H B' H' → W.ok s' H' → Q o H'
  | .exc C fs s' => XW W K B H C fs s' E
  | .stuck => False
structure SP' (G : Gd) (X : Cx) (Wx : WX) (e : Option Expr) (m : Mir (Option Int)) : Prop where
  ex : ∃ t, PO X e t ∧ ∀ (W : Wd) (H0 : Hp) (σ : L2.St) (B H : Hp) (ls : List Sl) (s : DS) (Q : Option Int → Hp → Prop), Kn W B H → W.ok s H → Sm G W X.K H0 B H σ ls → AnsP W X.K B H (m ls s) Q (fun c d H' => Wx c d σ H') → t σ H Q
theorem sp_none : SP' G X Wx none (fun _ => ret none) := ⟨_, po_none, fun W H0 σ B H ls s Q k w sm h => h B H (Gr.refl k) w⟩
def intD : D → M (Option Int)
  | .int i => ret (some i)
  | _ => stk
theorem sp_some (ha : SE G X Wx a ma) : SP' G X Wx (some a) (fun ls => bnd (ma ls) intD) := by
  obtain ⟨ta, pa, ha⟩ := ha.ex
  refine ⟨_, po_some pa, fun W H0 σ B H ls s Q k w sm h => ?_⟩
  refine ha W H0 σ B H ls s _ k w sm ?_
  cases e : ma ls s with
  | stuck => rw [bnd_stk e] at h; exact h
  | exc C fs s' => rw [bnd_exc e] at h; exact h
  | ok d s1 =>
    rw [bnd_ok e] at h
    intro v B1 H1 g1 w1 r1
    unfold intD at h
    split at h
    · cases r1
      exact ⟨_, rfl, h B1 H1 g1 w1⟩
    · exact (show False from h).elim
def cutL {α : Type} (xs : List α) (lo hi : Option Int) : List α := (xs.drop (HT.sIx xs.length 0 lo)).take (HT.sIx xs.length xs.length hi - HT.sIx xs.length 0 lo)
def slD (x : D) (lo hi : Option Int) : M D := match x with
  | .lst xs => ret (.lst (cutL xs lo hi))
  | .tup xs => ret (.tup (cutL xs lo hi))
  | .str z => if z.length ≤ sizeLine then ret (.str (cutS z lo hi)) else stk
  | _ => stk
theorem DvL.drop {K : PySem.W.Frag} {H : Hp} : ∀ {vs : List V} {ds : List D} (n : Nat), DvL K H vs ds → DvL K H (vs.drop n) (ds.drop n)
  | _, _, 0, r => r
  | _, _, _ + 1, .nil => .nil
  | _, _, n + 1, .cons _ r => DvL.drop n r
theorem DvL.take {K : PySem.W.Frag} {H : Hp} : ∀ {vs : List V} {ds : List D} (n : Nat), DvL K H vs ds → DvL K H (vs.take n) (ds.take n)
  | _, _, 0, _ => .nil
  | _, _, _ + 1, .nil => .nil
  | _, _, n + 1, .cons a r => .cons a (DvL.take n r)
theorem DvL.cut {K : PySem.W.Frag} {H : Hp} {vs : List V} {ds : List D} (lo hi : Option Int) (r : DvL K H vs ds) : DvL K H (cutV vs lo hi) (cutL ds lo hi) := by
  unfold cutV cutL
  rw [r.len]
  exact (r.drop _).take _
theorem cut_whole {ds : List D} {lo hi : Option Int} (h : HT.sIx ds.length 0 lo = 0 ∧ HT.sIx ds.length ds.length hi = ds.length) : cutL ds lo hi = ds := by
  unfold cutL
  rw [h.1, h.2]
  simp
def mSl (ma : Mir D) (ml mh : Mir (Option Int)) : Mir D := fun ls => bnd (ma ls) fun x => bnd (ml ls) fun lo => bnd (mh ls) fun hi => slD x lo hi
theorem se_sl {lo hi : Option Expr} {p2 : Pos} {ml mh : Mir (Option Int)} (ha : SO G X Wx a ma) (hl : SP' G X Wx lo ml) (hh : SP' G X Wx hi mh) : SE G X Wx (.Subscript a (.Slice lo hi none p2) pos) (mSl ma ml mh) := by
  obtain ⟨ta, pa, ha⟩ := ha.ex
  obtain ⟨tl, pl, hl⟩ := hl.ex
  obtain ⟨th, ph, hh⟩ := hh.ex
  refine ⟨_, pe_slice (sl_list.or (sl_tupA.or sl_str)) pa pl ph, fun W H0 σ B H ls s Q k w sm h => ?_⟩
  refine ha W H0 σ B H ls s _ k w sm (h.bindO fun dx s1 x B1 H1 g1 w1 rx h1 => ?_)
  refine hl W H0 σ B1 H1 ls s1 _ g1.kn w1 (sm.grow g1) ?_
  cases e : ml ls s1 with
  | stuck => rw [bnd_stk e] at h1; exact h1
  | exc C fs s' => rw [bnd_exc e] at h1; exact h1
  | ok lo' s2 =>
    rw [bnd_ok e] at h1
    intro B2 H2 g2 w2
    have h1 := h1.grow g2
    refine hh W H0 σ B2 H2 ls s2 _ g2.kn w2 ((sm.grow g1).grow g2) ?_
    cases e2 : mh ls s2 with
    | stuck => rw [bnd_stk e2] at h1; exact h1
    | exc C fs s' => rw [bnd_exc e2] at h1; exact h1
    | ok hi' s3 =>
      rw [bnd_ok e2] at h1
      intro B3 H3 g3 w3
      have h1 := h1.grow g3
      have rx := (rx.grow g2).grow g3
      unfold slD at h1
      split at h1
      · obtain ⟨p, vs, rfl, hp, r1⟩ := rx.lst g3.kn
        exact Or.inl ⟨p, vs, rfl, SqL.of hp, fun c hc => h1.new_ g3.kn w3 hc (.lst upd_same ((r1.cut _ _).mono (sub_new (none_of_kn g3.kn hc))))⟩
      · obtain ⟨p, vs, rfl, hp, r1⟩ := rx.tup
        refine Or.inr (Or.inl ⟨p, vs, rfl, g3.kn.sub.t hp, fun z => ?_, fun z c hc => ?_⟩)
        · rw [r1.len] at z
          rw [cut_whole z] at h1
          exact h1.ret_ g3.kn w3 (.tup hp r1)
        · exact h1.new_ g3.kn w3 hc (.tup (SqT.of upd_same) ((r1.cut _ _).mono (sub_new (none_of_kn g3.kn hc))))
      · split at h1
        · rename_i hl
          exact Or.inr (Or.inr ⟨_, rx.str, hl, h1.ret_ g3.kn w3 (.str _)⟩)
        · exact h1.elim
      · exact (show False from h1).elim
/-! ### calls of built-ins -/
structure Cl (X : Cx) (f : Value) (op : List D → M D) : Prop where
  ex : ∃ r, CallR X f r ∧ ∀ (W : Wd) (B H : Hp) (s : DS) (vs : List V) (ds : List D) (Q : VK) (E : XK), Kn W B H → W.ok s H → DbL W X.K B H vs ds → Ans W X.K B H (op ds s) Q E → r vs H Q
/-- .. that give a new list -/
structure ClL (X : Cx) (f : Value) (op : List D → M (List D)) : Prop where
  ex : ∃ r, CallR X f r ∧ ∀ (W : Wd) (B H : Hp) (s : DS) (vs : List V) (ds : List D) (Q : VK) (E : XK), Kn W B H → W.ok s H → DbL W X.K B H vs ds → AnsL W X.K B H (op ds s) Q E → r vs H Q
theorem call_core {t : TA} {r : List V → Hp → VK → Prop} {op : List D → M D} (ht : ∀ (W : Wd) (H0 : Hp) (σ : L2.St) (B H : Hp) (ls : List Sl) (s : DS) (Q : List V → Hp → Prop), Kn W B H → W.ok s H → Sm G W X.K H0 B H σ ls → AnsAO W X.K B H (ms ls s) Q (fun c d H' => Wx c d σ H') → t σ H Q)
    (hr : ∀ (W : Wd) (B H : Hp) (s : DS) (vs : List V) (ds : List D) (Q : VK) (E : XK), Kn W B H → W.ok s H → DbL W X.K B H vs ds → Ans W X.K B H (op ds s) Q E → r vs H Q)
    (W : Wd) (H0 : Hp) (σ : L2.St) (B H : Hp) (ls : List Sl) (s : DS) (Q : VK) (k : Kn W B H) (w : W.ok s H) (sm : Sm G W X.K H0 B H σ ls) (h : Ans W X.K B H (bnd (ms ls) op s) Q (fun c d H' => Wx c d σ H')) : tCB r t σ H Q := by
  refine ht W H0 σ B H ls s _ k w sm ?_
  cases e : ms ls s with
  | stuck => rw [bnd_stk e] at h; exact h
  | exc C fs s' => rw [bnd_exc e] at h; exact h
  | ok ds s1 =>
    rw [bnd_ok e] at h
    exact fun vs B1 H1 g1 w1 r1 => hr W B1 H1 s1 vs ds Q _ g1.kn w1 r1 (h.grow g1)
theorem call_coreL {t : TA} {r : List V → Hp → VK → Prop} {op : List D → M (List D)} (ht : ∀ (W : Wd) (H0 : Hp) (σ : L2.St) (B H : Hp) (ls : List Sl) (s : DS) (Q : List V → Hp → Prop), Kn W B H → W.ok s H → Sm G W X.K H0 B H σ ls → AnsAO W X.K B H (ms ls s) Q (fun c d H' => Wx c d σ H') → t σ H Q)
    (hr : ∀ (W : Wd) (B H : Hp) (s : DS) (vs : List V) (ds : List D) (Q : VK) (E : XK), Kn W B H → W.ok s H → DbL W X.K B H vs ds → AnsL W X.K B H (op ds s) Q E → r vs H Q)
    (W : Wd) (H0 : Hp) (σ : L2.St) (B H : Hp) (ls : List Sl) (s : DS) (Q : VK) (k : Kn W B H) (w : W.ok s H) (sm : Sm G W X.K H0 B H σ ls) (h : AnsL W X.K B H (bnd (ms ls) op s) Q (fun c d H' => Wx c d σ H')) : tCB r t σ H Q := by
  refine ht W H0 σ B H ls s _ k w sm ?_
  cases e : ms ls s with
  | stuck => rw [bnd_stk e] at h; exact h
  | exc C fs s' => rw [bnd_exc e] at h; exact h
  | ok ds s1 =>
    rw [bnd_ok e] at h
    exact fun vs B1 H1 g1 w1 r1 => hr W B1 H1 s1 vs ds Q _ g1.kn w1 r1 (h.grow g1 ⟨_, w1⟩)
theorem se_callB {id : String} {x : Str} {op : List D → M D} (hc : Cl X (.builtin id) op) (hg : Gl X x) (hm : X.mg x = none) (hv : bootBuiltins x = some (.builtin id)) (ha : SAO G X Wx (e :: es) ms) (hn : x ≠ "__name__" := by decide) (hdb : (x == ("__debug__" : Str)) = false := by decide)
    (he : starEach (e :: es) X.env = (false, eval e X.env) :: starEach es X.env := by rfl) (hpl : (backTo pos (starEach es X.env)).any (·.1) = false := by rfl) : SE G X Wx (.Call (.Name x p) (e :: es) [] pos) (fun ls => bnd (ms ls) op) := by
  obtain ⟨r, pr, hr⟩ := hc.ex
  obtain ⟨t, pt, ht⟩ := ha.ex
  exact ⟨_, pe_callB pr hg hm hv pt hn hdb he hpl, call_core ht hr⟩
theorem se_callTy {T : String} {x : Str} {op : List D → M D} (hc : Cl X (.type T) op) (hg : Gl X x) (hm : X.mg x = none) (hv : bootBuiltins x = some (.type T)) (ha : SAO G X Wx (e :: es) ms) (hn : x ≠ "__name__" := by decide) (hdb : (x == ("__debug__" : Str)) = false := by decide)
    (he : starEach (e :: es) X.env = (false, eval e X.env) :: starEach es X.env := by rfl) (hpl : (backTo pos (starEach es X.env)).any (·.1) = false := by rfl) : SE G X Wx (.Call (.Name x p) (e :: es) [] pos) (fun ls => bnd (ms ls) op) := by
  obtain ⟨r, pr, hr⟩ := hc.ex
  obtain ⟨t, pt, ht⟩ := ha.ex
  exact ⟨_, pe_callTy pr hg hm hv pt hn hdb he hpl, call_core ht hr⟩
theorem sl_callB {id : String} {x : Str} {op : List D → M (List D)} (hc : ClL X (.builtin id) op) (hg : Gl X x) (hm : X.mg x = none) (hv : bootBuiltins x = some (.builtin id)) (ha : SAO G X Wx (e :: es) ms) (hn : x ≠ "__name__" := by decide) (hdb : (x == ("__debug__" : Str)) = false := by decide)
    (he : starEach (e :: es) X.env = (false, eval e X.env) :: starEach es X.env := by rfl) (hpl : (backTo pos (starEach es X.env)).any (·.1) = false := by rfl) : SL G X Wx (.Call (.Name x p) (e :: es) [] pos) (fun ls => bnd (ms ls) op) := by
  obtain ⟨r, pr, hr⟩ := hc.ex
  obtain ⟨t, pt, ht⟩ := ha.ex
  exact ⟨_, pe_callB pr hg hm hv pt hn hdb he hpl, call_coreL ht hr⟩
theorem sl_callTy {T : String} {x : Str} {op : List D → M (List D)} (hc : ClL X (.type T) op) (hg : Gl X x) (hm : X.mg x = none) (hv : bootBuiltins x = some (.type T)) (ha : SAO G X Wx (e :: es) ms) (hn : x ≠ "__name__" := by decide) (hdb : (x == ("__debug__" : Str)) = false := by decide)
    (he : starEach (e :: es) X.env = (false, eval e X.env) :: starEach es X.env := by rfl) (hpl : (backTo pos (starEach es X.env)).any (·.1) = false := by rfl) : SL G X Wx (.Call (.Name x p) (e :: es) [] pos) (fun ls => bnd (ms ls) op) := by
  obtain ⟨r, pr, hr⟩ := hc.ex
  obtain ⟨t, pt, ht⟩ := ha.ex
  exact ⟨_, pe_callTy pr hg hm hv pt hn hdb he hpl, call_coreL ht hr⟩
end
section
variable {X : Cx}
def lenD : List D → M D
  | [.lst xs] => ret (.int xs.length)
  | [.scr ns] => ret (.int ns.length)
  | [.tup xs] => ret (.int xs.length)
  | [.str z] => if z.length ≤ sizeLine then ret (.int z.length) else stk
  | _ => stk
theorem c_len : Cl X (.builtin "len") lenD := by
  refine ⟨_, call_len, fun W B H s vs ds Q E k w r h => ?_⟩
  unfold lenD at h
  split at h
  · cases r with
    | cons a r =>
      cases r
      obtain ⟨p, vs, rfl, hp, r1⟩ := a.lst k
      exact ⟨_, vs.length, rfl, Or.inl ⟨_, SqL.of hp, rfl⟩, by rw [r1.len]; exact h.ret_ k w (.int _)⟩
  · rename_i ns
    cases r with
    | cons a r =>
      cases r
      have hd := a.dv (fun ds z => by cases z)
      cases hd with
      | scr hs => exact ⟨_, (ns.map V.int).length, rfl, Or.inl ⟨_, k.sub.l hs, rfl⟩, by rw [List.length_map]; exact h.ret_ k w (.int _)⟩
  · cases r with
    | cons a r =>
      cases r
      obtain ⟨p, vs, rfl, hp, r1⟩ := a.tup
      exact ⟨_, vs.length, rfl, Or.inr ⟨_, k.sub.t hp, rfl⟩, by rw [r1.len]; exact h.ret_ k w (.int _)⟩
  · cases r with
    | cons a r =>
      cases r
      split at h
      · rename_i hl
        cases a.str
        exact ⟨_, _, rfl, ⟨hl, rfl⟩, h.ret_ k w (.int _)⟩
      · exact h.elim
  · exact (show False from h).elim
def int1D : List D → M D
  | [.int i] => ret (.int i)
  | [.bl b] => ret (.int (if b then 1 else 0))
  | [.str a] => if a.length ≤ 640 then optM ((PySem.intText? a).map .int) else stk
  | _ => stk
theorem c_int : Cl X (.type "int") int1D := by
  refine ⟨_, call_int1.or call_int_str, fun W B H s vs ds Q E k w r h => ?_⟩
  unfold int1D at h
  split at h
  · cases r with
    | cons a r =>
      cases r
      cases a.int
      exact Or.inl (Or.inl ⟨_, rfl, h.ret_ k w (.int _)⟩)
  · cases r with
    | cons a r =>
      cases r
      cases a.bl
      exact Or.inl (Or.inr ⟨_, rfl, h.ret_ k w (.int _)⟩)
  · rename_i a
    cases r with
    | cons q r =>
      cases r
      cases q.str
      split at h
      · rename_i hl
        cases e : PySem.intText? a with
        | none => rw [e] at h; exact (show False from h).elim
        | some n =>
          rw [e] at h
          exact Or.inr ⟨a, n, rfl, e, hl, h.ret_ k w (.int _)⟩
      · exact h.elim
  · exact (show False from h).elim
def tupleD : List D → M D
  | [.lst xs] => ret (.tup xs)
  | [.tup xs] => ret (.tup xs)
  | _ => stk
theorem c_tuple : Cl X (.type "tuple") tupleD := by
  refine ⟨_, call_tuple_of, fun W B H s vs ds Q E k w r h => ?_⟩
  unfold tupleD at h
  split at h
  · cases r with
    | cons a r =>
      cases r
      obtain ⟨p, vs, rfl, hp, r1⟩ := a.lst k
      exact ⟨p, vs, rfl, Or.inl ⟨SqL.of hp, fun c hc => h.new_ k w hc (.tup (SqT.of upd_same) (r1.mono (sub_new (none_of_kn k hc))))⟩⟩
  · cases r with
    | cons a r =>
      cases r
      obtain ⟨p, vs, rfl, hp, r1⟩ := a.tup
      exact ⟨p, vs, rfl, Or.inr ⟨k.sub.t hp, h.ret_ k w (.tup hp r1)⟩⟩
  · exact (show False from h).elim
def listD : List D → M (List D)
  | [.lst xs] => ret xs
  | [.tup xs] => ret xs
  | _ => stk
theorem c_list : ClL X (.type "list") listD := by
  refine ⟨_, call_list_of, fun W B H s vs ds Q E k w r h => ?_⟩
  unfold listD at h
  split at h
  · cases r with
    | cons a r =>
      cases r
      obtain ⟨p, vs, rfl, hp, r1⟩ := a.lst k
      exact ⟨p, vs, rfl, Or.inl (SqL.of hp), fun c hc => h.ret_ k w hc r1⟩
  · cases r with
    | cons a r =>
      cases r
      obtain ⟨p, vs, rfl, hp, r1⟩ := a.tup
      exact ⟨p, vs, rfl, Or.inr (k.sub.t hp), fun c hc => h.ret_ k w hc r1⟩
  · exact (show False from h).elim
/-- a list of bools -/
def blsD : List D → Option (List Bool)
  | [] => some []
  | .bl b :: r => (blsD r).map (b :: ·)
  | _ => none
theorem DvL.bls {K : PySem.W.Frag} {H : Hp} : ∀ {vs : List V} {ds : List D} {bs : List Bool}, DvL K H vs ds → blsD ds = some bs → vs = bs.map V.bl
  | _, _, _, .nil, e => by cases e; rfl
  | _, _, _, .cons (d := d) (ds := ds) a r, e => by
    cases a <;> try (unfold blsD at e; cases e)
    rename_i b
    unfold blsD at e
    cases q : blsD ds with
    | none => rw [q] at e; cases e
    | some l =>
      rw [q] at e
      cases e
      rw [DvL.bls r q]
      rfl
def allD : List D → M D
  | [.lst xs] => optM ((blsD xs).map fun bs => .bl (bs.all id))
  | _ => stk
def anyD : List D → M D
  | [.lst xs] => optM ((blsD xs).map fun bs => .bl (bs.any id))
  | _ => stk
theorem c_all (hc : X.calm = true) : Cl X (.builtin "all") allD := by
  refine ⟨_, cr_all hc, fun W B H s vs ds Q E k w r h => ?_⟩
  unfold allD at h
  split at h
  · rename_i xs
    cases r with
    | cons a r =>
      cases r
      obtain ⟨p, vs, rfl, hp, r1⟩ := a.lst k
      cases e : blsD xs with
      | none => rw [e] at h; exact (show False from h).elim
      | some bs =>
        rw [e] at h
        exact ⟨p, bs, rfl, SqL.of (by rw [hp, r1.bls e]), h.ret_ k w (.bl _)⟩
  · exact (show False from h).elim
theorem c_any (hc : X.calm = true) : Cl X (.builtin "any") anyD := by
  refine ⟨_, cr_any hc, fun W B H s vs ds Q E k w r h => ?_⟩
  unfold anyD at h
  split at h
  · rename_i xs
    cases r with
    | cons a r =>
      cases r
      obtain ⟨p, vs, rfl, hp, r1⟩ := a.lst k
      cases e : blsD xs with
      | none => rw [e] at h; exact (show False from h).elim
      | some bs =>
        rw [e] at h
        exact ⟨p, bs, rfl, SqL.of (by rw [hp, r1.bls e]), h.ret_ k w (.bl _)⟩
  · exact (show False from h).elim
end
end PV
set_option maxHeartbeats 4000000
/-! Sound statements. -/
namespace PV
open PySem L2
variable {G : Gd}
inductive Fl where
  | nx (ls : List Sl)
  | rt (d : D)
  | bk (ls : List Sl)
  | ct (ls : List Sl)
abbrev MS := List Sl → M Fl
/-- B0, H0: the def's entry -/
def AnsS (G : Gd) (W : Wd) (K : PySem.W.Frag) (Wx : WX) (B0 H0 : Hp) (r : Res Fl) (D : Ends) : Prop := match r with
  | .ok (.nx ls) s' => ∀ (σ : L2.St) (B H : Hp), Gr W B0 H0 B H → W.ok s' H → Sm G W K H0 B H σ ls → D.nx σ H
  | .ok (.bk ls) s' => ∀ (σ : L2.St) (B H : Hp), Gr W B0 H0 B H → W.ok s' H → Sm G W K H0 B H σ ls → D.bk σ H
  | .ok (.ct ls) s' => ∀ (σ : L2.St) (B H : Hp), Gr W B0 H0 B H → W.ok s' H → Sm G W K H0 B H σ ls → D.ct σ H
  | .ok (.rt d) s' => ∀ (v : V) (B H : Hp), Gr W B0 H0 B H → W.ok s' H → Dv K B v d → D.rt v H
  | .exc C fs s' => ∀ (od : Option Addr) (σ : L2.St) (B H : Hp), Gr W B0 H0 B H → W.ok s' H → XFl K B od fs → Wx (.ref C) od σ H
  | .stuck => False
structure SS (G : Gd) (X : Cx) (Wx : WX) (st : Stmt) (m : MS) : Prop where
  ex : ∃ t, PS X st t ∧ ∀ (W : Wd) (B0 H0 : Hp) (σ : L2.St) (B H : Hp) (ls : List Sl) (s : DS) (D : Ends), Gr W B0 H0 B H → W.ok s H → Sm G W X.K H0 B H σ ls → AnsS G W X.K Wx B0 H0 (m ls s) D → t D σ H
structure SSs (G : Gd) (X : Cx) (Wx : WX) (st : List Stmt) (m : MS) : Prop where
  ex : ∃ t, PSs X st t ∧ ∀ (W : Wd) (B0 H0 : Hp) (σ : L2.St) (B H : Hp) (ls : List Sl) (s : DS) (D : Ends), Gr W B0 H0 B H → W.ok s H → Sm G W X.K H0 B H σ ls → AnsS G W X.K Wx B0 H0 (m ls s) D → t D σ H
section
variable {W : Wd} {K : PySem.W.Frag} {Wx : WX} {B0 H0 B H : Hp} {D : Ends} {s : DS} {σ : L2.St}
/-- an expression within a statement -/
theorem AnsS.bind {ma : M PV.D} {f : PV.D → M Fl} {Q : VK} (g0 : Gr W B0 H0 B H) (h : AnsS G W K Wx B0 H0 (bnd ma f s) D)
    (hc : ∀ (d : PV.D) (s' : DS) (v : V) (B1 H1 : Hp), Gr W B H B1 H1 → Gr W B0 H0 B1 H1 → W.ok s' H1 → Dv K B1 v d → AnsS G W K Wx B0 H0 (f d s') D → Q v H1) : Ans W K B H (ma s) Q (fun c d H' => Wx c d σ H') := by
  cases e : ma s with
  | ok d s' =>
    rw [bnd_ok e] at h
    exact fun v B1 H1 g w r => hc d s' v B1 H1 g (g0.trans g) w r h
  | exc C fs s' =>
    rw [bnd_exc e] at h
    exact fun od B' H' g w x => h od σ B' H' (g0.trans g) w x
  | stuck =>
    rw [bnd_stk e] at h
    exact h
theorem AnsS.bindL {ma : M (List PV.D)} {f : List PV.D → M Fl} {Q : VK} (g0 : Gr W B0 H0 B H) (h : AnsS G W K Wx B0 H0 (bnd ma f s) D)
    (hc : ∀ (ds : List PV.D) (s' : DS) (p : Addr) (vs : List V) (B1 H1 : Hp), Gr W B H B1 H1 → Gr W B0 H0 B1 H1 → W.ok s' H1 → H p = none → ¬ W.vol p → B1 p = none → H1 p = some (.lst vs) → DvL K B1 vs ds → AnsS G W K Wx B0 H0 (f ds s') D → Q (.ref p) H1) : AnsL W K B H (ma s) Q (fun c d H' => Wx c d σ H') := by
  cases e : ma s with
  | ok d s' =>
    rw [bnd_ok e] at h
    exact fun p vs B1 H1 g w hn nv hb hp r => hc d s' p vs B1 H1 g (g0.trans g) w hn nv hb hp r h
  | exc C fs s' =>
    rw [bnd_exc e] at h
    exact fun od B' H' g w x => h od σ B' H' (g0.trans g) w x
  | stuck =>
    rw [bnd_stk e] at h
    exact h
theorem AnsS.bindB {ma : M Bool} {f : Bool → M Fl} {Q : Bool → Hp → Prop} (g0 : Gr W B0 H0 B H) (h : AnsS G W K Wx B0 H0 (bnd ma f s) D)
    (hc : ∀ (b : Bool) (s' : DS) (B1 H1 : Hp), Gr W B H B1 H1 → Gr W B0 H0 B1 H1 → W.ok s' H1 → AnsS G W K Wx B0 H0 (f b s') D → Q b H1) : AnsB W K B H (ma s) Q (fun c d H' => Wx c d σ H') := by
  cases e : ma s with
  | ok d s' =>
    rw [bnd_ok e] at h
    exact fun B1 H1 g w => hc d s' B1 H1 g (g0.trans g) w h
  | exc C fs s' =>
    rw [bnd_exc e] at h
    exact fun od B' H' g w x => h od σ B' H' (g0.trans g) w x
  | stuck =>
    rw [bnd_stk e] at h
    exact h
theorem AnsS.bindO {ma : M PV.D} {f : PV.D → M Fl} {Q : VK} (g0 : Gr W B0 H0 B H) (h : AnsS G W K Wx B0 H0 (bnd ma f s) D)
    (hc : ∀ (d : PV.D) (s' : DS) (v : V) (B1 H1 : Hp), Gr W B H B1 H1 → Gr W B0 H0 B1 H1 → W.ok s' H1 → Db W K B1 H1 v d → AnsS G W K Wx B0 H0 (f d s') D → Q v H1) : AnsO W K B H (ma s) Q (fun c d H' => Wx c d σ H') := by
  cases e : ma s with
  | ok d s' =>
    rw [bnd_ok e] at h
    exact fun v B1 H1 g w r => hc d s' v B1 H1 g (g0.trans g) w r h
  | exc C fs s' =>
    rw [bnd_exc e] at h
    exact fun od B' H' g w x => h od σ B' H' (g0.trans g) w x
  | stuck =>
    rw [bnd_stk e] at h
    exact h
end
section
variable {X : Cx} {Wx : WX} {st : Stmt} {rest : List Stmt} {m m' : MS} {e a b c : Expr} {me ma mb : Mir D} {pos : Pos}
/-! ### blocks -/
theorem sss_nil : SSs G X Wx [] (fun ls => ret (.nx ls)) := ⟨_, pss_nil, fun W B0 H0 σ B H ls s D g w sm h => h σ B H g w sm⟩
def mSeq (m m' : MS) : MS := fun ls => bnd (m ls) fun f => match f with
  | .nx ls' => m' ls'
  | f => ret f
theorem sss_cons (h1 : SS G X Wx st m) (h2 : SSs G X Wx rest m') : SSs G X Wx (st :: rest) (mSeq m m') := by
  obtain ⟨t, pt, ht⟩ := h1.ex
  obtain ⟨u, pu, hu⟩ := h2.ex
  refine ⟨_, pss_cons pt pu, fun W B0 H0 σ B H ls s D g w sm h => ?_⟩
  refine ht W B0 H0 σ B H ls s _ g w sm ?_
  unfold mSeq at h
  cases e : m ls s with
  | stuck => rw [bnd_stk e] at h; exact h
  | exc C fs s' => rw [bnd_exc e] at h; exact h
  | ok f s' =>
    rw [bnd_ok e] at h
    cases f with
    | nx ls' => exact fun σ' B' H' g' w' sm' => hu W B0 H0 σ' B' H' ls' s' D g' w' sm' h
    | rt d => exact h
    | bk l => exact h
    | ct l => exact h
theorem sss_one (h1 : SS G X Wx st m) : SSs G X Wx [st] m := by
  obtain ⟨t, pt, ht⟩ := h1.ex
  exact ⟨_, pss_one pt, ht⟩
/-! ### small statements -/
theorem ss_pass : SS G X Wx (.Pass pos) (fun ls => ret (.nx ls)) := ⟨_, ps_pass, fun W B0 H0 σ B H ls s D g w sm h => h σ B H g w sm⟩
theorem ss_break : SS G X Wx (.Break pos) (fun ls => ret (.bk ls)) := ⟨_, ps_break, fun W B0 H0 σ B H ls s D g w sm h => h σ B H g w sm⟩
theorem ss_continue : SS G X Wx (.Continue pos) (fun ls => ret (.ct ls)) := ⟨_, ps_continue, fun W B0 H0 σ B H ls s D g w sm h => h σ B H g w sm⟩
theorem ss_expr (he : SE G X Wx e me) (hs : swapsWith e none pos.line X.env = pure false := by rfl) : SS G X Wx (.Expr e pos) (fun ls => bnd (me ls) fun _ => ret (.nx ls)) := by
  obtain ⟨t, pt, ht⟩ := he.ex
  refine ⟨_, ps_expr pt hs, fun W B0 H0 σ B H ls s D g w sm h => ?_⟩
  exact ht W H0 σ B H ls s _ g.kn w sm (h.bind g fun d s' v B1 H1 g1 g2 w1 r1 h1 => h1 σ B1 H1 g2 w1 (sm.grow g1))
theorem ss_ret (he : SE G X Wx e me) : SS G X Wx (.Return (some e) pos) (fun ls => bnd (me ls) fun d => ret (.rt d)) := by
  obtain ⟨t, pt, ht⟩ := he.ex
  refine ⟨_, ps_ret pt, fun W B0 H0 σ B H ls s D g w sm h => ?_⟩
  exact ht W H0 σ B H ls s _ g.kn w sm (h.bind g fun d s' v B1 H1 g1 g2 w1 r1 h1 => h1 v B1 H1 g2 w1 r1)
theorem ss_retN : SS G X Wx (.Return none pos) (fun ls => ret (.rt .non)) := ⟨_, ps_retN, fun W B0 H0 σ B H ls s D g w sm h => h .non B H g w .non⟩
/-- what is owned becomes known -/
theorem Gr.freeze {W : Wd} {B0 H0 B H : Hp} {p : Addr} {vs : List V} (g : Gr W B0 H0 B H) (nv : ¬ W.vol p) (h0 : H0 p = none) (hp : H p = some (.lst vs)) (hb : B p = none) : Gr W B0 H0 (upd B p (.lst vs)) H := by
  refine ⟨fun a o z => ?_, g.bb.trans (sub_new hb), g.hh, fun a o z => ?_⟩
  · by_cases ha : a = p
    · subst ha
      rw [upd_same] at z
      cases z
      exact ⟨nv, hp⟩
    · rw [upd_ne ha] at z
      exact g.kn a o z
  · rw [upd_ne (ne_of_none z h0)]
    exact g.nw a o z
/-- return x, x an owned list -/
def mRetOwn (i : Nat) : MS := fun ls => match ls[i]? with
  | some (.ow ds) => ret (.rt (.lst ds))
  | _ => stk
theorem ss_retOwn {i : Nat} {x : Str} {p' : Pos} (hN : X.N[i]? = some x := by rfl) (hv : Vis X.env.scope x := by first | exact Or.inl rfl | exact Or.inr (Or.inl rfl) | exact Or.inr (Or.inr rfl)) (hd : (x == ("__debug__" : Str)) = false := by decide)
    (hcd : (x == ("__classdict__" : Str)) = false := by decide) : SS G X Wx (.Return (some (.Name x p')) pos) (mRetOwn i) := by
  refine ⟨_, ps_ret (pe_var hN hv hd hcd), fun W B0 H0 σ B H ls s D g w sm h => ?_⟩
  unfold mRetOwn at h
  cases e : ls[i]? with
  | none =>
    rw [e] at h
    exact (show False from h).elim
  | some sl =>
    rw [e] at h
    cases sl with
    | ow ds =>
      obtain ⟨ov, e1, p, vs, rfl, nv, h0, hp, hb, r⟩ := sm.sl i _ e
      exact ⟨_, e1, h (.ref p) _ H (g.freeze nv h0 hp hb) w (.lst upd_same (r.mono (sub_new hb)))⟩
    | un => exact (show False from h).elim
    | cl => exact (show False from h).elim
    | va ds => exact (show False from h).elim
/-- an owned list is handed over: a step that no statement makes -/
def frz (i : Nat) (ls : List Sl) : List Sl := match ls[i]? with
  | some (.ow ds) => ls.set i (.va (.lst ds))
  | _ => ls
theorem Sm.frz {W : Wd} {K : PySem.W.Frag} {B0 H0 B H : Hp} {σ : L2.St} {ls : List Sl} (i : Nat) (g : Gr W B0 H0 B H) (sm : Sm G W K H0 B H σ ls) : ∃ B', Gr W B0 H0 B' H ∧ Sm G W K H0 B' H σ (frz i ls) := by
  unfold PV.frz
  cases e : ls[i]? with
  | none => exact ⟨B, g, sm⟩
  | some sl =>
    cases sl with
    | un => exact ⟨B, g, sm⟩
    | cl => exact ⟨B, g, sm⟩
    | va d => exact ⟨B, g, sm⟩
    | ow ds =>
      obtain ⟨ov, e1, p, vs, rfl, nv, h0, hp, hb, r⟩ := sm.sl i _ e
      have hs : Sub B (upd B p (.lst vs)) := sub_new hb
      refine ⟨upd B p (.lst vs), g.freeze nv h0 hp hb, ?_⟩
      have ei : σ.set i (some (.ref p)) = σ := by
        have hlt : i < σ.length := (List.getElem?_eq_some_iff.mp e1).1
        have e2 : σ[i] = some (.ref p) := (List.getElem?_eq_some_iff.mp e1).2
        rw [← e2, List.set_getElem_self]
      refine ⟨by simp [sm.len], fun j x ej => ?_, fun j k es fs q hjk e2 e3 e4 => ?_, G.mono hs (fun _ _ _ e => e) sm.gd.1, sm.gd.2⟩
      · rcases set_at ej with ⟨rfl, rfl, hlt⟩ | ⟨hj, ej⟩
        · exact ⟨_, e1, .ref p, rfl, .lst upd_same (r.mono hs)⟩
        · obtain ⟨ov, e5, q⟩ := sm.sl j x ej
          refine ⟨ov, e5, ?_⟩
          cases x with
          | un => trivial
          | cl => exact q
          | va d =>
            obtain ⟨v, e6, r6⟩ := q
            exact ⟨v, e6, r6.mono hs⟩
          | ow es =>
            obtain ⟨p', vs', rfl, nv', h0', hp', hb', r'⟩ := q
            refine ⟨p', vs', rfl, nv', h0', hp', ?_, r'.mono hs⟩
            have ne : p' ≠ p := fun z => by
              subst z
              exact sm.dj j i es ds p' hj ej e e5 e1
            rw [upd_ne ne]
            exact hb'
      · rcases set_at e2 with ⟨_, z, _⟩ | ⟨_, e2⟩
        · cases z
        · rcases set_at e3 with ⟨_, z, _⟩ | ⟨_, e3⟩
          · cases z
          · exact sm.dj j k es fs q hjk e2 e3 e4
theorem sss_frz (i : Nat) (h : SSs G X Wx rest m) : SSs G X Wx rest (fun ls => m (frz i ls)) := by
  obtain ⟨t, pt, ht⟩ := h.ex
  refine ⟨_, pt, fun W B0 H0 σ B H ls s D g w sm h => ?_⟩
  obtain ⟨B', g', sm'⟩ := sm.frz i g
  exact ht W B0 H0 σ B' H _ s D g' w sm' h
/-! ### targets -/
/-- slots that are not of vs are as they were -/
def Off (vs : List Nat) (σ σ' : L2.St) : Prop := σ'.length = σ.length ∧ ∀ j, j ∉ vs → σ'[j]? = σ[j]?
theorem Off.refl (vs : List Nat) (σ : L2.St) : Off vs σ σ := ⟨rfl, fun _ _ => rfl⟩
theorem Off.trans {vs us : List Nat} {σ σ1 σ2 : L2.St} (a : Off vs σ σ1) (b : Off us σ1 σ2) : Off (vs ++ us) σ σ2 :=
  ⟨b.1.trans a.1, fun j h => by rw [b.2 j (fun z => h (List.mem_append_right _ z)), a.2 j (fun z => h (List.mem_append_left _ z))]⟩
theorem Off.mono {vs us : List Nat} {σ σ1 : L2.St} (a : Off vs σ σ1) (h : ∀ j ∈ vs, j ∈ us) : Off us σ σ1 := ⟨a.1, fun j n => a.2 j fun z => n (h j z)⟩
theorem Off.set (i : Nat) (o : Option V) (σ : L2.St) : Off [i] σ (σ.set i o) := ⟨by simp, fun j h => by rw [List.getElem?_set_ne (fun z => h (by simp [z]))]⟩
def AnsG (G : Gd) (W : Wd) (K : PySem.W.Frag) (H0 B H : Hp) (s : DS) (is : List Nat) (σ0 : L2.St) (r : Option (List Sl)) (Q : L2.St → Hp → Prop) : Prop := match r with
  | some ls => ∀ (σ : L2.St) (B' H' : Hp), Gr W B H B' H' → W.ok s H' → Sm G W K H0 B' H' σ ls → Off is σ0 σ → Q σ H'
  | none => False
abbrev MG := D → List Sl → Option (List Sl)
structure SG (G : Gd) (X : Cx) (tg : Expr) (is : List Nat) (m : MG) : Prop where
  ex : ∃ t, PG X tg t ∧ ∀ (W : Wd) (H0 : Hp) (σ : L2.St) (B H : Hp) (ls : List Sl) (s : DS) (v : V) (d : D) (Q : L2.St → Hp → Prop), Kn W B H → W.ok s H → Sm G W X.K H0 B H σ ls → Dv X.K B v d → AnsG G W X.K H0 B H s is σ (m d ls) Q → t v σ H Q
structure SGs (G : Gd) (X : Cx) (tgs : List Expr) (is : List Nat) (m : List D → List Sl → Option (List Sl)) : Prop where
  ex : ∃ t, PGs X tgs t ∧ ∀ (W : Wd) (H0 : Hp) (σ : L2.St) (B H : Hp) (ls : List Sl) (s : DS) (vs : List V) (ds : List D) (Q : L2.St → Hp → Prop), Kn W B H → W.ok s H → Sm G W X.K H0 B H σ ls → DvL X.K B vs ds → AnsG G W X.K H0 B H s is σ (m ds ls) Q → t vs σ H Q
def gNm (i : Nat) : MG := fun d ls => some (ls.set i (.va d))
theorem sg_name {i : Nat} {x : Str} (hN : X.N.Nodup) (hi : X.N[i]? = some x := by rfl) (hx : Loc X.env.scope x := by first | exact Or.inl rfl | exact Or.inr rfl) (hf : X.fn x = true ∨ X.env.scope.names.lookup x = some .local := by first | exact .inl rfl | exact .inr rfl | assumption) : SG G X (.Name x pos) [i] (gNm i) :=
  ⟨_, pg_name hN hi hx hf, fun W H0 σ B H ls s v d Q k w sm r h => h _ B H (Gr.refl k) w (sm.set_va r) (Off.set i _ σ)⟩
def gNilD : List D → List Sl → Option (List Sl) := fun ds ls => match ds with
  | [] => some ls
  | _ => none
def gConsD (m : MG) (ms : List D → List Sl → Option (List Sl)) : List D → List Sl → Option (List Sl) := fun ds ls => match ds with
  | d :: ds => (m d ls).bind fun ls' => ms ds ls'
  | [] => none
theorem sgs_nil : SGs G X [] [] gNilD := by
  refine ⟨_, pgs_nil, fun W H0 σ B H ls s vs ds Q k w sm r h => ?_⟩
  cases r with
  | nil => exact ⟨rfl, h σ B H (Gr.refl k) w sm (Off.refl _ _)⟩
  | cons a r => exact (show False from h).elim
theorem sgs_cons {es : List Expr} {is js : List Nat} {mg : MG} {ms : List D → List Sl → Option (List Sl)} (h1 : SG G X e is mg) (h2 : SGs G X es js ms)
    (hs : (assignEach (e :: es) X.env).map (·.2) = assign e X.env :: (assignEach es X.env).map (·.2) := by rfl) : SGs G X (e :: es) (is ++ js) (gConsD mg ms) := by
  obtain ⟨t, pt, ht⟩ := h1.ex
  obtain ⟨u, pu, hu⟩ := h2.ex
  refine ⟨_, pgs_cons pt pu hs, fun W H0 σ B H ls s vs ds Q k w sm r h => ?_⟩
  cases r with
  | nil => exact (show False from h).elim
  | @cons v vs d ds a r =>
    refine ⟨v, vs, rfl, ht W H0 σ B H ls s v d _ k w sm a ?_⟩
    have h : AnsG G W X.K H0 B H s (is ++ js) σ ((mg d ls).bind fun ls' => ms ds ls') Q := h
    cases e : mg d ls with
    | none => rw [e] at h; exact h
    | some ls' =>
      rw [e] at h
      intro σ' B' H' g w' sm' off
      refine hu W H0 σ' B' H' ls' s vs ds Q g.kn w' sm' (r.mono g.bb) ?_
      have h : AnsG G W X.K H0 B H s (is ++ js) σ (ms ds ls') Q := h
      cases e2 : ms ds ls' with
      | none => rw [e2] at h; exact h
      | some ls2 =>
        rw [e2] at h
        exact fun σ2 B2 H2 g2 w2 sm2 off2 => h σ2 B2 H2 (g.trans g2) w2 sm2 (off.trans off2)
def gTupD (n : Nat) (ms : List D → List Sl → Option (List Sl)) : MG := fun d ls => match d with
  | .tup ds => if ds.length = n then ms ds ls else none
  | _ => none
theorem sg_tup {es : List Expr} {is : List Nat} {k : Nat} {n : Nat} {ms : List D → List Sl → Option (List Sl)} (hc : X.calm = true) (h : SGs G X es is ms)
    (hn : (assignEach es X.env).length = n := by rfl) (hst : (assignEach es X.env).findIdx? (·.1) = none := by rfl) : SG G X (.Tuple es k pos) is (gTupD n ms) := by
  obtain ⟨t, pt, ht⟩ := h.ex
  refine ⟨_, pg_tup hc pt hn hst, fun W H0 σ B H ls s v d Q k w sm r h => ?_⟩
  unfold gTupD at h
  split at h
  · split at h
    · rename_i hl
      cases r with
      | tup hs r => exact ⟨_, _, rfl, k.sub.t hs, by rw [r.len]; exact hl, ht W H0 σ B H ls s _ _ Q k w sm r h⟩
    · exact h.elim
  · exact (show False from h).elim
/-! ### assignments -/
theorem ss_set {i : Nat} {x : Str} {pos' : Pos} (hN : X.N.Nodup) (he : SE G X Wx e me) (hi : X.N[i]? = some x := by rfl) (hx : Loc X.env.scope x := by first | exact Or.inl rfl | exact Or.inr rfl) (hs : swapsWith e (some (.Name x pos')) pos.line X.env = pure false := by rfl)
    (hf : X.fn x = true ∨ X.env.scope.names.lookup x = some .local := by first | exact .inl rfl | exact .inr rfl | assumption) : SS G X Wx (.Assign [.Name x pos'] e pos) (fun ls => bnd (me ls) fun d => ret (.nx (ls.set i (.va d)))) := by
  obtain ⟨t, pt, ht⟩ := he.ex
  refine ⟨_, ps_set hN hi hx pt hs hf, fun W B0 H0 σ B H ls s D g w sm h => ?_⟩
  exact ht W H0 σ B H ls s _ g.kn w sm (h.bind g fun d s' v B1 H1 g1 g2 w1 r1 h1 => h1 _ B1 H1 g2 w1 ((sm.grow g1).set_va r1))
/-- no owned list stands at a fresh place -/
theorem Sm.fresh {W : Wd} {K : PySem.W.Frag} {H0 B H : Hp} {σ : L2.St} {ls : List Sl} {p : Addr} (sm : Sm G W K H0 B H σ ls) (hn : H p = none) (j : Nat) (es : List D) (e : ls[j]? = some (.ow es)) : σ[j]? ≠ some (some (.ref p)) := by
  obtain ⟨ov, e1, q, vs, rfl, nv, h0, hp, hb, r⟩ := sm.sl j _ e
  rw [e1]
  intro z
  cases z
  rw [hp] at hn
  cases hn
theorem ss_setL {i : Nat} {x : Str} {pos' : Pos} {ml : Mir (List D)} (hN : X.N.Nodup) (he : SL G X Wx e ml) (hi : X.N[i]? = some x := by rfl) (hx : Loc X.env.scope x := by first | exact Or.inl rfl | exact Or.inr rfl) (hs : swapsWith e (some (.Name x pos')) pos.line X.env = pure false := by rfl)
    (hf : X.fn x = true ∨ X.env.scope.names.lookup x = some .local := by first | exact .inl rfl | exact .inr rfl | assumption) : SS G X Wx (.Assign [.Name x pos'] e pos) (fun ls => bnd (ml ls) fun ds => ret (.nx (ls.set i (.ow ds)))) := by
  obtain ⟨t, pt, ht⟩ := he.ex
  refine ⟨_, ps_set hN hi hx pt hs hf, fun W B0 H0 σ B H ls s D g w sm h => ?_⟩
  refine ht W H0 σ B H ls s _ g.kn w sm (h.bindL g fun ds s' p vs B1 H1 g1 g2 w1 hn nv hb hp r1 h1 => ?_)
  have h0 : H0 p = none := by
    cases e : H0 p with
    | none => rfl
    | some o =>
      rw [g.hh p o nv e] at hn
      cases hn
  exact h1 _ B1 H1 g2 w1 ((sm.grow g1).set_ow nv h0 hp hb r1 (fun j es ej => sm.fresh hn j es ej))
def nxO (o : Option (List Sl)) : M Fl := match o with
  | some ls => ret (.nx ls)
  | none => stk
theorem ss_asg {tg : Expr} {is : List Nat} {mg : MG} (he : SE G X Wx e me) (hg : SG G X tg is mg) (hs : swapsWithSole [tg] e pos.line X.env = pure false := by rfl) (hw : swappedStores [tg] e X.env = pure none := by rfl)
    (h1 : (assignEach [tg] X.env).map (·.2) = [assign tg X.env] := by rfl) : SS G X Wx (.Assign [tg] e pos) (fun ls => bnd (me ls) fun d => nxO (mg d ls)) := by
  obtain ⟨t, pt, ht⟩ := he.ex
  obtain ⟨u, pu, hu⟩ := hg.ex
  refine ⟨_, ps_asg pt pu hs hw h1, fun W B0 H0 σ B H ls s D g w sm h => ?_⟩
  refine ht W H0 σ B H ls s _ g.kn w sm (h.bind g fun d s' v B1 H1 g1 g2 w1 r1 h1 => ?_)
  refine hu W H0 σ B1 H1 ls s' v d _ g1.kn w1 (sm.grow g1) r1 ?_
  cases e : mg d ls with
  | none => rw [e] at h1; exact h1
  | some ls2 =>
    rw [e] at h1
    exact fun σ2 B2 H2 g3 w2 sm2 _ => h1 σ2 B2 H2 (g2.trans g3) w2 sm2
/-! ### if -/
def mIfS (n : Mir Bool) (m m' : MS) : MS := fun ls => bnd (n ls) fun x => if x = true then m ls else m' ls
theorem ss_if {n : Mir Bool} {a b : List Stmt} (hc : ST G X Wx c n) (ha : SSs G X Wx a m) (hb : SSs G X Wx b m') : SS G X Wx (.If c a b pos) (mIfS n m m') := by
  obtain ⟨tc, pc, hc⟩ := hc.ex
  obtain ⟨ta, pa, ha⟩ := ha.ex
  obtain ⟨tb, pb, hb⟩ := hb.ex
  refine ⟨_, ps_if pc pa pb, fun W B0 H0 σ B H ls s D g w sm h => ?_⟩
  refine hc W H0 σ B H ls s _ g.kn w sm (h.bindB g fun x s' B1 H1 g1 g2 w1 h1 => ?_)
  cases x with
  | true =>
    rw [if_pos rfl] at h1 ⊢
    exact ha W B0 H0 σ B1 H1 ls s' D g2 w1 (sm.grow g1) h1
  | false =>
    rw [if_neg (by decide)] at h1 ⊢
    exact hb W B0 H0 σ B1 H1 ls s' D g2 w1 (sm.grow g1) h1
/-! ### methods of an owned list -/
def onOw (i : Nat) (ls : List Sl) (f : List D → M Fl) : M Fl := match ls[i]? with
  | some (.ow ds) => f ds
  | _ => stk
theorem onOw_ans {W : Wd} {K : PySem.W.Frag} {Wx : WX} {B0 H0 : Hp} {i : Nat} {ls : List Sl} {f : List D → M Fl} {s : DS} {D : Ends} (h : AnsS G W K Wx B0 H0 (onOw i ls f s) D) : ∃ ds, ls[i]? = some (.ow ds) ∧ AnsS G W K Wx B0 H0 (f ds s) D := by
  unfold onOw at h
  cases e : ls[i]? with
  | none => rw [e] at h; exact (show False from h).elim
  | some sl =>
    rw [e] at h
    cases sl with
    | ow ds => exact ⟨ds, rfl, h⟩
    | un => exact (show False from h).elim
    | cl => exact (show False from h).elim
    | va d => exact (show False from h).elim
def mApp (i : Nat) (me : Mir D) : MS := fun ls => onOw i ls fun ds => bnd (me ls) fun d => if ds.length < sizeLine then ret (.nx (ls.set i (.ow (ds ++ [d])))) else stk
/-- the list at an owned place is changed -/
theorem Gr.chg {W : Wd} {B0 H0 B H : Hp} {p : Addr} {o : HO} (g : Gr W B0 H0 B H) (nv : ¬ W.vol p) (h0 : H0 p = none) (hb : B p = none) : Gr W B0 H0 B (upd H p o) := by
  refine ⟨fun a u z => ⟨(g.kn a u z).1, ?_⟩, g.bb, fun a u n z => ?_, g.nw⟩
  · rw [upd_ne (ne_of_none z hb)]
    exact (g.kn a u z).2
  · rw [upd_ne (ne_of_none z h0)]
    exact g.hh a u n z
theorem Wd.ok.chg {W : Wd} {s : DS} {H : Hp} {p : Addr} {vs us : List V} (w : W.ok s H) (nv : ¬ W.vol p) (hp : H p = some (.lst vs)) : W.ok s (upd H p (.lst us)) := by
  have ne : ∀ {a : Addr} {o : HO}, H a = some o → (W.vol a ∨ ∀ vs, o ≠ .lst vs) → a ≠ p := fun {a o} e h z => by
    subst z
    rcases h with h | h
    · exact nv h
    · rw [hp] at e
      cases e
      exact h vs rfl
  refine ⟨fun q hq => ?_, fun t ht => ?_, w.at_⟩
  · have z := w.dr q hq
    refine ⟨?_, ?_, ?_, z.ne⟩
    · rw [upd_ne (ne z.m (Or.inl (Or.inl ⟨q, hq, Or.inl rfl⟩)))]
      exact z.m
    · rw [upd_ne (ne z.c (Or.inl (Or.inl ⟨q, hq, Or.inr (Or.inl rfl)⟩)))]
      exact z.c
    · rw [upd_ne (ne z.g (Or.inl (Or.inl ⟨q, hq, Or.inr (Or.inr rfl)⟩)))]
      exact z.g
  · obtain ⟨ps, h1, h2, h3⟩ := w.tb t ht
    refine ⟨ps, ?_, h2, fun pos cv hc => ?_⟩
    · rw [upd_ne (ne h1 (Or.inr fun vs z => by cases z))]
      exact h1
    · obtain ⟨c, e1, e2⟩ := h3 pos cv hc
      refine ⟨c, e1, ?_⟩
      rw [upd_ne (ne e2 (Or.inr fun vs z => by unfold LamX.CodeO at z; cases z))]
      exact e2
theorem Sm.chg {W : Wd} {K : PySem.W.Frag} {H0 B H : Hp} {σ : L2.St} {ls : List Sl} {i : Nat} {p : Addr} {ds es : List D} {us : List V} (sm : Sm G W K H0 B H σ ls) (ei : ls[i]? = some (.ow ds)) (es_ : σ[i]? = some (some (.ref p))) (nv : ¬ W.vol p) (h0 : H0 p = none) (hb : B p = none)
    (r : DvL K B us es) : Sm G W K H0 B (upd H p (.lst us)) σ (ls.set i (.ow es)) := by
  refine ⟨by simp [sm.len], fun j x ej => ?_, fun j k e1 e2 q hjk h1 h2 h3 => ?_, G.mono (Sub.refl _) (fun b q n e => ?_) sm.gd.1, sm.gd.2⟩
  · rcases set_at ej with ⟨rfl, rfl, hlt⟩ | ⟨hj, ej⟩
    · exact ⟨_, es_, p, us, rfl, nv, h0, upd_same, hb, r⟩
    · obtain ⟨ov, e5, q⟩ := sm.sl j x ej
      refine ⟨ov, e5, ?_⟩
      cases x with
      | un => trivial
      | cl => exact q
      | va d => exact q
      | ow fs =>
        obtain ⟨p', vs', rfl, nv', h0', hp', hb', r'⟩ := q
        have ne : p' ≠ p := fun z => by
          subst z
          exact sm.dj j i fs ds p' hj ej ei e5 es_
        exact ⟨p', vs', rfl, nv', h0', by rw [upd_ne ne]; exact hp', hb', r'⟩
  · have key : ∀ {n : Nat} {fs : List D}, (ls.set i (.ow es))[n]? = some (.ow fs) → ∃ fs', ls[n]? = some (.ow fs') := fun {n fs} z => by
      rcases set_at z with ⟨rfl, _, _⟩ | ⟨_, z⟩
      · exact ⟨ds, ei⟩
      · exact ⟨fs, z⟩
    obtain ⟨f1, z1⟩ := key h1
    obtain ⟨f2, z2⟩ := key h2
    exact sm.dj j k f1 f2 q hjk z1 z2 h3
  · obtain ⟨ov, z1, q1, vs1, z2, _, _, z3, _⟩ := sm.sl i _ ei
    subst z2
    rw [es_] at z1
    cases z1
    rw [upd_ne (fun z => by rw [z, z3] at e; unfold LamX.CodeO at e; cases e)]
    exact e
theorem ss_append {i : Nat} {x : Str} {p1 p2 pos' : Pos} (he : SE G X Wx e me) (hN : X.N[i]? = some x := by rfl) (hv : Vis X.env.scope x := by first | exact Or.inl rfl | exact Or.inr (Or.inl rfl) | exact Or.inr (Or.inr rfl)) (hd : (x == ("__debug__" : Str)) = false := by decide)
    (hcd : (x == ("__classdict__" : Str)) = false := by decide)
    (hbase : attributeBase (.Name x p1) "append" X.env (eval (.Name x p1) X.env) = eval (.Name x p1) X.env := by rfl)
    (hfew : ((backTo pos (starEach [e] X.env)).all (fun x => !x.1) && (backToKw pos (keywordEach [] X.env)).all (fun x => x.1.isSome)
      && decide ([e].length + ([] : List Keyword).length + (if ([] : List Keyword).isEmpty then 0 else 1) < 30)) = true := by rfl)
    (hline : (p2.endLine == pos.line) = true := by rfl) (hs : starEach [e] X.env = (false, eval e X.env) :: starEach [] X.env := by rfl) (hplain : (backTo pos (starEach [] X.env)).any (·.1) = false := by rfl)
    (hsw : swapsWith (.Call (.Attribute (.Name x p1) "append" p2) [e] [] pos) none pos'.line X.env = pure false := by rfl) :
    SS G X Wx (.Expr (.Call (.Attribute (.Name x p1) "append" p2) [e] [] pos) pos') (mApp i me) := by
  obtain ⟨t, pt, ht⟩ := he.ex
  refine ⟨_, ps_expr (pe_bm PySem.F.plainAttrs_list PySem.F.slot_list_append PySem.F.type_list_append mt_append (pe_var hN hv hd hcd) (pa_cons pt pa_nil hs) hbase hfew hline hs hplain) hsw, fun W B0 H0 σ B H ls s D g w sm h => ?_⟩
  obtain ⟨ds, ei, h⟩ := onOw_ans h
  obtain ⟨ov, e1, p, vs, rfl, nv, h0, hp, hb, r⟩ := sm.sl i _ ei
  refine ⟨_, e1, Or.inl ⟨rfl, vs, SqL.of hp⟩, ?_⟩
  refine ht W H0 σ B H ls s _ g.kn w sm (h.bind g fun d s' v B1 H1 g1 g2 w1 r1 h1 => ?_)
  split at h1
  · rename_i hl
    have hp1 := g1.hh p _ nv hp
    have hb1 : B1 p = none := by rw [g1.nw p _ hp]; exact hb
    exact ⟨p, vs, v, rfl, rfl, hp1, by rw [r.len]; exact hl, h1 σ B1 _ (g2.chg nv h0 hb1) (w1.chg nv hp1) ((sm.grow g1).chg ei e1 nv h0 hb1 ((r.mono g1.bb).app (.cons r1 .nil)))⟩
  · exact h1.elim
end
end PV
set_option maxHeartbeats 4000000
/-! Loops and comprehensions. -/
namespace PV
open PySem L2
variable {G : Gd}
/-! ### moving the entry -/
theorem Gr.mid {W : Wd} {B0 H0 B1 H1 : Hp} (g : Gr W B0 H0 B1 H1) : Gr W B1 H0 B1 H1 := ⟨g.kn, Sub.refl _, g.hh, fun _ _ _ => rfl⟩
theorem Gr.base {W : Wd} {B0 H0 B1 H1 B H : Hp} (g : Gr W B0 H0 B1 H1) (h : Gr W B1 H0 B H) : Gr W B0 H0 B H := ⟨h.kn, g.bb.trans h.bb, h.hh, fun a o e => by rw [h.nw a o e, g.nw a o e]⟩
theorem AnsS.base {W : Wd} {K : PySem.W.Frag} {Wx : WX} {B0 H0 B1 H1 : Hp} {r : Res Fl} {D : Ends} (g : Gr W B0 H0 B1 H1) (h : AnsS G W K Wx B0 H0 r D) : AnsS G W K Wx B1 H0 r D := by
  cases r with
  | stuck => exact h
  | exc C fs s' => exact fun od σ B H g' w x => h od σ B H (g.base g') w x
  | ok f s' =>
    cases f with
    | nx ls => exact fun σ B H g' w sm => h σ B H (g.base g') w sm
    | bk ls => exact fun σ B H g' w sm => h σ B H (g.base g') w sm
    | ct ls => exact fun σ B H g' w sm => h σ B H (g.base g') w sm
    | rt d => exact fun v B H g' w r => h v B H (g.base g') w r
/-! ### what is walked -/
/-- a walk over the deep values ds, as long as B1 is known (strict: all of H1 stays) -/
def IterOk (strict : Bool) (W : Wd) (K : PySem.W.Frag) (B1 H1 : Hp) (J : It) (ds : List D) : Prop :=
  ∃ (G : Hp → Prop) (Y : Nat → Hp → V → Hp → Prop), Walk J ds.length G Y ∧ (∀ B H, Sub B1 B → Kn W B H → (strict = true → Ext W H1 H) → G H) ∧
    ∀ (i : Nat) (B H : Hp) (x : V) (H' : Hp) (s : DS), Sub B1 B → Kn W B H → W.ok s H → i < ds.length → Y i H x H' → ∃ B' d, Gr W B H B' H' ∧ W.ok s H' ∧ ds[i]? = some d ∧ Dv K B' x d
def AnsI (strict : Bool) (W : Wd) (K : PySem.W.Frag) (B H : Hp) (r : Res (List D)) (R : It → Hp → Prop) (E : XK) : Prop := match r with
  | .ok ds s' => ∀ (J : It) (B' H' : Hp), Gr W B H B' H' → W.ok s' H' → IterOk strict W K B' H' J ds → R J H'
  | .exc C fs s' => XW W K B H C fs s' E
  | .stuck => False
structure SI (G : Gd) (X : Cx) (Wx : WX) (strict : Bool) (tg iter : Expr) (m : Mir (List D)) : Prop where
  ex : ∃ wi : TI, PI X tg iter wi ∧ ∀ (W : Wd) (H0 : Hp) (σ : L2.St) (B H : Hp) (ls : List Sl) (s : DS) (R : It → Hp → Prop), Kn W B H → W.ok s H → Sm G W X.K H0 B H σ ls → AnsI strict W X.K B H (m ls s) R (fun c d H' => Wx c d σ H') → wi σ H R
section
variable {X : Cx} {Wx : WX} {e tg : Expr} {me : Mir D} {pos p : Pos}
theorem PI.or {wi wj : TI} (h : PI X tg e wi) (h' : PI X tg e wj) : PI X tg e (fun σ H R => wi σ H R ∨ wj σ H R) :=
  ⟨fun pins s σ H R I q => q.elim (h.run pins s σ H R I) (h'.run pins s σ H R I)⟩
def mSeqI (me : Mir D) : Mir (List D) := fun ls => bnd (me ls) seqD
theorem iter_list {W : Wd} {K : PySem.W.Frag} {B H : Hp} {a : Addr} {vs : List V} {ds : List D} {strict : Bool} (nv : ¬ W.vol a) (hp : H a = some (.lst vs)) (hb : strict = false → B a = some (.lst vs)) (r : DvL K B vs ds) : IterOk strict W K B H (Itl K a) ds := by
  refine ⟨fun H => SqL K H a vs, YAt vs, by rw [← r.len]; exact walk_list, fun B' H' hs k hx => ?_, fun i B' H' x H2 s hs k w hi y => ?_⟩
  · cases strict with
    | true => exact SqL.of (hx rfl a _ nv hp)
    | false => exact SqL.of (k.sub _ _ (hs _ _ (hb rfl)))
  · obtain ⟨rfl, hx⟩ := y
    obtain ⟨d, e, q⟩ := r.get hx
    exact ⟨B', d, Gr.refl k, w, e, q.mono hs⟩
theorem iter_tup {W : Wd} {K : PySem.W.Frag} {B H : Hp} {a : Addr} {vs : List V} {ds : List D} {strict : Bool} (hp : SqT K B a vs) (r : DvL K B vs ds) : IterOk strict W K B H (Itt K a) ds := by
  refine ⟨fun H => SqT K H a vs, YAt vs, by rw [← r.len]; exact walk_tup, fun B' H' hs k hx => k.sub.t (hs.t hp), fun i B' H' x H2 s hs k w hi y => ?_⟩
  obtain ⟨rfl, hx⟩ := y
  obtain ⟨d, e, q⟩ := r.get hx
  exact ⟨B', d, Gr.refl k, w, e, q.mono hs⟩
/-- for x in e, e a list or a tuple -/
theorem si_seq (he : SE G X Wx e me) : SI G X Wx false tg e (mSeqI me) := by
  obtain ⟨t, pt, ht⟩ := he.ex
  refine ⟨_, PI.or (pi_list pt) (pi_tup pt), fun W H0 σ B H ls s R k w sm h => ?_⟩
  unfold mSeqI at h
  cases e1 : me ls s with
  | stuck => rw [bnd_stk e1] at h; exact (show False from h).elim
  | exc C fs s' =>
    rw [bnd_exc e1] at h
    exact Or.inl (ht W H0 σ B H ls s _ k w sm (by rw [e1]; exact h))
  | ok d s1 =>
    rw [bnd_ok e1] at h
    unfold seqD at h
    split at h
    · refine Or.inl (ht W H0 σ B H ls s _ k w sm ?_)
      rw [e1]
      intro v B1 H1 g1 w1 r1
      cases r1 with
      | lst hb r => exact ⟨_, rfl, ⟨_, SqL.of (g1.kn.sub _ _ hb)⟩, h _ B1 H1 g1 w1 (iter_list (g1.kn _ _ hb).1 (g1.kn.sub _ _ hb) (fun _ => hb) r)⟩
    · refine Or.inr (ht W H0 σ B H ls s _ k w sm ?_)
      rw [e1]
      intro v B1 H1 g1 w1 r1
      cases r1 with
      | tup hb r => exact ⟨_, rfl, ⟨_, g1.kn.sub.t hb⟩, h _ B1 H1 g1 w1 (iter_tup hb r)⟩
    · exact (show False from h).elim
/-- .. of a comprehension: the list may be an owned one -/
theorem si_seqO (he : SO G X Wx e me) : SI G X Wx true tg e (mSeqI me) := by
  obtain ⟨t, pt, ht⟩ := he.ex
  refine ⟨_, PI.or (pi_list pt) (pi_tup pt), fun W H0 σ B H ls s R k w sm h => ?_⟩
  unfold mSeqI at h
  cases e1 : me ls s with
  | stuck => rw [bnd_stk e1] at h; exact (show False from h).elim
  | exc C fs s' =>
    rw [bnd_exc e1] at h
    exact Or.inl (ht W H0 σ B H ls s _ k w sm (by rw [e1]; exact h))
  | ok d s1 =>
    rw [bnd_ok e1] at h
    unfold seqD at h
    split at h
    · refine Or.inl (ht W H0 σ B H ls s _ k w sm ?_)
      rw [e1]
      intro v B1 H1 g1 w1 r1
      rcases r1 with r1 | ⟨q, vs, ds, rfl, e2, nv, hp, r⟩
      · cases r1 with
        | lst hb r => exact ⟨_, rfl, ⟨_, SqL.of (g1.kn.sub _ _ hb)⟩, h _ B1 H1 g1 w1 (iter_list (g1.kn _ _ hb).1 (g1.kn.sub _ _ hb) (fun _ => hb) r)⟩
      · cases e2
        exact ⟨_, rfl, ⟨_, SqL.of hp⟩, h _ B1 H1 g1 w1 (iter_list nv hp (fun z => nomatch z) r)⟩
    · refine Or.inr (ht W H0 σ B H ls s _ k w sm ?_)
      rw [e1]
      intro v B1 H1 g1 w1 r1
      obtain ⟨q, vs, rfl, hb, r⟩ := r1.tup
      exact ⟨_, rfl, ⟨_, g1.kn.sub.t hb⟩, h _ B1 H1 g1 w1 (iter_tup hb r)⟩
    · exact (show False from h).elim
/-! ### range -/
def rngL (lo : Int) (n : Nat) : List D := (List.range n).map fun (i : Nat) => .int (lo + (i : Int))
theorem iter_range {W : Wd} {K : PySem.W.Frag} {B H : Hp} {lo : Int} {n : Nat} {strict : Bool} : IterOk strict W K B H (Itr lo n) (rngL lo n) := by
  have hl : (rngL lo n).length = n := by simp [rngL]
  refine ⟨fun _ => True, YFn fun i => .int (lo + i), by rw [hl]; exact walk_range, fun _ _ _ _ _ => trivial, fun i B' H' x H2 s hs k w hi y => ?_⟩
  obtain ⟨rfl, rfl⟩ := y
  rw [hl] at hi
  refine ⟨B', .int (lo + i), Gr.refl k, w, ?_, .int _⟩
  simp [rngL, hi]
def rng1D : List D → M (List D)
  | [.int n] => if -(2 ^ 62) ≤ n ∧ n < 2 ^ 62 then ret (rngL 0 n.toNat) else stk
  | _ => stk
def rng2D : List D → M (List D)
  | [.int a, .int b] => if (-(2 ^ 62) ≤ a ∧ a < 2 ^ 62) ∧ -(2 ^ 62) ≤ b ∧ b < 2 ^ 62 then ret (rngL a (b - a).toNat) else stk
  | _ => stk
theorem si_range1 {a : Expr} {ms : Mir (List D)} {strict : Bool} (hg : Gl X "range") (hm : X.mg "range" = none) (ha : SA G X Wx [a] ms) (hs : starEach [a] X.env = [(false, eval a X.env)] := by rfl) : SI G X Wx strict tg (.Call (.Name "range" p) [a] [] pos) (fun ls => bnd (ms ls) rng1D) := by
  obtain ⟨t, pt, ht⟩ := ha.ex
  refine ⟨_, pi_range1 hg hm pt hs, fun W H0 σ B H ls s R k w sm h => ?_⟩
  refine ht W H0 σ B H ls s _ k w sm ?_
  cases e1 : ms ls s with
  | stuck => rw [bnd_stk e1] at h; exact h
  | exc C fs s' => rw [bnd_exc e1] at h; exact h
  | ok ds s1 =>
    rw [bnd_ok e1] at h
    intro vs B1 H1 g1 w1 r1
    unfold rng1D at h
    split at h
    · split at h
      · rename_i hc
        cases r1 with
        | cons a r => cases a; cases r; exact ⟨_, rfl, hc.1, hc.2, h _ B1 H1 g1 w1 iter_range⟩
      · exact h.elim
    · exact (show False from h).elim
theorem si_range2 {a b : Expr} {ms : Mir (List D)} {strict : Bool} (hg : Gl X "range") (hm : X.mg "range" = none) (ha : SA G X Wx [a, b] ms) (hs : starEach [a, b] X.env = [(false, eval a X.env), (false, eval b X.env)] := by rfl) (hs2 : starEach [b] X.env = [(false, eval b X.env)] := by rfl) :
    SI G X Wx strict tg (.Call (.Name "range" p) [a, b] [] pos) (fun ls => bnd (ms ls) rng2D) := by
  obtain ⟨t, pt, ht⟩ := ha.ex
  refine ⟨_, pi_range2 hg hm pt hs hs2, fun W H0 σ B H ls s R k w sm h => ?_⟩
  refine ht W H0 σ B H ls s _ k w sm ?_
  cases e1 : ms ls s with
  | stuck => rw [bnd_stk e1] at h; exact h
  | exc C fs s' => rw [bnd_exc e1] at h; exact h
  | ok ds s1 =>
    rw [bnd_ok e1] at h
    intro vs B1 H1 g1 w1 r1
    unfold rng2D at h
    split at h
    · split at h
      · rename_i hc
        cases r1 with
        | cons a r =>
          cases a
          cases r with
          | cons a r => cases a; cases r; exact ⟨_, _, rfl, ⟨hc.1.1, hc.1.2, hc.2.1, hc.2.2⟩, h _ B1 H1 g1 w1 iter_range⟩
      · exact h.elim
    · exact (show False from h).elim
/-! ### for -/
def loopD (mg : MG) (mb : MS) : List D → List Sl → M Fl
  | [], ls => ret (.nx ls)
  | d :: ds, ls => match mg d ls with
    | none => stk
    | some ls1 => bnd (mb ls1) fun f => match f with
      | .nx ls2 => loopD mg mb ds ls2
      | .ct ls2 => loopD mg mb ds ls2
      | .bk ls2 => ret (.nx ls2)
      | .rt d => ret (.rt d)
theorem drop_at {α : Type} {l : List α} {i : Nat} {a : α} (h : l[i]? = some a) : l.drop i = a :: l.drop (i + 1) := by
  obtain ⟨hi, e⟩ := List.getElem?_eq_some_iff.mp h
  rw [List.drop_eq_getElem_cons hi, e]
theorem ss_for {is : List Nat} {mi : Mir (List D)} {mg : MG} {mb : MS} {body : List Stmt} {iter : Expr} (hp : PassesOwn (model X.prog X.w) X.A X.env X.xe) (hc : X.calm = true) (hi : SI G X Wx false tg iter mi) (hg : SG G X tg is mg) (hb : SSs G X Wx body mb)
    (hs : ∀ x, foldedSetIterable iter X.env x = pure x := by intro _; rfl) : SS G X Wx (.For tg iter body [] pos) (fun ls => bnd (mi ls) fun ds => loopD mg mb ds ls) := by
  obtain ⟨wi, pi, hi⟩ := hi.ex
  obtain ⟨tg, pg, hg⟩ := hg.ex
  obtain ⟨tb, pb, hb⟩ := hb.ex
  refine ⟨_, ps_for hp hc pi pg pb hs, fun W B0 H0 σ B H ls s D g0 w sm h => ?_⟩
  refine hi W H0 σ B H ls s _ g0.kn w sm ?_
  cases e1 : mi ls s with
  | stuck => rw [bnd_stk e1] at h; exact h
  | exc C fs s' =>
    rw [bnd_exc e1] at h
    exact fun od B' H' g w x => h od σ B' H' (g0.trans g) w x
  | ok ds s1 =>
    rw [bnd_ok e1] at h
    intro J B1 H1 g1 w1 it
    have g01 := g0.trans g1
    obtain ⟨Γ, Y, wk, hG, hY⟩ := it
    refine for_it wk (fun i σ' H' => ∃ B' ls' s', Gr W B1 H0 B' H' ∧ W.ok s' H' ∧ Sm G W X.K H0 B' H' σ' ls' ∧ AnsS G W X.K Wx B1 H0 (loopD mg mb (ds.drop i) ls' s') D)
      ⟨B1, ls, s1, g01.mid, w1, sm.grow g1, by rw [List.drop_zero]; exact h.base g01⟩ (fun i σ' H' _ ⟨B', ls', s', g', _⟩ => hG B' H' g'.bb g'.kn (fun z => nomatch z)) ?_ ?_
    · rintro i x σ' H' H2 hlt ⟨B', ls', s', g', w', sm', a'⟩ y
      obtain ⟨B2, d, g2, w2, ed, r⟩ := hY i B' H' x H2 s' g'.bb g'.kn w' hlt y
      rw [drop_at ed] at a'
      unfold loopD at a'
      refine hg W H0 σ' B2 H2 ls' s' x d _ g2.kn w2 (sm'.grow g2) r ?_
      cases e2 : mg d ls' with
      | none => rw [e2] at a'; exact a'
      | some ls1 =>
        rw [e2] at a'
        intro σ3 B3 H3 g3 w3 sm3 off
        refine hb W B1 H0 σ3 B3 H3 ls1 s' _ ((g'.trans g2).trans g3) w3 sm3 ?_
        have a' : AnsS G W X.K Wx B1 H0 (bnd (mb ls1) (fun f => match f with
          | .nx ls2 => loopD mg mb (ds.drop (i + 1)) ls2
          | .ct ls2 => loopD mg mb (ds.drop (i + 1)) ls2
          | .bk ls2 => ret (.nx ls2)
          | .rt d => ret (.rt d)) s') D := a'
        cases e3 : mb ls1 s' with
        | stuck => rw [bnd_stk e3] at a'; exact a'
        | exc C fs s4 => rw [bnd_exc e3] at a'; exact a'
        | ok f s4 =>
          rw [bnd_ok e3] at a'
          cases f with
          | nx ls2 => exact fun σ4 B4 H4 g4 w4 sm4 => ⟨B4, ls2, s4, g4, w4, sm4, a'⟩
          | ct ls2 => exact fun σ4 B4 H4 g4 w4 sm4 => ⟨B4, ls2, s4, g4, w4, sm4, a'⟩
          | bk ls2 => exact a'
          | rt d => exact a'
    · rintro σ' H' ⟨B', ls', s', g', w', sm', a'⟩
      rw [List.drop_length] at a'
      exact a' σ' B' H' g' w' sm'
/-! ### while -/
def whileD (mt : Mir Bool) (mb : MS) : Nat → List Sl → M Fl
  | 0, _ => stk
  | n + 1, ls => bnd (mt ls) fun b => if b = true then bnd (mb ls) fun f => match f with
      | .nx ls2 => whileD mt mb n ls2
      | .ct ls2 => whileD mt mb n ls2
      | .bk ls2 => ret (.nx ls2)
      | .rt d => ret (.rt d)
    else ret (.nx ls)
theorem ss_while {mt : Mir Bool} {mb : MS} {body : List Stmt} {c : Expr} (n : Nat) (hp : PassesOwn (model X.prog X.w) X.A X.env X.xe) (hc : ST G X Wx c mt) (hb : SSs G X Wx body mb) : SS G X Wx (.While c body [] pos) (fun ls => whileD mt mb n ls) := by
  obtain ⟨tc, pc, hc⟩ := hc.ex
  obtain ⟨tb, pb, hb⟩ := hb.ex
  refine ⟨_, ps_while hp pc pb, fun W B0 H0 σ B H ls s D g0 w sm h => ?_⟩
  refine ⟨fun m σ' H' => ∃ B' ls' s', Gr W B0 H0 B' H' ∧ W.ok s' H' ∧ Sm G W X.K H0 B' H' σ' ls' ∧ AnsS G W X.K Wx B0 H0 (whileD mt mb m ls' s') D, ⟨n, B, ls, s, g0, w, sm, h⟩, ?_⟩
  rintro m σ' H' ⟨B', ls', s', g', w', sm', a'⟩
  cases m with
  | zero => exact (show False from a').elim
  | succ m =>
    have a' : AnsS G W X.K Wx B0 H0 (bnd (mt ls') (fun b => if b = true then bnd (mb ls') fun f => match f with
      | .nx ls2 => whileD mt mb m ls2
      | .ct ls2 => whileD mt mb m ls2
      | .bk ls2 => ret (.nx ls2)
      | .rt d => ret (.rt d)
      else ret (.nx ls')) s') D := a'
    refine hc W H0 σ' B' H' ls' s' _ g'.kn w' sm' (a'.bindB g' fun x s1 B1 H1 g1 g2 w1 h1 => ?_)
    cases x with
    | true =>
      rw [if_pos rfl] at h1 ⊢
      refine ⟨fun σ4 H4 => ∃ B4 ls4 s4, Gr W B0 H0 B4 H4 ∧ W.ok s4 H4 ∧ Sm G W X.K H0 B4 H4 σ4 ls4 ∧ AnsS G W X.K Wx B0 H0 (whileD mt mb m ls4 s4) D, fun σ4 H4 q => ⟨m, Nat.lt_succ_self m, q⟩, ?_⟩
      refine hb W B0 H0 σ' B1 H1 ls' s1 _ g2 w1 (sm'.grow g1) ?_
      cases e3 : mb ls' s1 with
      | stuck => rw [bnd_stk e3] at h1; exact h1
      | exc C fs s4 => rw [bnd_exc e3] at h1; exact h1
      | ok f s4 =>
        rw [bnd_ok e3] at h1
        cases f with
        | nx ls2 => exact fun σ4 B4 H4 g4 w4 sm4 => ⟨B4, ls2, s4, g4, w4, sm4, h1⟩
        | ct ls2 => exact fun σ4 B4 H4 g4 w4 sm4 => ⟨B4, ls2, s4, g4, w4, sm4, h1⟩
        | bk ls2 => exact h1
        | rt d => exact h1
    | false =>
      rw [if_neg (by decide)] at h1 ⊢
      exact h1 σ' B1 H1 g2 w1 (sm'.grow g1)
/-! ### comprehensions -/
def W0 : WX := fun _ _ _ _ => False
def nox {α : Type} (m : M α) : M α := fun s => match m s with
  | .exc _ _ _ => .stuck
  | r => r
structure STs (G : Gd) (X : Cx) (Wx : WX) (ifs : List Expr) (m : Mir Bool) : Prop where
  ex : ∃ t, PTs X ifs t ∧ ∀ (W : Wd) (H0 : Hp) (σ : L2.St) (B H : Hp) (ls : List Sl) (s : DS) (Q : Bool → Hp → Prop), Kn W B H → W.ok s H → Sm G W X.K H0 B H σ ls → AnsB W X.K B H (m ls s) Q (fun c d H' => Wx c d σ H') → t σ H Q
theorem sts_nil : STs G X Wx [] (fun _ => ret true) := ⟨_, pts_nil, fun W H0 σ B H ls s Q k w sm h => h.ret_ k w⟩
theorem sts_one {c : Expr} {mt : Mir Bool} (h : ST G X Wx c mt) : STs G X Wx [c] mt := by
  obtain ⟨t, pt, ht⟩ := h.ex
  exact ⟨_, pts_one pt, ht⟩
def wipeL (ls : List Sl) : List Nat → List Sl
  | [] => ls
  | v :: vs => (wipeL ls vs).set v .un
theorem Sm.wipe {W : Wd} {K : PySem.W.Frag} {H0 B H : Hp} {σ : L2.St} {ls : List Sl} (sm : Sm G W K H0 B H σ ls) : ∀ vs : List Nat, Sm G W K H0 B H (L2.wipe σ vs) (wipeL ls vs)
  | [] => sm
  | v :: vs => (Sm.wipe sm vs).set_un
theorem wipe_at (σ : L2.St) (j : Nat) : ∀ vs : List Nat, (L2.wipe σ vs)[j]? = if j ∈ vs ∧ j < σ.length then some none else σ[j]?
  | [] => by simp [L2.wipe]
  | v :: vs => by
    unfold L2.wipe
    by_cases hj : v = j
    · subst hj
      by_cases hl : v < σ.length
      · rw [List.getElem?_set_self (by rw [wipe_length]; exact hl), if_pos ⟨by simp, hl⟩]
      · rw [List.getElem?_eq_none (by simp [wipe_length]; omega), if_neg (by simp [hl]), List.getElem?_eq_none (by omega)]
    · rw [List.getElem?_set_ne hj, wipe_at σ j vs]
      by_cases hm : j ∈ vs
      · simp [hm]
      · have : ¬ j = v := fun z => hj z.symm
        simp [hm, this]
theorem Off.wipe {vs : List Nat} {σ σ' : L2.St} (h : Off vs σ σ') : L2.wipe σ' vs = L2.wipe σ vs := by
  apply List.ext_getElem?
  intro j
  rw [wipe_at, wipe_at, h.1]
  by_cases hj : j ∈ vs
  · by_cases hl : j < σ.length
    · rw [if_pos ⟨hj, hl⟩, if_pos ⟨hj, hl⟩]
    · rw [if_neg (fun z => hl z.2), if_neg (fun z => hl z.2), List.getElem?_eq_none (by rw [h.1]; omega), List.getElem?_eq_none (by omega)]
  · rw [if_neg (fun z => hj z.1), if_neg (fun z => hj z.1), h.2 j hj]
theorem wipe_wipe (σ : L2.St) (vs : List Nat) : L2.wipe (L2.wipe σ vs) vs = L2.wipe σ vs := by
  apply List.ext_getElem?
  intro j
  rw [wipe_at, wipe_at, wipe_length]
  by_cases hj : j ∈ vs ∧ j < σ.length
  · rw [if_pos hj, if_pos hj]
  · rw [if_neg hj, if_neg hj]
def lcD (mg : MG) (mt : Mir Bool) (me : Mir D) : List D → List Sl → M (List D)
  | [], _ => ret []
  | d :: ds, ls => match mg d ls with
    | none => stk
    | some ls1 => bnd (nox (mt ls1)) fun b => if b = true then bnd (nox (me ls1)) fun y => bnd (lcD mg mt me ds ls) fun ys => ret (y :: ys) else lcD mg mt me ds ls
def mLc (vs : List Nat) (mi : Mir (List D)) (mg : MG) (mt : Mir Bool) (me : Mir D) : Mir (List D) := fun ls => bnd (mi ls) fun ds => if ds.length ≤ sizeLine then lcD mg mt me ds (wipeL ls vs) else stk
theorem bnd_retR {α : Type} (m : M α) : (bnd m fun a => ret a) = m := by
  funext s
  unfold bnd
  cases m s <;> rfl
/-- the core: the reading of a comprehension -/
theorem lc_read {K : PySem.W.Frag} {wi : TI} {is vs : List Nat} {mi : Mir (List D)} {mg : MG} {mt : Mir Bool} {me : Mir D} {tg : TG} {tt : TT} {te : TE}
    (hi : ∀ (W : Wd) (H0 : Hp) (σ : L2.St) (B H : Hp) (ls : List Sl) (s : DS) (R : It → Hp → Prop), Kn W B H → W.ok s H → Sm G W K H0 B H σ ls → AnsI true W K B H (mi ls s) R (fun c d H' => Wx c d σ H') → wi σ H R)
    (hg : ∀ (W : Wd) (H0 : Hp) (σ : L2.St) (B H : Hp) (ls : List Sl) (s : DS) (v : V) (d : D) (Q : L2.St → Hp → Prop), Kn W B H → W.ok s H → Sm G W K H0 B H σ ls → Dv K B v d → AnsG G W K H0 B H s is σ (mg d ls) Q → tg v σ H Q)
    (ht : ∀ (W : Wd) (H0 : Hp) (σ : L2.St) (B H : Hp) (ls : List Sl) (s : DS) (Q : Bool → Hp → Prop), Kn W B H → W.ok s H → Sm G W K H0 B H σ ls → AnsB W K B H (mt ls s) Q (fun c d H' => W0 c d σ H') → tt σ H Q)
    (he : ∀ (W : Wd) (H0 : Hp) (σ : L2.St) (B H : Hp) (ls : List Sl) (s : DS) (Q : VK), Kn W B H → W.ok s H → Sm G W K H0 B H σ ls → Ans W K B H (me ls s) Q (fun c d H' => W0 c d σ H') → te σ H Q)
    (hv : ∀ j ∈ is, j ∈ vs) (W : Wd) (H0 : Hp) (σ : L2.St) (B H : Hp) (ls : List Sl) (s : DS) (Q : VK) (k : Kn W B H) (w : W.ok s H) (sm : Sm G W K H0 B H σ ls) (h : AnsL W K B H (mLc vs mi mg mt me ls s) Q (fun c d H' => Wx c d σ H')) : tLc wi tg tt te vs σ H Q := by
  refine hi W H0 σ B H ls s _ k w sm ?_
  unfold mLc at h
  cases e1 : mi ls s with
  | stuck => rw [bnd_stk e1] at h; exact h
  | exc C fs s' => rw [bnd_exc e1] at h; exact h
  | ok ds s1 =>
    rw [bnd_ok e1] at h
    intro J B1 H1 g1 w1 it Dd hD
    split at h
    · rename_i hlen
      have h := h.grow g1 ⟨_, w1⟩
      have sm1 := (sm.grow g1).wipe vs
      have nvD : ¬ W.vol Dd := fun v => by
        obtain ⟨o, e⟩ := w1.dom v
        rw [e] at hD
        cases hD
      have nbD : B1 Dd = none := none_of_kn g1.kn hD
      obtain ⟨Γ, Y, wk, hG, hY⟩ := it
      refine lc_it wk (fun i H' => ∃ B' s' us acc, Gr W B1 H1 B' H' ∧ W.ok s' H' ∧ H' Dd = some (.lst us) ∧ B' Dd = none ∧ DvL K B' us acc ∧ acc.length ≤ i ∧
          AnsL W K B1 H1 (bnd (lcD mg mt me (ds.drop i) (wipeL ls vs)) (fun ys => ret (acc ++ ys)) s') Q (fun c d H' => Wx c d σ H'))
        ⟨B1, s1, [], [], Gr.lay g1.kn hD, w1.st (sub_new hD), upd_same, nbD, .nil, Nat.le_refl _, by rw [List.drop_zero]; show AnsL W K B1 H1 ((bnd (lcD mg mt me ds (wipeL ls vs)) fun ys => ret ys) s1) Q _; rw [bnd_retR]; exact h⟩
        (fun i H' _ ⟨B', s', us, acc, g', _⟩ => hG B' H' g'.bb g'.kn (fun _ => g'.hh)) ?_ ?_
      · rintro i x H' H2 hlt ⟨B', s', us, acc, g', w', hp', hb', r', hl', a'⟩ y
        obtain ⟨B2, d, g2, w2, ed, r⟩ := hY i B' H' x H2 s' g'.bb g'.kn w' hlt y
        have hiz : acc.length < sizeLine := by omega
        rw [drop_at ed] at a'
        unfold lcD at a'
        have g12 := g'.trans g2
        refine hg W H0 (L2.wipe σ vs) B2 H2 (wipeL ls vs) s' x d _ g2.kn w2 (sm1.grow g12) r ?_
        cases e2 : mg d (wipeL ls vs) with
        | none => rw [e2] at a'; exact (show False from a').elim
        | some ls1 =>
          rw [e2] at a'
          intro σ3 B3 H3 g3 w3 sm3 off
          have g13 := g12.trans g3
          refine ⟨by rw [(off.mono hv).wipe, wipe_wipe], ?_⟩
          refine ht W H0 σ3 B3 H3 ls1 s' _ g3.kn w3 sm3 ?_
          have a' : AnsL W K B1 H1 (bnd (bnd (nox (mt ls1)) fun b => if b = true then bnd (nox (me ls1)) fun y => bnd (lcD mg mt me (ds.drop (i + 1)) (wipeL ls vs)) fun ys => ret (y :: ys) else lcD mg mt me (ds.drop (i + 1)) (wipeL ls vs)) (fun ys => ret (acc ++ ys)) s') Q (fun c d H' => Wx c d σ H') := a'
          rw [bnd_bnd] at a'
          cases e3 : mt ls1 s' with
          | stuck =>
            rw [bnd_stk (show nox (mt ls1) s' = .stuck by unfold nox; rw [e3])] at a'
            exact a'
          | exc C fs s4 =>
            rw [bnd_stk (show nox (mt ls1) s' = .stuck by unfold nox; rw [e3])] at a'
            exact (show False from a').elim
          | ok b s4 =>
            rw [bnd_ok (show nox (mt ls1) s' = .ok b s4 by unfold nox; rw [e3])] at a'
            intro B4 H4 g4 w4
            have g14 := g13.trans g4
            cases b with
            | false =>
              rw [if_neg (by decide)] at a' ⊢
              exact ⟨B4, s4, us, acc, g14, w4, ((g2.trans g3).trans g4).hh Dd _ nvD hp', by rw [((g2.trans g3).trans g4).nw Dd _ hp']; exact hb', r'.mono ((g2.trans g3).trans g4).bb, by omega, a'⟩
            | true =>
              rw [if_pos rfl] at a' ⊢
              rw [bnd_bnd] at a'
              refine he W H0 σ3 B4 H4 ls1 s4 _ g4.kn w4 (sm3.grow g4) ?_
              cases e5 : me ls1 s4 with
              | stuck =>
                rw [bnd_stk (show nox (me ls1) s4 = .stuck by unfold nox; rw [e5])] at a'
                exact a'
              | exc C fs s5 =>
                rw [bnd_stk (show nox (me ls1) s4 = .stuck by unfold nox; rw [e5])] at a'
                exact (show False from a').elim
              | ok z s5 =>
                rw [bnd_ok (show nox (me ls1) s4 = .ok z s5 by unfold nox; rw [e5])] at a'
                intro v B5 H5 g5 w5 r5
                have g25 := ((g2.trans g3).trans g4).trans g5
                have hp5 := g25.hh Dd _ nvD hp'
                have hb5 : B5 Dd = none := by rw [g25.nw Dd _ hp']; exact hb'
                refine ⟨us, hp5, by rw [r'.len]; exact hiz, B5, s5, us ++ [v], acc ++ [z], ?_, w5.chg nvD hp5, upd_same, hb5, (r'.mono g25.bb).app (.cons r5 .nil), by simp; omega, ?_⟩
                · exact (g14.trans g5).chg nvD hD hb5
                · rw [bnd_bnd] at a'
                  have e6 : (fun ys => ret (acc ++ [z] ++ ys) : List D → M (List D)) = fun ys => bnd (ret (z :: ys)) fun ys => ret (acc ++ ys) := by
                    funext ys
                    rw [bnd_ret, List.append_assoc]
                    rfl
                  rw [e6]
                  exact a'
      · rintro H' ⟨B', s', us, acc, g', w', hp', hb', r', hl', a'⟩
        rw [List.drop_length] at a'
        have a' : AnsL W K B1 H1 (.ok (acc ++ []) s') Q (fun c d H' => Wx c d σ H') := a'
        rw [List.append_nil] at a'
        exact a' Dd us B' H' g' w' hD nvD hb' hp' r'
    · exact h.elim
/-- one reading for all contexts of a block -/
theorem PG.imp {t t' : TG} (h : PG X tg t) (q : ∀ v σ H Q, t' v σ H Q → t v σ H Q) : PG X tg t' := ⟨fun pins s σ H v u Q I r z => h.run pins s σ H v u Q I r (q v σ H Q z)⟩
theorem PE.imp {t t' : TE} (h : PE X e t) (q : ∀ σ H Q, t' σ H Q → t σ H Q) : PE X e t' := ⟨fun pins s σ H Q I z => h.run pins s σ H Q I (q σ H Q z)⟩
theorem PTs.imp {ifs : List Expr} {t t' : TT} (h : PTs X ifs t) (q : ∀ σ H Q, t' σ H Q → t σ H Q) : PTs X ifs t' := ⟨fun pins s σ H Q I z => h.run pins s σ H Q I (q σ H Q z)⟩
def SndG (G : Gd) (K : PySem.W.Frag) (is : List Nat) (mg : MG) (t : TG) : Prop := ∀ (W : Wd) (H0 : Hp) (σ : L2.St) (B H : Hp) (ls : List Sl) (s : DS) (v : V) (d : D) (Q : L2.St → Hp → Prop), Kn W B H → W.ok s H → Sm G W K H0 B H σ ls → Dv K B v d → AnsG G W K H0 B H s is σ (mg d ls) Q → t v σ H Q
def SndT (G : Gd) (K : PySem.W.Frag) (mt : Mir Bool) (t : TT) : Prop := ∀ (W : Wd) (H0 : Hp) (σ : L2.St) (B H : Hp) (ls : List Sl) (s : DS) (Q : Bool → Hp → Prop), Kn W B H → W.ok s H → Sm G W K H0 B H σ ls → AnsB W K B H (mt ls s) Q (fun c d H' => W0 c d σ H') → t σ H Q
def SndE (G : Gd) (K : PySem.W.Frag) (me : Mir D) (t : TE) : Prop := ∀ (W : Wd) (H0 : Hp) (σ : L2.St) (B H : Hp) (ls : List Sl) (s : DS) (Q : VK), Kn W B H → W.ok s H → Sm G W K H0 B H σ ls → Ans W K B H (me ls s) Q (fun c d H' => W0 c d σ H') → t σ H Q
def allG (G : Gd) (K : PySem.W.Frag) (is : List Nat) (mg : MG) : TG := fun v σ H Q => ∀ t, SndG G K is mg t → t v σ H Q
def allT (G : Gd) (K : PySem.W.Frag) (mt : Mir Bool) : TT := fun σ H Q => ∀ t, SndT G K mt t → t σ H Q
def allE (G : Gd) (K : PySem.W.Frag) (me : Mir D) : TE := fun σ H Q => ∀ t, SndE G K me t → t σ H Q
theorem SG.all {is : List Nat} {mg : MG} (h : SG G X tg is mg) : PG X tg (allG G X.K is mg) := by
  obtain ⟨t, pt, ht⟩ := h.ex
  exact PG.imp pt fun v σ H Q z => z t ht
theorem STs.all {ifs : List Expr} {mt : Mir Bool} (h : STs G X W0 ifs mt) : PTs X ifs (allT G X.K mt) := by
  obtain ⟨t, pt, ht⟩ := h.ex
  exact PTs.imp pt fun σ H Q z => z t ht
theorem SE.all (h : SE G X W0 e me) : PE X e (allE G X.K me) := by
  obtain ⟨t, pt, ht⟩ := h.ex
  exact PE.imp pt fun σ H Q z => z t ht
theorem sl_lc {elt iter : Expr} {ifs : List Expr} {scope : Scope} {own : List (Str × Nat)} {is : List Nat} {mi : Mir (List D)} {mg : MG} {mt : Mir Bool} (hc : X.calm = true) (hN : X.N.Nodup) (hi : SI G X Wx true tg iter mi) (ok : BlkOk X.N X.env.scope scope own)
    (hg : ∀ (s : Shared) (H : Hp) (C : Addr) (cl : List (Str × Addr)) (fp : List Addr), SG G (X.blk s H scope (compEnvC scope cl C X.env) fp) tg is mg) (ht : ∀ (s : Shared) (H : Hp) (C : Addr) (cl : List (Str × Addr)) (fp : List Addr), STs G (X.blk s H scope (compEnvC scope cl C X.env) fp) W0 ifs mt)
    (he : ∀ (s : Shared) (H : Hp) (C : Addr) (cl : List (Str × Addr)) (fp : List Addr), SE G (X.blk s H scope (compEnvC scope cl C X.env) fp) W0 elt me) (hv : ∀ j ∈ is, j ∈ own.map (·.2) := by decide) (hs : ∀ x, foldedSetIterable iter X.env x = pure x := by intro _; rfl) :
    SL G X Wx (.ListComp elt [⟨tg, iter, ifs, 0⟩] scope pos) (mLc (own.map (·.2)) mi mg mt me) := by
  obtain ⟨wi, pi, hi⟩ := hi.ex
  refine ⟨_, pe_lc (g := allG G X.K is mg) (tt := allT G X.K mt) (te := allE G X.K me) hc hN pi ok (fun s H C cl fp => (hg s H C cl fp).all) (fun s H C cl fp => (ht s H C cl fp).all) (fun s H C cl fp => (he s H C cl fp).all) hs, ?_⟩
  exact lc_read (tg := allG G X.K is mg) (tt := allT G X.K mt) (te := allE G X.K me) hi (fun W H0 σ B H ls s v d Q k w sm r h t z => z W H0 σ B H ls s v d Q k w sm r h)
    (fun W H0 σ B H ls s Q k w sm h t z => z W H0 σ B H ls s Q k w sm h) (fun W H0 σ B H ls s Q k w sm h t z => z W H0 σ B H ls s Q k w sm h) hv
/-- x = [..] on one line -/
theorem setLc_core {i : Nat} {y : Str} {py : Pos} {elt iter : Expr} {ifs : List Expr} {scope : Scope} {own : List (Str × Nat)} {is : List Nat} {mi : Mir (List D)} {mg : MG} {mt : Mir Bool} {spos : Pos} (hc : X.calm = true) (hN : X.N.Nodup) (hy : X.N[i]? = some y) (hyl : X.env.scope.names.lookup y = some .local)
    (hsw : swapsWith (.ListComp elt [⟨tg, iter, ifs, 0⟩] scope pos) (some (.Name y py)) spos.line X.env = pure true) (hi : SI G X Wx true tg iter mi) (ok : BlkOk X.N X.env.scope scope own)
    (hg : ∀ (s : Shared) (H : Hp) (C : Addr) (cl : List (Str × Addr)) (fp : List Addr), SG G (X.blk s H scope (compEnvC scope cl C X.env) fp) tg is mg) (ht : ∀ (s : Shared) (H : Hp) (C : Addr) (cl : List (Str × Addr)) (fp : List Addr), STs G (X.blk s H scope (compEnvC scope cl C X.env) fp) W0 ifs mt)
    (he : ∀ (s : Shared) (H : Hp) (C : Addr) (cl : List (Str × Addr)) (fp : List Addr), SE G (X.blk s H scope (compEnvC scope cl C X.env) fp) W0 elt me) (hv : ∀ j ∈ is, j ∈ own.map (·.2)) (hs : ∀ x, foldedSetIterable iter X.env x = pure x) :
    ∃ t, PS X (.Assign [.Name y py] (.ListComp elt [⟨tg, iter, ifs, 0⟩] scope pos) spos) (tAsg t (gName i)) ∧ ∀ (W : Wd) (H0 : Hp) (σ : L2.St) (B H : Hp) (ls : List Sl) (s : DS) (Q : VK), Kn W B H → W.ok s H → Sm G W X.K H0 B H σ ls → AnsL W X.K B H (mLc (own.map (·.2)) mi mg mt me ls s) Q (fun c d H' => Wx c d σ H') → t σ H Q := by
  obtain ⟨wi, pi, hi⟩ := hi.ex
  refine ⟨_, ps_setLc (g := allG G X.K is mg) (tt := allT G X.K mt) (te := allE G X.K me) hc hN hy hyl hsw pi ok (fun s H C cl fp => (hg s H C cl fp).all) (fun s H C cl fp => (ht s H C cl fp).all) (fun s H C cl fp => (he s H C cl fp).all) hs, ?_⟩
  exact lc_read (tg := allG G X.K is mg) (tt := allT G X.K mt) (te := allE G X.K me) hi (fun W H0 σ B H ls s v d Q k w sm r h t z => z W H0 σ B H ls s v d Q k w sm r h)
    (fun W H0 σ B H ls s Q k w sm h t z => z W H0 σ B H ls s Q k w sm h) (fun W H0 σ B H ls s Q k w sm h t z => z W H0 σ B H ls s Q k w sm h) hv
theorem ss_setLcO {i : Nat} {y : Str} {py : Pos} {elt iter : Expr} {ifs : List Expr} {scope : Scope} {own : List (Str × Nat)} {is : List Nat} {mi : Mir (List D)} {mg : MG} {mt : Mir Bool} {spos : Pos} (hc : X.calm = true) (hN : X.N.Nodup) (hsw : swapsWith (.ListComp elt [⟨tg, iter, ifs, 0⟩] scope pos) (some (.Name y py)) spos.line X.env = pure true) (hi : SI G X Wx true tg iter mi) (ok : BlkOk X.N X.env.scope scope own)
    (hg : ∀ (s : Shared) (H : Hp) (C : Addr) (cl : List (Str × Addr)) (fp : List Addr), SG G (X.blk s H scope (compEnvC scope cl C X.env) fp) tg is mg) (ht : ∀ (s : Shared) (H : Hp) (C : Addr) (cl : List (Str × Addr)) (fp : List Addr), STs G (X.blk s H scope (compEnvC scope cl C X.env) fp) W0 ifs mt)
    (he : ∀ (s : Shared) (H : Hp) (C : Addr) (cl : List (Str × Addr)) (fp : List Addr), SE G (X.blk s H scope (compEnvC scope cl C X.env) fp) W0 elt me) (hv : ∀ j ∈ is, j ∈ own.map (·.2) := by decide) (hy : X.N[i]? = some y := by rfl) (hyl : X.env.scope.names.lookup y = some .local := by rfl) (hs : ∀ x, foldedSetIterable iter X.env x = pure x := by intro _; rfl) :
    SS G X Wx (.Assign [.Name y py] (.ListComp elt [⟨tg, iter, ifs, 0⟩] scope pos) spos) (fun ls => bnd (mLc (own.map (·.2)) mi mg mt me ls) fun ds => ret (.nx (ls.set i (.ow ds)))) := by
  obtain ⟨t, pt, ht⟩ := setLc_core hc hN hy hyl hsw hi ok hg ht he hv hs
  refine ⟨_, pt, fun W B0 H0 σ B H ls s D g w sm h => ?_⟩
  refine ht W H0 σ B H ls s _ g.kn w sm (h.bindL g fun ds s' p vs B1 H1 g1 g2 w1 hn nv hb hp r1 h1 => ?_)
  have h0 : H0 p = none := by
    cases e : H0 p with
    | none => rfl
    | some o =>
      rw [g.hh p o nv e] at hn
      cases hn
  exact h1 _ B1 H1 g2 w1 ((sm.grow g1).set_ow nv h0 hp hb r1 (fun j es ej => sm.fresh hn j es ej))
theorem ss_setLc {i : Nat} {y : Str} {py : Pos} {elt iter : Expr} {ifs : List Expr} {scope : Scope} {own : List (Str × Nat)} {is : List Nat} {mi : Mir (List D)} {mg : MG} {mt : Mir Bool} {spos : Pos} (hc : X.calm = true) (hN : X.N.Nodup) (hsw : swapsWith (.ListComp elt [⟨tg, iter, ifs, 0⟩] scope pos) (some (.Name y py)) spos.line X.env = pure true) (hi : SI G X Wx true tg iter mi) (ok : BlkOk X.N X.env.scope scope own)
    (hg : ∀ (s : Shared) (H : Hp) (C : Addr) (cl : List (Str × Addr)) (fp : List Addr), SG G (X.blk s H scope (compEnvC scope cl C X.env) fp) tg is mg) (ht : ∀ (s : Shared) (H : Hp) (C : Addr) (cl : List (Str × Addr)) (fp : List Addr), STs G (X.blk s H scope (compEnvC scope cl C X.env) fp) W0 ifs mt)
    (he : ∀ (s : Shared) (H : Hp) (C : Addr) (cl : List (Str × Addr)) (fp : List Addr), SE G (X.blk s H scope (compEnvC scope cl C X.env) fp) W0 elt me) (hv : ∀ j ∈ is, j ∈ own.map (·.2) := by decide) (hy : X.N[i]? = some y := by rfl) (hyl : X.env.scope.names.lookup y = some .local := by rfl) (hs : ∀ x, foldedSetIterable iter X.env x = pure x := by intro _; rfl) :
    SS G X Wx (.Assign [.Name y py] (.ListComp elt [⟨tg, iter, ifs, 0⟩] scope pos) spos) (fun ls => bnd (mLc (own.map (·.2)) mi mg mt me ls) fun ds => ret (.nx (ls.set i (.va (.lst ds))))) := by
  obtain ⟨t, pt, ht⟩ := setLc_core hc hN hy hyl hsw hi ok hg ht he hv hs
  refine ⟨_, pt, fun W B0 H0 σ B H ls s D g w sm h => ?_⟩
  refine ht W H0 σ B H ls s _ g.kn w sm (h.bindL g fun ds s' p vs B1 H1 g1 g2 w1 hn nv hb hp r1 h1 => ?_)
  have h0 : H0 p = none := by
    cases e : H0 p with
    | none => rfl
    | some o =>
      rw [g.hh p o nv e] at hn
      cases hn
  have hs : Sub B1 (upd B1 p (.lst vs)) := sub_new hb
  have gg : Gr W B H (upd B1 p (.lst vs)) H1 := ⟨fun a o z => by
    by_cases ha : a = p
    · subst ha
      rw [upd_same] at z
      cases z
      exact ⟨nv, hp⟩
    · rw [upd_ne ha] at z
      exact g1.kn a o z, g1.bb.trans hs, g1.hh, fun a o z => by
      rw [upd_ne (ne_of_none z hn)]
      exact g1.nw a o z⟩
  exact h1 _ (upd B1 p (.lst vs)) H1 (g.trans gg) w1 ((sm.grow gg).set_va (.lst upd_same (r1.mono hs)))
end
end PV
set_option maxHeartbeats 4000000
/-! Defs and their calls. -/
namespace PV
open PySem L2
variable {G : Gd}
/-- a def does what m says -/
def spM (K : PySem.W.Frag) (T : List NdefX.NTab) (n : Nat) (m : List D → M D) : Sp := fun vs H Q E => vs.length = n ∧ ∃ (W : Wd) (B : Hp) (s : DS) (ds : List D), W.tb = T ∧ Kn W B H ∧ W.ok s H ∧ DvL K B vs ds ∧ Ans W K B H (m ds s) Q E
def argL (n : Nat) (ds : List D) : List Sl := ds.map Sl.va ++ List.replicate (n - ds.length) Sl.un
def endF (f : Fl) : M D := match f with
  | .rt d => ret d
  | .nx _ => ret .non
  | _ => stk
/-- a def by its body: n names -/
def runF (n : Nat) (mb : MS) : List D → M D := fun ds => bnd (mb (argL n ds)) endF
theorem DvL.sm {W : Wd} {K : PySem.W.Frag} {H0 B H : Hp} {N : List Str} {vs : List V} {ds : List D} (r : DvL K B vs ds) (hl : vs.length ≤ N.length) (gd : G.p W B H ∧ W.tb = G.tb) : Sm G W K H0 B H (L2.start N vs) (argL N.length ds) := by
  have el := r.len
  refine ⟨?_, fun i x e => ?_, fun i j es fs p _ e _ _ => ?_, gd⟩
  · simp [L2.start, argL, el]
  · unfold argL at e
    unfold L2.start
    by_cases hi : i < ds.length
    · rw [List.getElem?_append_left (by simpa using hi), List.getElem?_map, List.getElem?_eq_getElem hi] at e
      cases e
      obtain ⟨v, e1, q⟩ := r.getD (List.getElem?_eq_getElem hi)
      refine ⟨some v, ?_, v, rfl, q⟩
      rw [List.getElem?_append_left (by simp; omega), List.getElem?_map, e1]
      rfl
    · rw [List.getElem?_append_right (by simp; omega)] at e
      have hx : x = .un := by
        have := List.mem_of_getElem? e
        exact (List.mem_replicate.mp this).2
      subst hx
      have hlt : i < N.length := by
        have := (List.getElem?_eq_some_iff.mp e).1
        simp at this
        omega
      refine ⟨none, ?_, trivial⟩
      rw [List.getElem?_append_right (by simp; omega), List.getElem?_replicate, if_pos (by simp; omega)]
  · unfold argL at e
    by_cases hi : i < ds.length
    · rw [List.getElem?_append_left (by simpa using hi), List.getElem?_map, List.getElem?_eq_getElem hi] at e
      cases e
    · rw [List.getElem?_append_right (by simp; omega)] at e
      have := List.mem_of_getElem? e
      cases (List.mem_replicate.mp this).2
section
variable {P : Program} {w : World} {K : PySem.W.Frag} {mg : Str → Option Value} {base : Heap} {x qual : Str} {params : Arguments} {body : List Stmt} {scope : Scope} {dvs : List V} {kws : List (Str × V)} {f : Addr} {fd : FuncData}
abbrev EW (E : XK) : WX := fun c d _ H => E c d H
/-- the body's reading meets the promise -/
theorem body_ok {X : Cx} {N : List Str} {E : XK} {mb : MS} {t : TS} {vs : List V} {ds : List D} {H B : Hp} {s : DS} {W : Wd} {Q : VK} (hl : vs.length ≤ N.length) (kn : Kn W B H) (wk : W.ok s H) (r : DvL X.K B vs ds) (gd : G.p W B H ∧ W.tb = G.tb)
    (a : Ans W X.K B H (runF N.length mb ds s) Q E) (ht : ∀ (W : Wd) (B0 H0 : Hp) (σ : L2.St) (B H : Hp) (ls : List Sl) (s : DS) (D : Ends), Gr W B0 H0 B H → W.ok s H → Sm G W X.K H0 B H σ ls → AnsS G W X.K (EW E) B0 H0 (mb ls s) D → t D σ H) :
    t { nx := fun _ H' => Q .non H', rt := Q } (L2.start N vs) H := by
  refine ht W B H (L2.start N vs) B H (argL N.length ds) s _ (Gr.refl kn) wk (r.sm hl gd) ?_
  unfold runF at a
  cases e : mb (argL N.length ds) s with
  | stuck => rw [bnd_stk e] at a; exact a
  | exc C fs s' =>
    rw [bnd_exc e] at a
    exact fun od σ B' H' g w x => a od B' H' g w x
  | ok f s' =>
    rw [bnd_ok e] at a
    cases f with
    | nx ls => exact fun σ B' H' g w sm => a .non B' H' g w .non
    | rt d => exact fun v B' H' g w r => a v B' H' g w r
    | bk ls => exact (show False from a).elim
    | ct ls => exact (show False from a).elim
end
section
variable {X : Cx} {Wx : WX} {e : Expr} {es : List Expr} {ms : Mir (List D)} {pos p : Pos}
def callD (n : Nat) (m : List D → M D) (ds : List D) : M D := if ds.length = n then m ds else stk
theorem call_read {t : TA} {n : Nat} {m : List D → M D} (ht : ∀ (W : Wd) (H0 : Hp) (σ : L2.St) (B H : Hp) (ls : List Sl) (s : DS) (Q : List V → Hp → Prop), Kn W B H → W.ok s H → Sm G W X.K H0 B H σ ls → AnsA W X.K B H (ms ls s) Q (fun c d H' => Wx c d σ H') → t σ H Q)
    (W : Wd) (H0 : Hp) (σ : L2.St) (B H : Hp) (ls : List Sl) (s : DS) (Q : VK) (k : Kn W B H) (w : W.ok s H) (sm : Sm G W X.K H0 B H σ ls) (h : Ans W X.K B H (bnd (ms ls) (callD n m) s) Q (fun c d H' => Wx c d σ H')) :
    t σ H fun vs H1 => spM X.K G.tb n m vs H1 Q (fun c d H' => Wx c d σ H') := by
  refine ht W H0 σ B H ls s _ k w sm ?_
  cases e1 : ms ls s with
  | stuck => rw [bnd_stk e1] at h; exact h
  | exc C fs s' => rw [bnd_exc e1] at h; exact h
  | ok ds s1 =>
    rw [bnd_ok e1] at h
    intro vs B1 H1 g1 w1 r1
    have h := h.grow g1
    unfold callD at h
    split at h
    · rename_i hl
      exact ⟨by rw [r1.len]; exact hl, W, B1, s1, ds, sm.gd.2, g1.kn, w1, r1, h⟩
    · exact h.elim
end
end PV
set_option maxHeartbeats 4000000
/-! An own exception class whose __init__ says super().__init__(text) and stores its arguments: the raw steps. -/
namespace PV
open PySem PySem.W PySem.Calls PyProof.Rows L2
variable {G : Gd}
/-- what is written of such a class: B its built-in base -/
structure XC (K : Frag) (C : Addr) (B newId initId : String) (bmB : List Value) : Prop where
  fb : ExcBaseFacts B newId initId bmB
  kx : KxsFacts B initId
  st : ∀ self, refuseLoop self "__setattr__" bmB = pure ()
  ob : bmB.contains (.type "object") = true
  cls : ∃ nm q N bs bm sn sub ab col dd k0 k1 k2 k3 k5, K.lookup C = some (excClassObj nm q C N bs bm true sn sub ab col dd k0 k1 k2 k3 k5 newId) ∧ excTail bmB bm = true
  sa : findIn K (.ref C) "__setattr__" = some (some (.builtin "object.__setattr__"))
  sup : ks_superIn K C C "__init__" = some (some (.builtin initId))
  subB : subIn K (.ref C) (.type B) = some true
  subC : subIn K (.ref C) (.ref C) = some true
  opq : nsIn K cStatics "thirdparty.any" = some none
  exC : subIn K (.ref C) (.type "BaseException") = some true
  tyC : typeIn K (.ref C) = some (.type "type")
  kC : keepIn K (.ref C) = true
section
variable {prog : Program} {w : World} {A : Around} {E : Value → Shared → Prop} {R : Result → Shared → Prop} {hp : Heap} {g : Array GenState} {d : Drawn} {t : Nat} {os : OsState} {K : Frag} {C : Addr} {B newId initId : String} {bmB : List Value}
theorem XC.cd (T : XC K C B newId initId bmB) : ∃ cd : ClassData, clsIn K C = some cd ∧ cd.hasDict = true ∧ (∃ bm, cd.mro = .ref C :: bm) ∧ (∀ self, refuseLoop self "__setattr__" cd.mro = pure ()) ∧ cd.mro.contains (.type "object") = true := by
  obtain ⟨nm, q, N, bs, bm, sn, sub, ab, col, dd, k0, k1, k2, k3, k5, hC, ht⟩ := T.cls
  have hm : excTail bmB (.ref C :: bm) = true := ht
  exact ⟨{ name := nm, bases := bs, mro := .ref C :: bm, ns := N, qualname := q, hasDict := true, slotNames := sn, subclasses := sub, abstract := ab, collection := col, hasDel := false }, by unfold clsIn; rw [hC] <;> rfl, rfl, ⟨bm, rfl⟩,
    fun self => excTail_pass self (T.st self) _ hm, (excTail_contains "object" _ hm).trans T.ob⟩
/-- the way to the own dict -/
theorem osaG {name : Str} {tk : Tok} {v : Value} {x : Addr} {ox : Obj} {od : Option Obj} (T : XC K C B newId initId bmB) (X : K.In hp) (I : InstAt hp x ox C od) (ha : findIn K (.ref C) name = some none)
    (hq : wpAny (model prog w) A.in1 (Builtin.ObjectAttr.storeInOwnDict (.ref x) (.ref C) (.str name tk) name v false)
      (fun fin s' => match fin with | .done f => R (.ok f) s' | .again c' => c'.quiet = true ∧ codeAny (model prog w) A c' R s') (fun e s' => R (.error e) s') ⟨hp, g, d, t, os⟩) :
    codeAny (model prog w) A (.call (.builtin "object.__setattr__") ⟨[.ref x, .str name tk, v], []⟩) R ⟨hp, g, d, t, os⟩ := by
  obtain ⟨cd, hcd, hh, ⟨bm, em⟩, pass, hob⟩ := T.cd
  have SF := F.store_object
  have isO : Looks (model prog w) hp (isInstance (.ref x) (.type "object")) true := I.type.andThen (looks_mroIn X (by
    unfold mroIn
    rw [hcd, Option.bind_some, if_neg (by rw [em]; exact Bool.false_ne_true), hob]))
  refine codeAny_call_builtin SF.slot.plain SF.entry (@check_slot (model prog w) _ _ ⟨hp, g, d, t, os⟩ "object.__setattr__" "object" "__setattr__" (.ref x) [.str name tk, v] [] _ SF.kind SF.split isO (SF.args (.ref x) (.str name tk) v) ?_)
  have m1 : Looks (model prog w) hp (mroOf (.ref C)) cd.mro := (looks_clsIn X hcd).andThen .now
  have m2 : Looks (model prog w) hp (Builtin.ObjectAttr.storeTaker? none) none := .now
  rw [osa_eq, refuse_eq]
  refine wpAny_bind (wpAny_bind (I.type.at (wpAny_bind (m1.at ?_))))
  rw [pass]
  exact wpAny_pure (wpAny_bind (I.type.at (wpAny_bind ((looks_findIn X ha).at (wpAny_bind (m2.at hq))))))
/-- the first field -/
theorem osaG_new {name : Str} {tk : Tok} {v : Value} {x : Addr} {fv : Array Value} (T : XC K C B newId initId bmB) (X : K.In hp) (hx : hp.get? x = some { cls := .ref C, data := .fields fv }) (ha : findIn K (.ref C) name = some none)
    (hq : ∀ h' tk' dx, (∀ b o, b ≠ x → hp.get? b = some o → h'.get? b = some o) → hp.objs.size ≤ dx → dx ≠ x → h'.get? x = some { cls := .ref C, dict := some dx, data := .fields fv } →
      h'.Ns1 dx (fun y => if y = name then some v else none) → R (.ok (.ret .none)) ⟨h', g, d, tk', os⟩) :
    codeAny (model prog w) A (.call (.builtin "object.__setattr__") ⟨[.ref x, .str name tk, v], []⟩) R ⟨hp, g, d, t, os⟩ := by
  obtain ⟨cd, hcd, hh, _⟩ := T.cd
  have below : x ≠ hp.objs.size := Nat.ne_of_lt (Heap.lt_size hx)
  refine osaG T X (ox := { cls := .ref C, data := .fields fv }) (od := none) ⟨hx, rfl, rfl, trivial⟩ ha ?_
  have lc : Looks (model prog w) hp (classData C) cd := looks_clsIn X hcd
  obtain ⟨nm, bs, mro, ns, qn, hd, sn, sb, ab, col, del⟩ := cd
  dsimp only at hh
  subst hh
  unfold Builtin.ObjectAttr.storeInOwnDict Builtin.ObjectAttr.ownDictForStores
  repeat (first | with_reducible refine HandSPX.store_in_new ?_ ?_ | with_reducible refine wpAny_loadPart_at hx ?_ | with_reducible refine lc.at ?_ | wp_step)
  · exact ⟨_, #[], _, (Heap.get?_update_ne _ _ _ _ below.symm).trans (Heap.get?_push_at rfl rfl), rfl, fun e he => absurd he (by simp), fun _ => rfl⟩
  · intro h' tk' hn' hs
    refine hq h' tk' hp.objs.size (fun b o hb ho => ?_) (Nat.le_refl _) below.symm ?_ hn'
    · exact (hs.2 b (Nat.ne_of_lt (Heap.lt_size ho))).trans ((Heap.get?_update_ne _ _ _ _ hb).trans (Heap.get?_push_of_some _ ho))
    · exact (hs.2 x below).trans (Heap.get?_update_self _ (Heap.get?_push_of_some _ hx) rfl)
/-- a further field -/
theorem osaG_old {name : Str} {tk : Tok} {v : Value} {x dx : Addr} {fv : Array Value} {m0 : Str → Option Value} {nl : List Str} (T : XC K C B newId initId bmB) (X : K.In hp) (hx : hp.get? x = some { cls := .ref C, dict := some dx, data := .fields fv })
    (hns : hp.Ns1 dx m0) (hw : Within m0 nl) (hz : nl.length ≤ 1000) (ha : findIn K (.ref C) name = some none)
    (hq : ∀ h' tk', (∀ b o, b ≠ dx → hp.get? b = some o → h'.get? b = some o) → h'.Ns1 dx (fun y => if y = name then some v else m0 y) → R (.ok (.ret .none)) ⟨h', g, d, tk', os⟩) :
    codeAny (model prog w) A (.call (.builtin "object.__setattr__") ⟨[.ref x, .str name tk, v], []⟩) R ⟨hp, g, d, t, os⟩ := by
  obtain ⟨cd, hcd, hh, _⟩ := T.cd
  obtain ⟨oD, esD, epD, hoD, _⟩ := hns.count hw
  refine osaG T X (ox := { cls := .ref C, dict := some dx, data := .fields fv }) (od := some oD) ⟨hx, rfl, rfl, hoD⟩ ha ?_
  have lc : Looks (model prog w) hp (classData C) cd := looks_clsIn X hcd
  obtain ⟨nm, bs, mro, ns, qn, hd, sn, sb, ab, col, del⟩ := cd
  dsimp only at hh
  subst hh
  unfold Builtin.ObjectAttr.storeInOwnDict Builtin.ObjectAttr.ownDictForStores
  repeat (first | with_reducible refine OEX.store_in_old hns hw hz ?_ | with_reducible refine wpAny_loadPart_at hx ?_ | with_reducible refine lc.at ?_ | wp_step)
  exact fun h' tk' hn' hs => hq h' tk' (fun b o hb ho => (hs.2 b hb).trans ho) hn'
/-- the built-in __init__, bound to the exception x, is called -/
theorem bound_init {u x t0 : Addr} {dd : Option Addr} {rest : List Value} {Q : Value → Shared → Prop} (T : XC K C B newId initId bmB) (X : K.In hp) (hu : hp.get? u = some (kxs_mw initId x)) (hx : hp.get? x = some (excObj C t0 dd .none)) (hz : rest.length ≤ sizeLine)
    (hq : ∀ h' t1, (∀ b o, b ≠ x → hp.get? b = some o → h'.get? b = some o) → h'.get? x = some (excObj C t1 dd .none) → Q .none ⟨h', g, d, t, os⟩) :
    wpAny (model prog w) A (call (.ref u) rest) Q E ⟨hp, g, d, t, os⟩ := by
  obtain ⟨nm, q, N, bs, bm, sn, sub, ab, col, dc, k0, k1, k2, k3, k5, hC, ht⟩ := T.cls
  refine wpAny_call (codeAny_of_tree ?_)
  show wpAny (model prog w) A.in1 (callAny (.ref u) ⟨rest, []⟩) _ _ _
  simp only [callAny]
  refine wpAny_bind (wpAny_load hu ?_)
  have y1 : (Value.type "method-wrapper" == Value.type "method" || Value.type "method-wrapper" == Value.type "builtin_function_or_method" || Value.type "method-wrapper" == Value.type "method-wrapper") = true := by decide
  simp only [kxs_mw, y1, if_true]
  refine KFB.if_so (by decide) ?_
  refine wpAny_bind (check_bound_init T.fb.toExcCallFacts (X _ _ hC) hx rfl (wpAny_bind (wpAny_pure (wpAny_pure ?_))))
  refine ⟨plainId_quiet T.fb.init.plain _, codeAny_builtin T.fb.initEntry ?_⟩
  exact exc_init_tree (cls := .ref C) (t0 := t0) (dv := dd) (c2 := .none) (c3 := .none) (b4 := .bool false) hx hz fun h' k e' _ => hq h' _ k e'
theorem super_init {x t0 : Addr} {body : List Stmt} {env : Env} {p0 p1 p2 p3 pos : Pos} {msg : Str} {j : Nat} {f cc : Addr} {of oc : Obj} {fd : FuncData} {ar : Arg} {vs : Array Value} {file : Str} {tf : Tok} {m : Str → Option Value} {cca : Addr} {Q : Value → Shared → Prop} {s : Shared} {pl : Sem Bool}
    (T : XC K C B newId initId bmB) (X : K.In s.heap) (hks : env.kindOf "super" = some .globalImplicit) (hkc : env.kindOf "__class__" = some .free) (hkk : env.scope.kind = .function) (hfu : env.func = some f) (hf : s.heap.get? f = some of) (hfd : of.data = .func fd)
    (hp_ : (fd.params.posonlyargs ++ fd.params.args).head? = some ar) (hco : env.code = .ref cc) (hcc : s.heap.get? cc = some oc) (hoc : oc.data = .fields vs) (hvs : vs[2]? = some (.str file tf))
    (hfile : ((prog.main.file : Str) == file) = true) (htop : (prog.main.scope.names.lookup ("super" : Str)).isSome = false)
    (hsup : ∀ {Q : Value → Shared → Prop}, Q (.type "super") s → wpAny (model prog w) A (loadGlobal env "super") Q E s)
    (hcell : env.cells.lookup ("__class__" : Str) = some cca) (hca : s.heap.IsCell cca (some (.ref C))) (hns : s.heap.Ns env.locals m) (hself : m ar.arg = some (.ref x)) (hks2 : env.kindOf ar.arg = some .local)
    (hx : s.heap.get? x = some (excObj C t0 none .none))
    (hq : ∀ h' t1 tk, (∀ b o, b ≠ x → s.heap.get? b = some o → h'.get? b = some o) → h'.get? x = some (excObj C t1 none .none) → Q .none { s with heap := h', toks := tk })
    (he : eval (.Call (.Attribute (.Call (.Name "super" p0) [] [] p1) "__init__" p2) [.Constant (.str msg) j p3] [] pos) env = (do
      let ov ← attributeBase (.Call (.Name "super" p0) [] [] p1) "__init__" env (eval (.Call (.Name "super" p0) [] [] p1) env)
      standAt p2.atName
      let (f, first) ← holding [ov] (getMethod ov "__init__" pl)
      callWith pos f first (backTo pos (starEach [.Constant (.str msg) j p3] env)) [])) :
    PySem.wpAt (model prog w) A (.func body env) (eval (.Call (.Attribute (.Call (.Name "super" p0) [] [] p1) "__init__" p2) [.Constant (.str msg) j p3] [] pos) env) Q E s := by
  obtain ⟨nm, q, N, bs, bm, sn, sub, ab, col, dc, k0, k1, k2, k3, k5, hC, ht⟩ := id T.cls
  obtain ⟨cd, hcd, hh, ⟨bm', em⟩, pass, hob⟩ := T.cd
  refine ks_wpAt_MethodCall (pl := pl) ?_ he
  refine ks_wpAt_super_base hks hkc (by decide +kernel) hfu hf hfd hp_ hco hcc hoc hvs hfile htop ?_
  refine ks_loadName_global hkk hks (hsup ⟨rfl, ?_⟩)
  refine wpAny_loadName_free hkk hkc hcell hca ?_ (by decide +kernel)
  refine wpAny_loadName_local hkk hks2 hns hself ?_
  refine ks_wpAny_isType_cls (X _ _ hC) rfl ⟨rfl, ?_⟩
  obtain ⟨hp, g, d, t, os⟩ := s
  have hxC : x ≠ C := fun z => by
    rw [z, X _ _ hC] at hx
    cases hx
  have lsub : Looks (model prog w) hp (isSubtype (.ref C) (.ref C)) true := looks_subIn X T.subC
  refine ks_wpAny_call_super (X _ _ hC) rfl hx rfl (fun c z => by cases z) lsub fun h' e k => ?_
  have X' : K.In h' := X.keeps k
  have hx' := k _ _ hx
  have I' : InstAt h' x (excObj C t0 none .none) C none := ⟨hx', rfl, rfl, trivial⟩
  have isB : Looks (model prog w) h' (isInstance (.ref x) (.type B)) true := I'.type.andThen (looks_subIn X' T.subB)
  have al := T.sup
  unfold ks_superIn at al
  rw [hcd, Option.bind_some] at al
  refine kxs_getMethod T.kx e (looks_opaque X' T.opq) ((looks_clsIn X' hcd).andThen .now) rfl X' al isB hxC (by decide +kernel) ?_
  have hu : (h'.push (kxs_mw initId x)).get? h'.objs.size = some (kxs_mw initId x) := Heap.get?_push_at rfl rfl
  have up : ∀ b o, h'.get? b = some o → (h'.push (kxs_mw initId x)).get? b = some o := fun b o z => Heap.get?_push_of_some _ z
  refine kxs_callWith (i := initId) (x := x) (by rfl) (evalArgs_plain ?_)
  refine Calls.spliced_cons (Calls.Constant_str (k := j) (pos := p3) (Calls.spliced_nil ⟨hu, ?_⟩))
  refine bound_init T (X'.keeps up) hu (up _ _ hx') (by show 1 ≤ sizeLine; decide) fun h2 t1 k2 e2 => ?_
  exact hq h2 t1 _ (fun b o hb z => k2 b o hb (up b o (k b o z))) e2
end
end PV
set_option maxHeartbeats 4000000
/-! The __init__ of such a class keeps a promise. -/
namespace PV
open PySem PySem.W PySem.Calls PyProof.Rows L2
variable {G : Gd}
section
variable {X : Cx} {pins : List (Addr × Obj)} {σ : L2.St} {H : Hp} {s : Shared} {a C dx : Addr} {f : Str} {y : V} {u : Value} {fs : List (Str × V)} {Q : Unit → Shared → Prop} {E : Value → Shared → Prop} {A : Around} {B newId initId : String} {bmB : List Value}
theorem xst_new (T : XC X.K C B newId initId bmB) (I : Inv X pins σ H s) (ea : H a = some (exo a C none)) (hno : findIn X.K (.ref C) f = some none) (ry : RelV y u)
    (h : ∀ dx s', H dx = none → dx ≠ a → Inv X pins σ (upd (upd H dx (exd dx [(f, y)])) a (exo a C (some dx))) s' → Q () s') : wpAny (model X.prog X.w) A (setAttr (.ref a) f u) Q E s := by
  obtain ⟨t1, ho⟩ := exo_at I.hok ea
  obtain ⟨hp, g, d, t, os⟩ := s
  refine set_plain I.kIn (ox := { cls := .ref C, dict := none, data := .fields #[.ref t1, .none, .none, .none, .bool false, .none] }) (od := none) ⟨ho, rfl, rfl, trivial⟩ T.sa ?_
  refine osaG_new T I.kIn ho hno fun h' tk' dx kept new away atx ns1 => ?_
  have free : H dx = none := I.hok.fresh new
  have ned : ∀ {b : Addr} {o : Obj}, hp.get? b = some o → b ≠ dx := fun {b o} z => Nat.ne_of_lt (Nat.lt_of_lt_of_le (Heap.lt_size z) new)
  have nea : ∀ {b : Addr}, H b = none → b ≠ a := fun {b} n z => by
    rw [z, ea] at n
    cases n
  have look : ∀ {b : Addr} {o : HO}, H b = some o → (∀ d, o ≠ exo a C d) → upd (upd H dx (exd dx [(f, y)])) a (exo a C (some dx)) b = some o := fun {b o} z n => by
    have n1 : b ≠ a := fun e => by
      rw [e, ea] at z
      exact n none (Option.some.inj z).symm
    rw [upd_ne n1, upd_ne (ne_of_none z free)]
    exact z
  have un : Un X.fs [] H (upd (upd H dx (exd dx [(f, y)])) a (exo a C (some dx))) hp h' := {
    keep := fun b o z n _ _ => kept b o (nea n) z
    slot := fun b o z n _ _ => ⟨o.slots, kept b o (nea n) z⟩
    free := fun b o z n _ => by
      rw [upd_ne (nea n), upd_ne (ned z)]
      exact n
    there := fun b o z _ => by
      by_cases hb : b = a
      · rw [hb]
        exact ⟨_, atx⟩
      · exact ⟨o, kept b o hb z⟩
    tups := fun b xs z => look z fun d e => exo_tup e.symm
    frzs := fun b o v z => look z fun d e => exo_frz e.symm
    tbls := fun b ps z => ⟨#[], by
      rw [look z fun d e => exo_tbl e.symm]
      simp⟩ }
  refine h dx _ free away (I.un (t' := tk') un fun b o z => ?_)
  by_cases hb : b = a
  · rw [hb, upd_same] at z
    cases z
    rw [hb]
    exact exo_ok atx
  · rw [upd_ne hb] at z
    by_cases hd : b = dx
    · rw [hd, upd_same] at z
      cases z
      rw [hd]
      exact exd_ok ns1 (relO_put (fs := []) ry fun _ => True.intro)
    · rw [upd_ne hd] at z
      refine (I.hok b o z).stay (fun c v hc zz => kept c v ?_ zz) (fun c hc => look hc fun d e => exo_own e.symm) fun c xs hc => look hc fun d e => exo_tup e.symm
      rcases hc with hc | hc
      · rw [hc]
        exact hb
      · exact at_ne ea hc exo_own
theorem xst_old (T : XC X.K C B newId initId bmB) (I : Inv X pins σ H s) (ea : H a = some (exo a C (some dx))) (ed : H dx = some (exd dx fs)) (hl : fs.length ≤ 900) (hno : findIn X.K (.ref C) f = some none) (ry : RelV y u)
    (h : ∀ s', Inv X pins σ (upd H dx (exd dx ((f, y) :: fs))) s' → Q () s') : wpAny (model X.prog X.w) A (setAttr (.ref a) f u) Q E s := by
  obtain ⟨t1, ho⟩ := exo_at I.hok ea
  obtain ⟨mA, ns1, rel⟩ := exd_at I.hok ed
  have hw := within_of rel
  obtain ⟨hp, g, d, t, os⟩ := s
  obtain ⟨oD, _, _, hoD, _, _⟩ := ns1.count hw
  refine set_plain I.kIn (ox := { cls := .ref C, dict := some dx, data := .fields #[.ref t1, .none, .none, .none, .bool false, .none] }) (od := some oD) ⟨ho, rfl, rfl, hoD⟩ T.sa ?_
  refine osaG_old T I.kIn ho ns1 hw (by rw [List.length_map]; omega) hno fun h' tk' kept ns2 => ?_
  have there : ∃ o, h'.get? dx = some o := by
    obtain ⟨o, _, _, z, _⟩ := ns2
    exact ⟨o, z⟩
  exact h _ (I.write (t' := tk') (x := dx) (e := dx) (o := exd dx ((f, y) :: fs)) (by rw [ed]; exact True.intro) (.inl rfl) kept there (exd_ok ns2 (relO_put ry rel)))
/-- self.f = e -/
def tXs (C : Addr) (f : Str) (to te : TE) : TS := fun D σ H => te σ H fun y H1 => to σ H1 fun x H2 => ∃ a : Addr, x = .ref a ∧
  ((H2 a = some (exo a C none) ∧ ∀ dx, H2 dx = none → dx ≠ a → D.nx σ (upd (upd H2 dx (exd dx [(f, y)])) a (exo a C (some dx)))) ∨
    ∃ (dx : Addr) (fs : List (Str × V)), H2 a = some (exo a C (some dx)) ∧ H2 dx = some (exd dx fs) ∧ fs.length ≤ 900 ∧ D.nx σ (upd H2 dx (exd dx ((f, y) :: fs))))
theorem ps_xst {o e : Expr} {to te : TE} {p' pos : Pos} (T : XC X.K C B newId initId bmB) (hno : findIn X.K (.ref C) f = some none) (ho : PE X o to) (he : PE X e te) (hs : swapsWith e (some (.Attribute o f p')) pos.line X.env = pure false := by rfl) : PS X (.Assign [.Attribute o f p'] e pos) (tXs C f to te) := by
  refine ⟨fun pins s σ H D I h => ?_⟩
  refine plainObj_wpAny_Assign_Attribute (thn (he.run pins s σ H _ I h) fun v s1 ⟨y, H1, I1, r1, q1⟩ => thn (ho.run pins s1 σ H1 _ I1 q1) fun u s2 ⟨x, H2, I2, r2, a, ex, q⟩ => ?_) hs
  subst ex
  obtain rfl : u = Value.ref a := r2
  rcases q with ⟨ea, q⟩ | ⟨dx, fs, ea, ed, hl, q⟩
  · exact xst_new T I2 ea hno r1 fun dx s' n ne J => ⟨σ, _, J, q dx n ne⟩
  · exact xst_old T I2 ea ed hl hno r1 fun s' J => ⟨σ, _, J, q⟩
end
/-! ### the def -/
/-- the __init__ of the class at C, as it stands behind the top -/
structure XF (K : Frag) (P : Program) (C f : Addr) (qual : Str) (params : Arguments) (body : List Stmt) (scope : Scope) (fd : FuncData) : Prop where
  ex : ∃ (oc : Value) (od : Option Addr) (kV doc pm : Value) (an : Option Addr) (cda : Addr) (ct : Value) (osl : Array (Option Value)) (cc : Addr) (oca : Obj) (vs : Array Value) (file : Str) (tf : Tok) (oce : Obj),
    fd = ksFn "__init__" qual params body scope .none kV doc pm an (.ref cda) ct cc ∧ K.lookup f = some ⟨oc, od, .func fd, osl⟩ ∧ codeIn K (.ref cda) qual = true ∧ K.lookup cda = some oca ∧ oca.data = .fields vs ∧ vs[2]? = some (.str file tf) ∧ ((P.main.file : Str) == file) = true ∧
      K.lookup cc = some oce ∧ oce.data = .cell (some (.ref C))
  ty : typeIn K (.ref f) = some (.type "function")
/-- its scope: the parameters, super, __class__ -/
structure XS (ps : List Str) (sc : Scope) : Prop where
  kind : sc.kind = .function
  co : sc.isCoroutine = false
  gen : sc.isGenerator = false
  nd : ps.Nodup
  par : ∀ x ∈ ps, sc.names.lookup x = some .local
  nocell : ∀ y ∈ sc.names, y.2 ≠ .cell
  free : ∀ y ∈ sc.names, y.2 = .free → y.1 = "__class__"
  sup : sc.names.lookup ("super" : Str) = some NameKind.globalImplicit
  cls : sc.names.lookup ("__class__" : Str) = some NameKind.free
/-- the context of its body -/
def cxI (CX : CXT) (P : Program) (w : World) (K : Frag) (mg : Str → Option Value) (base : Heap) (N : List Str) (env : Env) (A : Around) (outer : List Env) (s : Shared) (H : Hp) (E : XK) : Cx where
  prog := P
  w := w
  K := K
  mg := mg
  base := base
  A := A.deeper env
  N := N
  s_0 := s
  H_0 := H
  env := env
  outer := outer
  stack := env :: outer
  ex := []
  fn := fun _ => false
  calm := true
  pn := []
  xe := fun e s' => wpAny (model P w) (A.deeper env) (leaving env e) (fun _ s'' => CX outer H s E e s'') (fun e' s'' => CX outer H s E e' s'') s'
theorem zip_lookF : ∀ {ps : List Str} {us : List Value}, ps.Nodup → ∀ {i : Nat} {x : Str} {u : Value}, ps[i]? = some x → us[i]? = some u → (x, u) ∈ ps.zip us
  | [], _, _, i, x, u, h, _ => by simp at h
  | _ :: _, [], _, i, x, u, _, h => by simp at h
  | p :: ps, w :: us, nd, 0, x, u, h1, h2 => by
    simp at h1 h2
    subst h1; subst h2
    simp
  | p :: ps, w :: us, nd, i + 1, x, u, h1, h2 => by
    simp at h1 h2
    exact List.mem_cons_of_mem _ (zip_lookF (List.nodup_cons.mp nd).2 h1 h2)
theorem look_of_mem {l : List (Str × Value)} {x : Str} {u : Value} (nd : (l.map (·.1)).Nodup) (h : (x, u) ∈ l) : l.lookup x = some u := by
  induction l with
  | nil => cases h
  | cons p l ih =>
    obtain ⟨y, v⟩ := p
    rw [List.map_cons, List.nodup_cons] at nd
    rcases List.mem_cons.mp h with e | h
    · cases e
      simp
    · have ne : (x == y) = false := by
        have : x ≠ y := fun z => nd.1 (by rw [← z]; exact List.mem_map.mpr ⟨(x, u), h, rfl⟩)
        simpa using this
      simp only [List.lookup, ne]
      exact ih nd.2 h
theorem zip_nd : ∀ {ps : List Str} {us : List Value}, ps.Nodup → ((ps.zip us).map (·.1)).Nodup
  | [], _, _ => by simp
  | _ :: _, [], _ => by simp
  | p :: ps, w :: us, nd => by
    rw [List.zip_cons_cons, List.map_cons, List.nodup_cons]
    refine ⟨fun z => ?_, zip_nd (List.nodup_cons.mp nd).2⟩
    obtain ⟨⟨a, b⟩, h1, h2⟩ := List.mem_map.mp z
    cases h2
    exact (List.nodup_cons.mp nd).1 (List.of_mem_zip h1).1
theorem zip_look {ps : List Str} {us : List Value} (nd : ps.Nodup) {i : Nat} {x : Str} {u : Value} (h1 : ps[i]? = some x) (h2 : us[i]? = some u) : (ps.zip us).reverse.lookup x = some u :=
  look_of_mem (by rw [List.map_reverse]; exact List.pairwise_reverse.mpr ((zip_nd nd).imp fun h z => h z.symm)) (List.mem_reverse.mpr (zip_lookF nd h1 h2))
section
variable {P : Program} {w : World} {K : Frag} {mg : Str → Option Value} {base : Heap} {C f : Addr} {qual : Str} {params : Arguments} {rest : List Stmt} {scope : Scope} {fd : FuncData} {ps : List Str} {B newId initId : String} {bmB : List Value}
abbrev eI (qual : Str) (scope : Scope) (L f : Addr) (cdv : Value) (cc : Addr) : Env := ksEnv qual scope L f cdv cc
theorem init_ok {CX : CXT} {k : Nat} {sp : Sp} {p0 p1 p2 p3 pos pE : Pos} {msg : Str} {j : Nat} {ar : Arg} (T : XC K C B newId initId bmB) (S : XS ps scope)
    (F : XF K P C f qual params (.Expr (.Call (.Attribute (.Call (.Name "super" p0) [] [] p1) "__init__" p2) [.Constant (.str msg) j p3] [] pos) pE :: rest) scope fd)
    (hp_ : (params.posonlyargs ++ params.args).head? = some ar) (har : ps[0]? = some ar.arg) (htop : (P.main.scope.names.lookup ("super" : Str)).isSome = false) (hmg : mg "super" = none)
    {pl : Addr → Value → Addr → Sem Bool} (hi : ∀ L cdv cc, interactive (eI qual scope L f cdv cc) = false)
    (he : ∀ L cdv cc, eval (.Call (.Attribute (.Call (.Name "super" p0) [] [] p1) "__init__" p2) [.Constant (.str msg) j p3] [] pos) (eI qual scope L f cdv cc) = (do
      let ov ← attributeBase (.Call (.Name "super" p0) [] [] p1) "__init__" (eI qual scope L f cdv cc) (eval (.Call (.Name "super" p0) [] [] p1) (eI qual scope L f cdv cc))
      standAt p2.atName
      let (fv, first) ← holding [ov] (getMethod ov "__init__" (pl L cdv cc))
      callWith pos fv first (backTo pos (starEach [.Constant (.str msg) j p3] (eI qual scope L f cdv cc))) []))
    (len : ∀ vs H Q E, sp vs H Q E → vs.length = ps.length)
    (hbody : ∀ (cdv : Value) (cc : Addr) (A : Around) (outer : List Env) (s : Shared) (H : Hp) (vs : List V) (Q : VK) (E : XK), sp vs H Q E →
      ∃ a ys, vs = .ref a :: ys ∧ H a = some (exo a C none) ∧ ∃ t, PSs (cxI CX P w K mg base ps (eI qual scope s.heap.objs.size f cdv cc) A outer s H E) rest t ∧ t { nx := fun _ H' => Q .non H', rt := Q } (start ps vs) H) :
    FnOk P w K mg base CX (k + 1) f fd ps sp := by
  refine ⟨len, fun A outer s H args us vs Q E hr e0 hb r hsp => ?_⟩
  obtain ⟨oc, od, kV, doc, pm, an, cda, ct, osl, cc, oca, vsc, file, tf, oce, rfl, lk, hcd, lca, dca, hvs, hfile, lcc, dcc⟩ := F.ex
  have hl := len _ _ _ _ hsp
  have KX : K.In s.heap := e0.mod.kin.keeps fun b o e => (e0.bs b o e).1
  have lim : s.heap.NoLimit := e0.mod.nolimit.keeps fun b o e => (e0.bs b o e).1
  obtain ⟨a, ys, rfl, ea, t, pt, ht⟩ := hbody (.ref cda) cc A outer s H vs Q E hsp
  refine ks_codeAny_call_defAt (binds := ps.zip us) (by have := hr.dp; omega) (KX _ _ lk) rfl lim (codeRec_of KX hcd) rfl hb S.nocell (fun y hy => S.par _ (List.of_mem_zip hy).1) (fun h₀ hns hk₀ => ?_) S.co S.gen S.kind
  let env : Env := eI qual scope s.heap.objs.size f (.ref cda) cc
  have hcc0 : base.get? cc = some oce := e0.mod.kin _ _ lcc
  have I : Inv (cxI CX P w K mg base ps env A outer s H E) [] (start ps (.ref a :: ys)) H { s with heap := h₀, toks := s.toks + (ps.zip us).length } := by
    refine ⟨⟨e0.mod, S.kind, rfl, rfl, Nat.le_refl _, fun y z c h1 h2 => ?_, fun y hy => ?_, fun y c z _ => absurd z (by show ¬ (false = true); decide), fun _ => hr.hd, Around.frames_deeper e0.frames, .inr ⟨rfl, rfl⟩, fun b z => absurd z (by show b ∉ []; simp), e0.bs, e0.bsz, fun b _ _ => by show b ∉ []; simp, fun b z => absurd z (by show b ∉ []; simp), e0.funs, e0.frf⟩,
      rfl, e0.bare, Un.kept hk₀, ⟨_, hns, fun i y v h1 h2 h3 => ?_⟩, fun y c h => ?_, e0.hok.fresh (Nat.le_refl _), fun y c h => ?_, fun p hp => absurd (show p ∈ ([] : List (Addr × Obj)) from hp) (by simp), e0.hok.kept hk₀, ?_⟩
    · have h1 : ([("__class__", cc)] : List (Str × Addr)).lookup y = some c := h1
      have h2 : ([("__class__", cc)] : List (Str × Addr)).lookup z = some c := h2
      have e1 := List.mem_singleton.mp (PySem.mem_of_lookup h1)
      have e2 := List.mem_singleton.mp (PySem.mem_of_lookup h2)
      cases e1
      cases e2
      rfl
    · have hy : scope.names.lookup y = some .cell ∨ scope.names.lookup y = some .free := hy
      rcases hy with hy | hy
      · exact absurd rfl (S.nocell _ (PySem.mem_of_lookup hy))
      · have e := S.free _ (PySem.mem_of_lookup hy) rfl
        have e : y = "__class__" := e
        subst e
        exact ⟨cc, rfl⟩
    · have hi : i < (V.ref a :: ys).length := by
        unfold L2.start at h2
        by_cases hi : i < (V.ref a :: ys).length
        · exact hi
        · rw [List.getElem?_append_right (by simpa using hi)] at h2
          rw [List.getElem?_replicate] at h2
          split at h2 <;> cases h2
      have ha : (V.ref a :: ys)[i]? = some v := by
        unfold L2.start at h2
        rw [List.getElem?_append_left (by simpa using hi), List.getElem?_map] at h2
        cases e : (V.ref a :: ys)[i]? with
        | none => rw [e] at h2; cases h2
        | some a => rw [e] at h2; cases h2; rfl
      obtain ⟨u, hu, rv⟩ := r.get ha
      exact ⟨u, rv, .inl ⟨S.par _ (List.mem_of_getElem? h1), zip_look S.nd h1 hu⟩⟩
    · have h : ([("__class__", cc)] : List (Str × Addr)).lookup y = some c := h
      have e1 := List.mem_singleton.mp (PySem.mem_of_lookup h)
      cases e1
      exact ⟨_, oce, hk₀ _ _ (e0.bs _ _ hcc0).1, dcc⟩
    · have h : ([("__class__", cc)] : List (Str × Addr)).lookup y = some c := h
      have e1 := List.mem_singleton.mp (PySem.mem_of_lookup h)
      cases e1
      exact (e0.bs _ _ hcc0).2
    · show (L2.start ps (V.ref a :: ys)).length = ps.length
      unfold L2.start
      simp [hl]
      omega
  obtain ⟨t0, hx⟩ := exo_at I.hok ea
  obtain ⟨u0, hu0, rv0⟩ := r.get (i := 0) (x := V.ref a) rfl
  obtain rfl : u0 = Value.ref a := rv0
  refine ks_wpAt_execs_cons (ks_wpAt_Expr_any ?_ (hi _ _ _))
  refine super_init (cc := cda) (f := f) (cca := cc) (m := fun x => (ps.zip us).reverse.lookup x) (ar := ar) (x := a) T I.kIn S.sup S.cls S.kind rfl (I.kIn _ _ lk) rfl hp_ rfl (I.kIn _ _ lca) dca hvs hfile htop (fun {Q} q => ?_) rfl ⟨oce, hk₀ _ _ (e0.bs _ _ hcc0).1, dcc⟩ hns (zip_look S.nd har hu0) (S.par _ (List.mem_of_getElem? har)) hx (fun h' t1 tk kept hx' => ?_) (he _ _ _)
  · obtain ⟨mb, b1, b2⟩ := e0.mod.blt
    exact Calls.loadGlobal_builtin (e0.mod.glob.keeps I.bk) hmg (b1.keeps I.bk) ((b2 _ (by decide)).trans PyProof.Rows.Boot.«super») q
  · have J := I.write (t' := tk) (x := a) (e := a) (o := exo a C none) (by rw [ea]; exact True.intro) (.inl rfl) kept ⟨_, hx'⟩ (exo_ok hx')
    have eu : upd H a (exo a C none) = H := by
      funext b
      by_cases hb : b = a
      · rw [hb, upd_same, ea]
      · rw [upd_ne hb]
    rw [eu] at J
    refine wpAt_of_wpAny (wpAny_mono (pt.run [] _ _ H _ J ht) (fun fl s' hs => ?_) fun e s' hs => hs)
    have fin : ∀ {σ' : L2.St} {H' : Hp} {v : V} {u : Value}, Inv (cxI CX P w K mg base ps env A outer s H E) [] σ' H' s' → RelV v u → Q v H' → CE outer P w H s Q u s' :=
      fun {σ' H' v u} J rv q => ⟨v, H', J.os, J.bare, J.base, J.hok, rv, q⟩
    cases fl with
    | ret u =>
      obtain ⟨v, σ', H', J, rv, q⟩ := hs
      exact fin J rv q
    | next =>
      obtain ⟨σ', H', J, q⟩ := hs
      exact fin (v := V.non) (u := Value.none) J rfl q
    | brk =>
      obtain ⟨_, _, _, q⟩ := hs
      exact False.elim q
    | cont =>
      obtain ⟨_, _, _, q⟩ := hs
      exact False.elim q
end
end PV
set_option maxHeartbeats 4000000
/-! An own exception is made, with keywords too: the raw steps. -/
namespace PV
open PySem PySem.W PySem.Calls PyProof.Rows L2
variable {G : Gd}
section
variable {M : Model} {prog : Program} {w : World} {A : Around} {E : Value → Shared → Prop} {R : Result → Shared → Prop} {h : Heap} {g : Array GenState} {d : Drawn} {t : Nat} {os : OsState} {kw : List (Str × Value)}
variable {nm q : Str} {C N : Addr} {bs bm bmB : List Value} {hdct : Bool} {sn : List Str} {sub : List Value} {ab : Bool} {col : Option Bool} {dd : Option Addr} {k0 k1 k2 k3 k5 : Option Value} {B newId initId : String}
theorem checkK (F : ExcBaseFacts B newId initId bmB) (hT : ∀ X : String, bm.contains (.type X) = bmB.contains (.type X)) {us : List Value} {Q : Unit → Shared → Prop}
    (hC : h.get? C = some (excClassObj nm q C N bs bm hdct sn sub ab col dd k0 k1 k2 k3 k5 newId)) (hq : Q () ⟨h, g, d, t, os⟩) : wpAny M A (checkBuiltinCall newId ⟨.ref C :: us, kw⟩) Q E ⟨h, g, d, t, os⟩ := by
  have c1 : (Value.ref C :: bm).contains (.type B) = true := by rw [List.contains_cons, hT, F.hasB, Bool.or_true]
  have c2 := F.noStar
  simp only [checkBuiltinCall, F.newKind, F.newSplit, F.newRow]
  repeat (first | refine wpAny_loadPart_at hC ?_ | (refine wpAny_isSubtype_exc hC ?_; rw [c1]) | refine wpAny_staticBase_exc hC ?_ | refine wpAny_madeBy_exc hC ?_ | simp only [bne_self_eq_false, Bool.false_eq_true, if_false] | wp_step)
  exact hq
theorem newK (F : ExcBaseFacts B newId initId bmB) (hT : ∀ X : String, bm.contains (.type X) = bmB.contains (.type X)) {us : List Value}
    (hC : h.get? C = some (excClassObj nm q C N bs bm hdct sn sub ab col dd k0 k1 k2 k3 k5 newId)) (hus : us.length ≤ sizeLine)
    (hq : R (.ok (.ret (.ref (h.objs.size + 1)))) ⟨(h.push (kdv_tup us)).push (HandSPX.excO C h.objs.size), g, d, t, os⟩) :
    codeAny (model prog w) A (.builtin newId ⟨.ref C :: us, kw⟩) R ⟨h, g, d, t, os⟩ := by
  have c0 := F.ends
  have c1 : (Value.ref C :: bm).contains (.type B) = true := by rw [List.contains_cons, hT, F.hasB, Bool.or_true]
  have c2 : (Value.ref C :: bm).contains (.type "AttributeError") = false := by rw [List.contains_cons, hT, F.noAttr] <;> rfl
  have c3 : (Value.ref C :: bm).contains (.type "NameError") = false := by rw [List.contains_cons, hT, F.noName] <;> rfl
  refine codeAny_builtinAt F.entry ?_
  unfold Builtin.«BaseException.__new__»
  refine PySem.wpAt_bind ?_
  show PySem.wpAt _ _ _ (stack >>= _) _ _ _
  refine PySem.wpAt_bind (PySem.wpAt_stack fun p below => PySem.wpAt_of_wpAny ?_)
  wp_walk
  refine PySem.wpAt_of_wpAny ?_
  rw [F.owner]
  repeat (first | with_reducible refine wpAny_madeHere_exc F.canon hC ?_ | with_reducible refine wpAny_loadPart_at hC ?_ | (with_reducible refine wpAny_isSubtype_exc hC ?_; first | rw [c1] | rw [c2] | rw [c3]) | wp_step)
  show R _ _
  rw [Heap.size_push]
  exact hq
theorem tcK {us : List Value} {Q : Unit → Shared → Prop} (hC : h.get? C = some (excClassObj nm q C N bs bm hdct sn sub ab col dd k0 k1 k2 k3 k5 newId)) (hq : Q () ⟨h, g, d, t, os⟩) :
    wpAny M A (checkBuiltinCall "type.__call__" ⟨.ref C :: us, kw⟩) Q E ⟨h, g, d, t, os⟩ := by
  have c3 := tc_sub
  have cT : (⟨h, g, d, t, os⟩ : Shared).TypeIs (.ref C) "type" := ⟨_, hC, rfl⟩
  simp only [checkBuiltinCall, tc_kind, tc_split]
  repeat (any_goals (first | assumption | with_reducible refine wpAny_loadPart_at hC ?_ | with_reducible refine wpAny_onRaise ?_ | with_reducible refine wpAny_map ?_ | wp_step))
theorem typeCallK (F : ExcBaseFacts B newId initId bmB) (hT : ∀ X : String, bm.contains (.type X) = bmB.contains (.type X)) {us : List Value} {fI : Addr} {Q : Fin → Shared → Prop}
    (hC : h.get? C = some (excClassObj nm q C N bs bm hdct sn sub ab col dd k0 k1 k2 k3 k5 newId))
    (hi : Looks (model prog w) h (typeLookup (.ref C) "__init__") (some (.ref fI))) (hb : ∀ self, Looks (model prog w) h (bindSpecial (.ref fI) self) (.ref fI, [self])) (hus : us.length ≤ sizeLine)
    (hq : codeAny (model prog w) A (.call (.ref fI) ⟨.ref (h.objs.size + 1) :: us, kw⟩)
      (fun r s' => match r with | .ok (.ret v) => v = .none ∧ Q (.done (.ret (.ref (h.objs.size + 1)))) s' | .ok _ => False | .error e => E e s')
      ⟨(h.push (kdv_tup us)).push (HandSPX.excO C h.objs.size), g, d, t, os⟩) :
    wpAny (model prog w) A (Builtin.«type.__call__» ⟨.ref C :: us, kw⟩) Q E ⟨h, g, d, t, os⟩ := by
  repeat (first | with_reducible refine wpAny_loadPart_at hC ?_ | with_reducible refine wpAny_madeBy_exc hC ?_ | wp_step)
  refine codeAny_call_builtin_code (Code.quiet_builtin _ F.quiet) (checkK F hT hC ?_)
  refine newK F hT hC hus ?_
  show wpAny _ _ _ _ _ _
  have up : ∀ b o, h.get? b = some o → ((h.push (kdv_tup us)).push (HandSPX.excO C h.objs.size)).get? b = some o := fun b o e => Heap.get?_push_of_some _ (Heap.get?_push_of_some _ e)
  have c1 := up _ _ hC
  have c2 : ((h.push (kdv_tup us)).push (HandSPX.excO C h.objs.size)).get? (h.objs.size + 1) = some (HandSPX.excO C h.objs.size) := by heap_get
  have c3 : (Value.ref C :: bm).contains (.ref C) = true := by simp
  have i1 := hi.keeps up
  have b1 := (hb (.ref (h.objs.size + 1))).keeps up
  unfold isInstance
  repeat (first | with_reducible refine wpAny_loadPart_at c2 ?_ | (with_reducible refine wpAny_isSubtype_exc c1 ?_; rw [c3]) | wp_step)
  show wpAny _ _ (typeLookup (.ref C) _) _ _ _
  refine i1.at (wpAny_holding (wpAny_bind (b1.at (wpAny_bind (wpAny_call (codeAny_mono hq fun r s' z => ?_))))))
  rcases r with e | (v | _ | _ | _) <;> first | exact z | exact z.elim | skip
  obtain ⟨rfl, z⟩ := z
  first | exact wpAny_pure (wpAny_pure z) | (wp_walk; exact z)
theorem callK (F : ExcBaseFacts B newId initId bmB) (hT : ∀ X : String, bm.contains (.type X) = bmB.contains (.type X)) {us : List Value} {fI : Addr}
    (hC : h.get? C = some (excClassObj nm q C N bs bm hdct sn sub ab col dd k0 k1 k2 k3 k5 newId))
    (hi : Looks (model prog w) h (typeLookup (.ref C) "__init__") (some (.ref fI))) (hb : ∀ self, Looks (model prog w) h (bindSpecial (.ref fI) self) (.ref fI, [self])) (hus : us.length ≤ sizeLine)
    (hq : codeAny (model prog w) (A.under (.builtin "type.__call__" ⟨.ref C :: us, kw⟩)) (.call (.ref fI) ⟨.ref (h.objs.size + 1) :: us, kw⟩) (InitBack (h.objs.size + 1) R)
      ⟨(h.push (kdv_tup us)).push (HandSPX.excO C h.objs.size), g, d, t, os⟩) :
    codeAny (model prog w) A (.call (.ref C) ⟨us, kw⟩) R ⟨h, g, d, t, os⟩ := by
  have f1 := tc_lookup
  have f2 := tc_bind (.ref C)
  have cT : (⟨h, g, d, t, os⟩ : Shared).TypeIs (.ref C) "type" := ⟨_, hC, rfl⟩
  refine codeAny_of_tree ?_
  show wpAny _ _ (callAny (.ref C) _) _ _ _
  repeat (any_goals (first | assumption | with_reducible refine wpAny_loadPart_at hC ?_ | wp_step))
  refine ⟨rfl, codeAny_call_builtin_at (Code.quiet_builtin _ (by decide +kernel)) entry_typeCall (tcK hC (typeCallK F hT hC hi hb hus (codeAny_mono hq fun r s' z => ?_)))⟩
  rcases r with e | (v | _ | _ | _) <;> exact z
end
end PV
set_option maxHeartbeats 4000000
/-! An own exception as a deep value: made, asked, read. -/
namespace PV
open PySem PySem.W PySem.Calls PyProof.Rows L2
variable {G : Gd}
theorem xlo_ok {P : Program} {w : World} {H : Hp} {h : Heap} {a C : Addr} {od : Option Addr} {fv : Array Value} {sl : Array (Option Value)} (he : h.get? a = some ({ cls := .ref C, dict := od, data := .fields fv, slots := sl } : Obj)) : ObjOk P w H h a (xlo a C od) :=
  ⟨⟨fv, sl, he⟩, ⟨_, he⟩, fun h1 h2 z k => by
    obtain ⟨t, u, q⟩ := z
    exact ⟨t, u, k _ q⟩⟩
theorem xlo_at {P : Program} {w : World} {H : Hp} {h : Heap} {a C : Addr} {od : Option Addr} (hok : HOk P w H h) (e : H a = some (xlo a C od)) : ∃ fv sl, h.get? a = some ({ cls := .ref C, dict := od, data := .fields fv, slots := sl } : Obj) := by
  have x : ObjOk P w H h a (.ext fun h => ∃ fv sl, h.get? a = some ({ cls := .ref C, dict := od, data := .fields fv, slots := sl } : Obj)) := hok a _ e
  exact x.1
/-- what such an __init__ does -/
def spI (C : Addr) (ns : List Str) : Sp := fun vs H Q _ => ∃ (a : Addr) (ys : List V), vs = .ref a :: ys ∧ ys.length = ns.length ∧ H a = some (exo a C none) ∧ (ns = [] → Q .non H) ∧
  (ns ≠ [] → ∀ dx, H dx = none → dx ≠ a → Q .non (upd (upd H dx (exd dx (ns.zip ys).reverse)) a (exo a C (some dx))))
theorem spI_len {C : Addr} {ns : List Str} {vs : List V} {H : Hp} {Q : VK} {E : XK} (h : spI C ns vs H Q E) : vs.length = ns.length + 1 := by
  obtain ⟨a, ys, rfl, hl, _⟩ := h
  simp [hl]
theorem upd3 {H : Hp} {a b : Addr} {o o' u : HO} (h : b ≠ a) : upd (upd (upd H b o) a u) b o' = upd (upd H b o') a u := by
  funext c
  by_cases h1 : c = b
  · subst h1
    rw [upd_same, upd_ne h, upd_same]
  · rw [upd_ne h1]
    by_cases h2 : c = a
    · subst h2
      rw [upd_same, upd_same]
    · rw [upd_ne h2, upd_ne h2, upd_ne h1, upd_ne h1]
theorem upd_upd {H : Hp} {a : Addr} {o o' : HO} : upd (upd H a o) a o' = upd H a o' := by
  funext c
  by_cases h1 : c = a
  · subst h1
    rw [upd_same, upd_same]
  · rw [upd_ne h1, upd_ne h1, upd_ne h1]
section
variable {X : Cx} {Wx : WX} {pins : List (Addr × Obj)} {σ : L2.St} {H : Hp} {s : Shared} {C fI : Addr} {ns ps : List Str} {fd : FuncData} {B newId initId : String} {bmB : List Value} {k : Nat}
/-- C(..): the end -/
def mkQ (C : Addr) (ns : List Str) (ys : List V) (H : Hp) (Q : VK) : Prop := ∀ a, H a = none → (ns = [] → Q (.ref a) (upd H a (xlo a C none))) ∧
  (ns ≠ [] → ∀ dx, H dx = none → dx ≠ a → Q (.ref a) (upd (upd H dx (.xd (ns.zip ys).reverse)) a (xlo a C (some dx))))
/-- what is known of the class and its __init__ -/
structure XI (X : Cx) (C : Addr) (ns ps : List Str) (k : Nat) (fI : Addr) (fd : FuncData) : Prop where
  cl : ∃ B newId initId bmB, XC X.K C B newId initId bmB
  it : findIn X.K (.ref C) "__init__" = some (some (.ref fI))
  ty : typeIn X.K (.ref fI) = some (.type "function")
  ok : FnOk X.prog X.w X.K X.mg X.base (L2.CX X.prog X.w) k fI fd ps (spI C ns)
theorem run_mke {Qe : Value → Shared → Prop} {us bs : List Value} {kw : List (Str × Value)} {ys : List V} (T : XI X C ns ps k fI fd) (hr : Room (k + 1) X.A) (tk : Takes X Wx) (I : Inv X pins σ H s) (hus : us.length ≤ sizeLine)
    (hb : ∀ (s : Shared) (a : Addr), X.K.In s.heap → BindsTo s fd ⟨.ref a :: us, kw⟩ (ps.zip (.ref a :: bs))) (rb : Vals ys bs) (hl : ys.length = ns.length)
    (q : ∀ (x : Addr) (s' : Shared), H x = none → s.heap.objs.size ≤ x → (ns = [] → Inv X pins σ (upd H x (exo x C none)) s' → Qe (.ref x) s') ∧
      (ns ≠ [] → ∀ dx, H dx = none → dx ≠ x → Inv X pins σ (upd (upd H dx (.xd (ns.zip ys).reverse)) x (exo x C (some dx))) s' → Qe (.ref x) s')) :
    wpAny (model X.prog X.w) X.A (call (.ref C) us kw) Qe X.xe s := by
  obtain ⟨B, newId, initId, bmB, TC⟩ := T.cl
  obtain ⟨nm, qn, N, bs', bm, sn, sub, ab, col, dd, k0, k1, k2, k3, k5, hC, ht⟩ := TC.cls
  obtain ⟨hp, g, dr, t0, os⟩ := s
  have hsz : hp.objs.size ≤ hp.objs.size + 1 := Nat.le_succ _
  have hn : H (hp.objs.size + 1) = none := I.hok.fresh hsz
  have up : ∀ b o, hp.get? b = some o → ((hp.push (kdv_tup us)).push (HandSPX.excO C hp.objs.size)).get? b = some o := fun b o e => Heap.get?_push_of_some _ (Heap.get?_push_of_some _ e)
  have hget : ((hp.push (kdv_tup us)).push (HandSPX.excO C hp.objs.size)).get? (hp.objs.size + 1) = some (HandSPX.excO C hp.objs.size) := by heap_get
  generalize hx : hp.objs.size + 1 = x at hsz hn hget
  have I2 : Inv X pins σ (upd H x (exo x C none)) ⟨(hp.push (kdv_tup us)).push (HandSPX.excO C hp.objs.size), g, dr, t0, os⟩ :=
    I.laid (t' := t0) (a := x) (o := exo x C none) (h' := (hp.push (kdv_tup us)).push (HandSPX.excO C hp.objs.size)) up hsz (exo_ok hget)
  have r2 : Vals (V.ref x :: ys) (Value.ref x :: bs) := .cons rfl rb
  have sp : spI C ns (.ref x :: ys) (upd H x (exo x C none)) (fun v H2 => v = .non ∧ ((ns = [] ∧ H2 = upd H x (exo x C none)) ∨ (ns ≠ [] ∧ ∃ dx, H dx = none ∧ dx ≠ x ∧ H2 = upd (upd (upd H x (exo x C none)) dx (exd dx (ns.zip ys).reverse)) x (exo x C (some dx))))) (fun _ _ _ => False) := by
    refine ⟨x, ys, rfl, hl, upd_same, fun e => ⟨rfl, .inl ⟨e, rfl⟩⟩, fun e dx z ne => ⟨rfl, .inr ⟨e, dx, ?_, ne, rfl⟩⟩⟩
    rw [upd_ne ne] at z
    exact z
  have hT : ∀ Y : String, bm.contains (.type Y) = bmB.contains (.type Y) := fun Y => excTail_contains Y bm ht
  refine wpAny_call (callK TC.fb hT (I.kIn _ _ hC) (looks_findIn I.kIn T.it) (fun self => bind_fn I.kIn self T.ty) hus ?_)
  rw [hx]
  refine codeAny_mono (T.ok.run _ X.stack _ _ ⟨Value.ref x :: us, kw⟩ (Value.ref x :: bs) _ _ (fun _ _ _ => False) (hr.make C us kw) (I2.env0.make C us kw) (hb _ x I2.kIn) r2 sp) fun r s' hq' => ?_
  cases r with
  | error er => exact passes_call tk (fun _ _ _ _ z => z.elim) pins σ _ _ er s' I2 hq'
  | ok fl =>
    cases fl with
    | ret u =>
      obtain ⟨v, H2, I3, rv, ev, hc⟩ := I2.after hq'
      subst ev
      refine ⟨rv, ?_⟩
      obtain ⟨h2, g2, d2, t2, os2⟩ := s'
      rcases hc with ⟨e, rfl⟩ | ⟨e, dx, z, ne, rfl⟩
      · exact (q x _ hn hsz).1 e I3
      · have ed : upd (upd (upd H x (exo x C none)) dx (exd dx (ns.zip ys).reverse)) x (exo x C (some dx)) dx = some (exd dx (ns.zip ys).reverse) := by rw [upd_ne ne, upd_same]
        obtain ⟨mA, n1, rel⟩ := exd_at I3.hok ed
        have hod : ∃ o, h2.get? dx = some o := by
          obtain ⟨o, _, _, z, _⟩ := n1
          exact ⟨o, z⟩
        have J := I3.write (t' := t2) (h' := h2) (x := dx) (e := dx) (o := .xd (ns.zip ys).reverse) (by rw [ed]; exact True.intro) (.inl rfl) (fun b u _ y => y) hod ⟨mA, n1, rel⟩
        rw [upd3 ne] at J
        have eq : upd (upd (upd H x (exo x C none)) dx (.xd (ns.zip ys).reverse)) x (exo x C (some dx)) = upd (upd H dx (.xd (ns.zip ys).reverse)) x (exo x C (some dx)) := by
          funext b
          by_cases h1 : b = x
          · rw [h1, upd_same, upd_same]
          · rw [upd_ne h1, upd_ne h1]
            by_cases h3 : b = dx
            · rw [h3, upd_same, upd_same]
            · rw [upd_ne h3, upd_ne h3, upd_ne h1]
        rw [eq] at J
        exact (q x _ hn hsz).2 e dx z ne J
    | next => exact False.elim hq'
    | brk => exact False.elim hq'
    | cont => exact False.elim hq'
theorem run_mkx {Q : VK} {us bs : List Value} {kw : List (Str × Value)} {ys : List V} (T : XI X C ns ps k fI fd) (hr : Room (k + 1) X.A) (tk : Takes X Wx) (I : Inv X pins σ H s) (hus : us.length ≤ sizeLine)
    (hb : ∀ (s : Shared) (a : Addr), X.K.In s.heap → BindsTo s fd ⟨.ref a :: us, kw⟩ (ps.zip (.ref a :: bs))) (rb : Vals ys bs) (hl : ys.length = ns.length) (q : mkQ C ns ys H Q) :
    wpAny (model X.prog X.w) X.A (call (.ref C) us kw) (EP X pins σ Q) X.xe s := by
  refine run_mke T hr tk I hus hb rb hl fun x s' hn _ => ⟨fun e I3 => ?_, fun e dx z ne I3 => ?_⟩
  · obtain ⟨h2, g2, d2, t2, os2⟩ := s'
    obtain ⟨t1, ho⟩ := exo_at I3.hok upd_same
    have J := I3.write (t' := t2) (h' := h2) (x := x) (e := x) (o := xlo x C none) (by rw [upd_same]; exact True.intro) (.inl rfl) (fun b u _ y => y) ⟨_, ho⟩ (xlo_ok ho)
    rw [upd_upd] at J
    exact ⟨.ref x, _, J, rfl, (q x hn).1 e⟩
  · obtain ⟨h2, g2, d2, t2, os2⟩ := s'
    obtain ⟨t1, ho⟩ := exo_at I3.hok upd_same
    have J := I3.write (t' := t2) (h' := h2) (x := x) (e := x) (o := xlo x C (some dx)) (by rw [upd_same]; exact True.intro) (.inl rfl) (fun b u _ y => y) ⟨_, ho⟩ (xlo_ok ho)
    rw [upd_upd] at J
    exact ⟨.ref x, _, J, rfl, (q x hn).2 e dx z ne⟩
end
/-! ### keywords -/
structure SK (G : Gd) (X : Cx) (Wx : WX) (kws : List Keyword) (m : Mir (List D)) : Prop where
  ex : ∃ t, PK X kws t ∧ ∀ (W : Wd) (H0 : Hp) (σ : L2.St) (B H : Hp) (ls : List Sl) (s : DS) (Q : List V → Hp → Prop), Kn W B H → W.ok s H → Sm G W X.K H0 B H σ ls → AnsA W X.K B H (m ls s) Q (fun c d H' => Wx c d σ H') → t σ H Q
section
variable {X : Cx} {Wx : WX} {e : Expr} {es : List Expr} {kws : List Keyword} {ma : Mir D} {ms mk : Mir (List D)} {nm : Option Str} {kpos : Pos}
theorem sk_nil : SK G X Wx [] (fun _ => ret []) := ⟨_, pk_nil, fun W H0 σ B H ls s Q k w sm h => h [] B H (Gr.refl k) w .nil⟩
theorem sk_cons (ha : SE G X Wx e ma) (hr : SK G X Wx kws ms) : SK G X Wx (⟨nm, e, kpos⟩ :: kws) (mCons ma ms) := by
  obtain ⟨ta, pa, ha⟩ := ha.ex
  obtain ⟨tr, pr, hr⟩ := hr.ex
  refine ⟨_, pk_cons pa pr, fun W H0 σ B H ls s Q k w sm h => ?_⟩
  refine ha W H0 σ B H ls s _ k w sm ?_
  unfold mCons at h
  cases e1 : ma ls s with
  | stuck => rw [bnd_stk e1] at h; exact h
  | exc C fs s' => rw [bnd_exc e1] at h; exact h
  | ok d s1 =>
    rw [bnd_ok e1] at h
    intro v B1 H1 g1 w1 r1
    refine hr W H0 σ B1 H1 ls s1 _ g1.kn w1 (sm.grow g1) ?_
    have h := h.grow g1
    cases e2 : ms ls s1 with
    | stuck => rw [bnd_stk e2] at h; exact h
    | exc C fs s' => rw [bnd_exc e2] at h; exact h
    | ok ds s2 =>
      rw [bnd_ok e2] at h
      exact fun vs B2 H2 g2 w2 r2 => h _ B2 H2 g2 w2 (.cons (r1.mono g2.bb) r2)
end
end PV
set_option maxHeartbeats 4000000
/-! C(..) as an expression. -/
namespace PV
open PySem PySem.W PySem.Calls PyProof.Rows L2
variable {G : Gd}
theorem zip_rev {α β : Type} : ∀ {l : List α} {r : List β}, l.length = r.length → (l.zip r).reverse = l.reverse.zip r.reverse
  | [], [], _ => rfl
  | a :: l, b :: r, h => by
    have h : l.length = r.length := by simpa using h
    rw [List.zip_cons_cons, List.reverse_cons, List.reverse_cons, List.reverse_cons, zip_rev h, List.zip_append (by simpa using h)]
    rfl
theorem DvL.rev {K : Frag} {H : Hp} : ∀ {vs : List V} {ds : List D}, DvL K H vs ds → DvL K H vs.reverse ds.reverse
  | _, _, .nil => .nil
  | _, _, .cons a r => by
    rw [List.reverse_cons, List.reverse_cons]
    exact (DvL.rev r).app (.cons a .nil)
def mkD (C : Addr) (ns : List Str) (ds : List D) : M D := if ds.length = ns.length then ret (.exc C (ns.zip ds).reverse) else stk
section
variable {X : Cx} {Wx : WX} {W : Wd} {B H : Hp} {s : DS} {C fI : Addr} {ns ps : List Str} {fd : FuncData} {k : Nat} {e : Expr} {es : List Expr} {kws : List Keyword} {ms mk : Mir (List D)} {x : Str} {p pos : Pos}
theorem mkQ_of {Q : VK} {E : XK} {ys : List V} {ds : List D} (kn : Kn W B H) (w : W.ok s H) (r : DvL X.K B ys ds) (hl : ds.length = ns.length) (h : Ans W X.K B H (.ok (.exc C (ns.zip ds).reverse) s) Q E) : mkQ C ns ys H Q := by
  have el := r.len
  intro a ha
  refine ⟨fun e => ?_, fun e dx hd ne => ?_⟩
  · subst e
    have g := Gr.new (o := xlo a C none) kn w ha
    refine h (.ref a) _ _ g (w.st (sub_new ha)) ?_
    exact Dv.exc (ns := []) (vs := []) (ds := []) upd_same rfl rfl .nil
  · have g1 := Gr.new (o := HO.xd (ns.zip ys).reverse) kn w hd
    have w1 := w.st (sub_new (o := HO.xd (ns.zip ys).reverse) hd)
    have ha1 : upd H dx (HO.xd (ns.zip ys).reverse) a = none := by rw [upd_ne (Ne.symm ne)]; exact ha
    have g2 := Gr.new (o := xlo a C (some dx)) g1.kn w1 ha1
    refine h (.ref a) _ _ (g1.trans g2) (w1.st (sub_new ha1)) ?_
    have ez := zip_rev (l := ns) (r := ds) hl.symm
    rw [ez]
    refine Dv.exc (ns := ns.reverse) (vs := ys.reverse) upd_same ?_ (by simp [el, hl]) ((r.mono (g1.bb.trans g2.bb)).rev)
    show upd _ a _ dx = _
    rw [upd_ne ne, upd_same, zip_rev (by rw [el, hl])]
/-- C(e, ..) -/
theorem se_mkA (T : XI X C ns ps k fI fd) (hr : Room (k + 1) X.A) (tk : Takes X Wx) (hg : Gl X x) (hm : X.mg x = some (.ref C)) (hkp : keepIn X.K (.ref C) = true) (hb : ∀ (s : Shared) (us : List Value), X.K.In s.heap → us.length = ns.length + 1 → BindsTo s fd ⟨us, []⟩ (ps.zip us)) (hn : ns.length ≤ 10)
    (ha : SA G X Wx (e :: es) ms) (hdb : (x == ("__debug__" : Str)) = false := by decide) (he : starEach (e :: es) X.env = (false, eval e X.env) :: starEach es X.env := by rfl) (hpl : (backTo pos (starEach es X.env)).any (·.1) = false := by rfl) :
    SE G X Wx (.Call (.Name x p) (e :: es) [] pos) (fun ls => bnd (ms ls) (mkD C ns)) := by
  obtain ⟨t, pt, ht⟩ := ha.ex
  refine ⟨fun σ H Q => t σ H fun vs H1 => vs.length = ns.length ∧ mkQ C ns vs H1 Q, ⟨fun pins s σ H Q I h => ?_⟩, fun W H0 σ B H ls s Q k w sm h => ?_⟩
  · refine wpAny_Call_Name_kw (ld_glob I hg hm ?_ hdb)
    refine callWith_K (h₀ := X.base) I.ok.mod.kin hkp (thn (pt.run pos pins s σ H _ I h) fun us s1 ⟨vs, H1, I1, r1, hl, q1⟩ => ⟨I1.kIn, ?_⟩) he hpl
    show wpAny _ _ (call (.ref C) us) _ _ _
    have lu : us.length = ns.length := (Paired.length r1).symm.trans hl
    exact run_mkx T hr tk I1 (by rw [lu, sizeLine_eq]; omega) (fun s a X' => hb s (.ref a :: us) X' (by simp [lu])) r1 hl q1
  · refine ht W H0 σ B H ls s _ k w sm ?_
    cases e1 : ms ls s with
    | stuck => rw [bnd_stk e1] at h; exact h
    | exc C fs s' => rw [bnd_exc e1] at h; exact h
    | ok ds s1 =>
      rw [bnd_ok e1] at h
      intro vs B1 H1 g1 w1 r1
      have h := h.grow g1
      unfold mkD at h
      split at h
      · rename_i hl
        exact ⟨by rw [r1.len]; exact hl, mkQ_of g1.kn w1 r1 hl h⟩
      · exact h.elim
/-- C() -/
theorem se_mk0 (T : XI X C [] ps k fI fd) (hr : Room (k + 1) X.A) (tk : Takes X Wx) (hg : Gl X x) (hm : X.mg x = some (.ref C)) (hkp : keepIn X.K (.ref C) = true) (hb : ∀ (s : Shared) (us : List Value), X.K.In s.heap → us.length = 1 → BindsTo s fd ⟨us, []⟩ (ps.zip us))
    (hdb : (x == ("__debug__" : Str)) = false := by decide) : SE G X Wx (.Call (.Name x p) [] [] pos) (fun ls => ret (.exc C [])) := by
  refine ⟨fun σ H Q => mkQ C [] [] H Q, ⟨fun pins s σ H Q I h => ?_⟩, fun W H0 σ B H ls s Q k w sm h => ?_⟩
  · refine wpAny_Call_Name_kw (ld_glob I hg hm ?_ hdb)
    refine callWith_K0 I.kIn hkp ?_
    exact run_mkx T hr tk I (by show 0 ≤ _; omega) (fun s a X' => hb s [.ref a] X' rfl) .nil rfl h
  · exact mkQ_of (ds := []) k w .nil rfl h
/-- C(k = e, ..), the names in the parameters' order -/
theorem se_mkK (T : XI X C ns ps k fI fd) (hr : Room (k + 1) X.A) (tk : Takes X Wx) (hg : Gl X x) (hm : X.mg x = some (.ref C)) (hkp : keepIn X.K (.ref C) = true) {ks : List Str}
    (hb : ∀ (s : Shared) (a : Addr) (us : List Value), X.K.In s.heap → us.length = ns.length → BindsTo s fd ⟨[.ref a], ks.zip us⟩ (ps.zip (.ref a :: us)))
    (ha : SK G X Wx kws ms) (hall : (backToKw pos (keywordEach kws X.env)).all (·.1.isSome) = true := by rfl) (hks : (backToKw pos (keywordEach kws X.env)).filterMap (·.1) = ks := by rfl) (hdb : (x == ("__debug__" : Str)) = false := by decide)
    (hpl : ((backTo pos (starEach [] X.env)).any (·.1) || (backToKw pos (keywordEach kws X.env)).any (·.1.isNone)) = false := by rfl) :
    SE G X Wx (.Call (.Name x p) [] kws pos) (fun ls => bnd (ms ls) (mkD C ns)) := by
  obtain ⟨t, pt, ht⟩ := ha.ex
  refine ⟨fun σ H Q => t σ H fun vs H1 => vs.length = ns.length ∧ mkQ C ns vs H1 Q, ⟨fun pins s σ H Q I h => ?_⟩, fun W H0 σ B H ls s Q k w sm h => ?_⟩
  · refine wpAny_Call_Name_kw (ld_glob I hg hm ?_ hdb)
    refine callWith_KW0 (h₀ := X.base) I.ok.mod.kin hkp hall (thn (pt.run pos pins s σ H _ I h) fun us s1 ⟨vs, H1, I1, r1, hl, q1⟩ => ⟨I1.kIn, ?_⟩) hpl
    rw [hks]
    show wpAny _ _ (call (.ref C) [] (ks.zip us)) _ _ _
    have lu : us.length = ns.length := (Paired.length r1).symm.trans hl
    exact run_mkx T hr tk I1 (by show 0 ≤ _; omega) (fun s a X' => hb s a us X' lu) r1 hl q1
  · refine ht W H0 σ B H ls s _ k w sm ?_
    cases e1 : ms ls s with
    | stuck => rw [bnd_stk e1] at h; exact h
    | exc C fs s' => rw [bnd_exc e1] at h; exact h
    | ok ds s1 =>
      rw [bnd_ok e1] at h
      intro vs B1 H1 g1 w1 r1
      have h := h.grow g1
      unfold mkD at h
      split at h
      · rename_i hl
        exact ⟨by rw [r1.len]; exact hl, mkQ_of g1.kn w1 r1 hl h⟩
      · exact h.elim
end
/-! ### the __init__ by its stores -/
section
variable {P : Program} {w : World} {K : Frag} {mg : Str → Option Value} {base : Heap} {C f : Addr} {qual : Str} {params : Arguments} {scope : Scope} {fd : FuncData} {B newId initId : String} {bmB : List Value}
/-- what holds of every such __init__ -/
structure XQ (P : Program) (mg : Str → Option Value) (f : Addr) (qual : Str) (params : Arguments) (scope : Scope) (p0 p1 p2 p3 pos pE : Pos) (msg : Str) (j : Nat) (ps : List Str) : Prop where
  hp_ : ∃ ar, (params.posonlyargs ++ params.args).head? = some ar ∧ ps[0]? = some ar.arg
  htop : (P.main.scope.names.lookup ("super" : Str)).isSome = false
  hmg : mg "super" = none
  hi : ∀ L cdv cc, interactive (eI qual scope L f cdv cc) = false
  he : ∃ pl : Addr → Value → Addr → Sem Bool, ∀ L cdv cc, eval (.Call (.Attribute (.Call (.Name "super" p0) [] [] p1) "__init__" p2) [.Constant (.str msg) j p3] [] pos) (eI qual scope L f cdv cc) = (do
      let ov ← attributeBase (.Call (.Name "super" p0) [] [] p1) "__init__" (eI qual scope L f cdv cc) (eval (.Call (.Name "super" p0) [] [] p1) (eI qual scope L f cdv cc))
      standAt p2.atName
      let (fv, first) ← holding [ov] (getMethod ov "__init__" (pl L cdv cc))
      callWith pos fv first (backTo pos (starEach [.Constant (.str msg) j p3] (eI qual scope L f cdv cc))) [])
abbrev sup_ (p0 p1 p2 p3 pos pE : Pos) (msg : Str) (j : Nat) : Stmt := .Expr (.Call (.Attribute (.Call (.Name "super" p0) [] [] p1) "__init__" p2) [.Constant (.str msg) j p3] [] pos) pE
theorem init0 {CX : CXT} {k : Nat} {p0 p1 p2 p3 pos pE : Pos} {msg self : Str} {j : Nat} (T : XC K C B newId initId bmB) (S : XS [self] scope) (Y : XQ P mg f qual params scope p0 p1 p2 p3 pos pE msg j [self])
    (F : XF K P C f qual params [sup_ p0 p1 p2 p3 pos pE msg j] scope fd) : FnOk P w K mg base CX (k + 1) f fd [self] (spI C []) := by
  obtain ⟨ar, h1, h2⟩ := Y.hp_
  obtain ⟨pl, he⟩ := Y.he
  refine init_ok T S F h1 h2 Y.htop Y.hmg Y.hi he (fun vs H Q E h => spI_len h) fun cdv cc A outer s H vs Q E h => ?_
  obtain ⟨a, ys, rfl, hl, ea, q, _⟩ := h
  exact ⟨a, ys, rfl, ea, _, pss_nil, q rfl⟩
theorem init1 {CX : CXT} {k : Nat} {p0 p1 p2 p3 pos pE q1 q2 q3 q4 : Pos} {msg self n1 f1 : Str} {j : Nat} (T : XC K C B newId initId bmB) (S : XS [self, n1] scope) (Y : XQ P mg f qual params scope p0 p1 p2 p3 pos pE msg j [self, n1])
    (F : XF K P C f qual params [sup_ p0 p1 p2 p3 pos pE msg j, .Assign [.Attribute (.Name self q1) f1 q2] (.Name n1 q3) q4] scope fd) (hno : findIn K (.ref C) f1 = some none)
    (d1 : (self == ("__debug__" : Str)) = false) (d2 : (n1 == ("__debug__" : Str)) = false) (e1 : (self == ("__classdict__" : Str)) = false) (e2 : (n1 == ("__classdict__" : Str)) = false)
    (hs : ∀ L cdv cc, swapsWith (.Name n1 q3) (some (.Attribute (.Name self q1) f1 q2)) q4.line (eI qual scope L f cdv cc) = pure false) : FnOk P w K mg base CX (k + 1) f fd [self, n1] (spI C [f1]) := by
  obtain ⟨ar, h1, h2⟩ := Y.hp_
  obtain ⟨pl, he⟩ := Y.he
  refine init_ok T S F h1 h2 Y.htop Y.hmg Y.hi he (fun vs H Q E h => (spI_len h).trans rfl) fun cdv cc A outer s H vs Q E h => ?_
  obtain ⟨a, ys, rfl, hl, ea, _, q⟩ := h
  obtain ⟨y, rfl⟩ : ∃ y, ys = [y] := match ys, hl with | [y], _ => ⟨y, rfl⟩
  have v0 : Vis scope self := .inl (S.par _ (by simp))
  have v1 : Vis scope n1 := .inl (S.par _ (by simp))
  refine ⟨a, [y], rfl, ea, _, pss_one (ps_xst (f := f1) T hno (pe_var (i := 0) rfl v0 d1 e1) (pe_var (i := 1) rfl v1 d2 e2) (hs _ _ _)), ?_⟩
  exact ⟨y, rfl, .ref a, rfl, a, rfl, .inl ⟨ea, fun dx n ne => q (by simp) dx n ne⟩⟩
theorem init2 {CX : CXT} {k : Nat} {p0 p1 p2 p3 pos pE q1 q2 q3 q4 r1 r2 r3 r4 : Pos} {msg self n1 f1 n2 f2 : Str} {j : Nat} (T : XC K C B newId initId bmB) (S : XS [self, n1, n2] scope) (Y : XQ P mg f qual params scope p0 p1 p2 p3 pos pE msg j [self, n1, n2])
    (F : XF K P C f qual params [sup_ p0 p1 p2 p3 pos pE msg j, .Assign [.Attribute (.Name self q1) f1 q2] (.Name n1 q3) q4, .Assign [.Attribute (.Name self r1) f2 r2] (.Name n2 r3) r4] scope fd) (hno : findIn K (.ref C) f1 = some none) (hno2 : findIn K (.ref C) f2 = some none)
    (d1 : (self == ("__debug__" : Str)) = false) (d2 : (n1 == ("__debug__" : Str)) = false) (d3 : (n2 == ("__debug__" : Str)) = false) (e1 : (self == ("__classdict__" : Str)) = false) (e2 : (n1 == ("__classdict__" : Str)) = false) (e3 : (n2 == ("__classdict__" : Str)) = false)
    (hs : ∀ L cdv cc, swapsWith (.Name n1 q3) (some (.Attribute (.Name self q1) f1 q2)) q4.line (eI qual scope L f cdv cc) = pure false)
    (hs2 : ∀ L cdv cc, swapsWith (.Name n2 r3) (some (.Attribute (.Name self r1) f2 r2)) r4.line (eI qual scope L f cdv cc) = pure false) : FnOk P w K mg base CX (k + 1) f fd [self, n1, n2] (spI C [f1, f2]) := by
  obtain ⟨ar, h1, h2⟩ := Y.hp_
  obtain ⟨pl, he⟩ := Y.he
  refine init_ok T S F h1 h2 Y.htop Y.hmg Y.hi he (fun vs H Q E h => (spI_len h).trans rfl) fun cdv cc A outer s H vs Q E h => ?_
  obtain ⟨a, ys, rfl, hl, ea, _, q⟩ := h
  obtain ⟨y, z, rfl⟩ : ∃ y z, ys = [y, z] := match ys, hl with | [y, z], _ => ⟨y, z, rfl⟩
  have v0 : Vis scope self := .inl (S.par _ (by simp))
  have v1 : Vis scope n1 := .inl (S.par _ (by simp))
  have v2 : Vis scope n2 := .inl (S.par _ (by simp))
  refine ⟨a, [y, z], rfl, ea, _, pss_cons (ps_xst (f := f1) T hno (pe_var (i := 0) rfl v0 d1 e1) (pe_var (i := 1) rfl v1 d2 e2) (hs _ _ _)) (pss_one (ps_xst (f := f2) T hno2 (pe_var (i := 0) rfl v0 d1 e1) (pe_var (i := 2) rfl v2 d3 e3) (hs2 _ _ _))), ?_⟩
  refine ⟨y, rfl, .ref a, rfl, a, rfl, .inl ⟨ea, fun dx n ne => ?_⟩⟩
  refine ⟨z, rfl, .ref a, rfl, a, rfl, .inr ⟨dx, [(f1, y)], upd_same, by rw [upd_ne ne, upd_same], by simp, ?_⟩⟩
  have h := q (by simp) dx n ne
  rw [upd3 ne]
  exact h
end
end PV
set_option maxHeartbeats 4000000
/-! isinstance of deep values, fields of exceptions. -/
namespace PV
open PySem PySem.W PySem.Calls PyProof.Rows L2
variable {G : Gd}
def tyD : D → Option String
  | .non => some "NoneType"
  | .bl _ => some "bool"
  | .int _ => some "int"
  | .str _ => some "str"
  | .lst _ => some "list"
  | .tup _ => some "tuple"
  | .dct _ => some "dict"
  | .exc _ _ => none
  | .raw _ => none
  | .scr _ => none
theorem tyx_of {W : Wd} {K : Frag} {B H : Hp} {v : V} {d : D} {t : String} (k : Kn W B H) (h : Db W K B H v d) (e : tyD d = some t) : TyX K H v (.type t) := by
  have sq : ∀ {a : Addr} {xs : List V}, SqT K H a xs → TyX K H (.ref a) (.type "tuple") := fun {a xs} q => by
    rcases q with (q | ⟨o, q⟩) | ⟨o, its, n, q, c, _⟩
    · exact .base (.tup q)
    · exact .fTuple q
    · exact .kTuple q c
  rcases h with h | ⟨p, vs, ds, rfl, rfl, nv, hp, r⟩
  · cases h with
    | non => cases e; exact .base .non
    | bl b => cases e; exact .base (.bl b)
    | int i => cases e; exact .base (.int i)
    | str x => cases e; exact .base (.str x)
    | lst hl r => cases e; exact .base (.lst (k.sub _ _ hl))
    | tup hs r => cases e; exact sq (k.sub.t hs)
    | dcE hd => cases e; exact .base (.dK (k.sub _ _ hd))
    | raw v => cases e
    | scr _ => cases e
    | exc _ _ _ _ => cases e
  · cases e
    exact .base (.lst hp)
theorem inst_x {P : Program} {w : World} {H : Hp} {h : Heap} {a C : Addr} {od : Option Addr} {fs : List (Str × V)} (hok : HOk P w H h) (e : H a = some (xlo a C od)) (x : XD H od fs) : ∃ ox oo, InstAt h a ox C oo := by
  obtain ⟨fv, sl, ho⟩ := xlo_at hok e
  cases od with
  | none => exact ⟨_, none, ho, rfl, rfl, trivial⟩
  | some dx =>
    have hx : ObjOk P w H h dx (.xd fs) := hok dx _ x
    obtain ⟨mA, ⟨o, es, ep, hd, r⟩, _⟩ := hx
    exact ⟨_, some o, ho, rfl, rfl, hd⟩
section
variable {prog : Program} {w : World} {A : Around} {E : Value → Shared → Prop} {s : Shared} {K : Frag} {x D : Addr}
theorem class_x {Q : Option Value → Shared → Prop} {ox : Obj} {oo : Option Obj} (T : ExcC K D) (X : K.In s.heap) (I : InstAt s.heap x ox D oo) (h : Q (some (.ref D)) { s with toks := s.toks + 1 }) : wpAny (model prog w) A (getAttr? (.ref x) "__class__") Q E s := by
  have hf : findObj K D oo "__class__" = some (.bind (.builtin "getset_descriptor.__get__") (.builtin "object.__class__")) := by
    obtain ⟨cd, hc, _⟩ := any_some T.hd
    have hi : (clsIn K D).isSome = true := by rw [hc]; rfl
    cases oo with
    | none => exact findObj_dataN hi T.ha T.hn T.ht
    | some o => exact findObj_data hi T.ha T.hn T.ht
  obtain ⟨hp, g, d, t, os⟩ := s
  have l0 := I.type (M := model prog w)
  have l1 := looks_findIn (M := model prog w) X T.hg
  have l2 := looks_findIn (M := model prog w) X T.hk
  have l3 := looks_find (M := model prog w) X I hf
  have sub : Looks (model prog w) hp (isInstance (.ref x) (.type "BaseException")) true := l0.andThen (looks_subIn X T.hs)
  have z2 : (Value.builtin "BaseException.__getattribute__" == Value.builtin "object.__getattribute__") = false := by decide +kernel
  have z1 : (onTheHeap (Value.ref D) && Value.builtin "BaseException.__getattribute__" == Value.builtin "object.__getattribute__") = false := by rw [z2]; rfl
  unfold getAttr? getAttrBy? getAttrBy
  refine wpAny_bind (wpAny_mkText (wpAny_bind (wpAny_attempt (wpAny_holding (wpAny_bind (l0.at (wpAny_bind (l1.at ?_))))))))
  show wpAny _ _ (if (onTheHeap (Value.ref D) && Value.builtin "BaseException.__getattribute__" == Value.builtin "object.__getattribute__") = true then _ else _) _ _ _
  rw [z1, if_neg Bool.false_ne_true]
  unfold getAttrByItsOwn hookBefore
  refine wpAny_bind ?_
  rw [if_pos (show onTheHeap (Value.ref D) = true from rfl)]
  refine l2.at (wpAny_bind (wpAny_attempt (wpAny_holding ?_)))
  unfold callGetattribute
  rw [show (false && onTheHeap (Value.builtin "BaseException.__getattribute__")) = false from rfl, if_neg Bool.false_ne_true]
  unfold boundAndCalled
  rw [PySem.F.excAttr_ValueError.ga.bind (.ref x)]
  refine wpAny_bind (wpAny_pure ?_)
  show wpAny _ _ (call (.builtin "BaseException.__getattribute__") [.ref x, .str "__class__" t]) _ _ _
  refine wpAny_call (codeAny_call_builtin PySem.F.excAttr_ValueError.ga.plain PySem.F.entry_bexc_ga ?_)
  refine @check_slot (model prog w) _ _ ⟨hp, g, d, t + 1, os⟩ "BaseException.__getattribute__" "BaseException" "__getattribute__" (.ref x) [.str "__class__" t] [] _ (by decide +kernel) (by decide +kernel) sub (PySem.F.args_bexc_ga (.ref x) (.str "__class__" t)) ?_
  unfold Builtin.«object.__getattribute__»
  refine wpAny_bind (wpAny_of_eq (a := ((Value.ref x : Value), [Value.str "__class__" t])) (by first | rfl | (simp only [slotArgs]; rfl)) ?_)
  refine wpAny_bind (wpAny_pure (wpAny_bind (l0.at (wpAny_bind (l3.at ?_)))))
  show wpAny _ _ (holding [Value.builtin "object.__class__"] (call (.builtin "getset_descriptor.__get__") [.builtin "object.__class__", .ref x, .ref D]) >>= PySem.ret) _ _ _
  refine wpAny_bind (wpAny_holding (wpAny_call (class_get (s := ⟨hp, g, d, t + 1, os⟩) (ox := ox) (od := oo) X I T.hm ?_)))
  refine wpAny_pure ?_
  show wpAny _ _ (handedOut (.ref D)) _ _ _
  rw [handedOut_of (v := .ref D) rfl]
  first | exact wpAny_pure (wpAny_pure h) | exact wpAny_pure h | exact wpAny_pure (wpAny_bind (wpAny_pure (wpAny_pure h)))
theorem kitx_x (T : ExcC K D) : KitX K (.ref x) (.ref D) (fun h => ∃ ox oo, InstAt h x ox D oo) where
  ty := fun _ _ _ ⟨_, _, I⟩ => I.type
  it := fun _ _ X _ => by
    obtain ⟨cd, hc, _⟩ := any_some T.hd
    unfold clsIn at hc
    split at hc
    · rename_i ho
      intro A' Q' E' s' k q
      unfold isType loadHead
      exact wpAny_bind (wpAny_loadPart (k _ _ (X _ _ ho)) (wpAny_pure q))
    · cases hc
  ne := fun h tp dd its n sl X htp => by
    obtain ⟨cd, hc, _⟩ := any_some T.hd
    refine Bool.eq_false_iff.mpr fun q => ?_
    have e : D = tp := Value.ref.inj (beq_iff_eq.mp q)
    subst e
    unfold clsIn at hc
    split at hc
    · rename_i ho
      have z := (X _ _ ho).symm.trans htp
      cases z
    · cases hc
  ca := fun X ⟨_, _, I⟩ k => class_x T X I k
end
/-! ### the rule -/
abbrev IsT := Addr → V → Option Bool
structure IsOk (K : Frag) (tb : IsT) : Prop where
  ok : ∀ C c b, tb C c = some b → ExcC K C ∧ ∃ u, ClsV c u ∧ kitOne K (.ref C) u = some b
def rIsx (tb : IsT) : List V → Hp → VK → Prop := fun xs H Q => ∃ (a C : Addr) (od : Option Addr) (fs : List (Str × V)) (c : V) (b : Bool), xs = [.ref a, c] ∧ H a = some (xlo a C od) ∧ XD H od fs ∧ tb C c = some b ∧ Q (.bl b) H
section
variable {X : Cx} {tb : IsT}
theorem call_isx (T : IsOk X.K tb) : CallR X (.builtin "isinstance") (rIsx tb) := by
  intro pins s σ H xs us Q I r h
  obtain ⟨a, C, od, fs, c, b, rfl, ea, x, e, q⟩ := h
  obtain ⟨u1, u2, rfl, r1, r2⟩ := vals2 r
  obtain rfl : u1 = Value.ref a := r1
  obtain ⟨t, u, k, ek⟩ := T.ok _ _ _ e
  have e2 := k.eq r2
  subst e2
  exact kia_one (kitx_x t) I.kIn (inst_x I.hok ea x) ek (fun z => nomatch z) fun tk => ⟨.bl b, H, I.tok tk, rfl, q⟩
def isOne (d : D) (n : String) : M D := match tyD d with
  | some t => (match kitB t n with
    | some b => ret (.bl b)
    | none => stk)
  | none => stk
def isiD (tb : IsT) (ds : List D) : M D := match ds with
  | [d, .raw c] => (match d with
    | .exc C _ => (match tb C c with
      | some b => ret (.bl b)
      | none => stk)
    | d => (match c with
      | .ty n => isOne d n
      | _ => stk))
  | _ => stk
theorem c_isi (T : IsOk X.K tb) : Cl X (.builtin "isinstance") (isiD tb) := by
  refine ⟨_, call_isi.or (call_isx T), fun W B H s vs ds Q E k w r h => ?_⟩
  unfold isiD at h
  split at h
  · rename_i d c
    cases r with
    | cons a r =>
      cases r with
      | cons a2 r =>
        cases r
        cases a2.raw
        split at h
        · rename_i C fs
          cases e : tb C c with
          | none => rw [e] at h; exact (show False from h).elim
          | some b =>
            rw [e] at h
            have hd := a.dv (fun ds z => by cases z)
            cases hd with
            | exc ea x hl r =>
              exact .inr ⟨_, C, _, _, c, b, rfl, k.sub _ _ ea, k.sub.xd x, e, h.ret_ k w (.bl b)⟩
        · split at h
          · rename_i n
            unfold isOne at h
            cases e : tyD d with
            | none => rw [e] at h; exact (show False from h).elim
            | some t =>
              rw [e] at h
              have h : Ans W X.K B H ((match kitB t n with | some b => ret (.bl b) | none => stk : M D) s) Q E := h
              cases e2 : kitB t n with
              | none => rw [e2] at h; exact (show False from h).elim
              | some b =>
                rw [e2] at h
                exact .inl ⟨_, _, _, _, b, rfl, .ty n, tyx_of k a e, kit_ty e2, h.ret_ k w (.bl b)⟩
          · exact (show False from h).elim
  · exact (show False from h).elim
/-! ### a field of an exception -/
structure AtOk (K : Frag) (ok : Addr → Str → Bool) : Prop where
  ok : ∀ C f, ok C f = true → XfC K C ∧ findIn K (.ref C) f = some none
def atD (ok : Addr → Str → Bool) (f : Str) (d : D) : M D := match d with
  | .exc C fs => if ok C f = true then (match fs.lookup f with
    | some d => ret d
    | none => stk) else stk
  | _ => stk
theorem look_zip {K : Frag} {H : Hp} : ∀ {ns : List Str} {vs : List V} {ds : List D} {f : Str} {d : D}, DvL K H vs ds → (ns.zip ds).lookup f = some d → ∃ v, (ns.zip vs).lookup f = some v ∧ Dv K H v d
  | [], _, _, f, d, _, e => by simp at e
  | _ :: _, _, _, f, d, .nil, e => by simp at e
  | n :: ns, _, _, f, d, .cons a r, e => by
    rw [List.zip_cons_cons] at e ⊢
    simp only [List.lookup] at e ⊢
    cases h : (f == n) with
    | true =>
      rw [h] at e
      cases e
      exact ⟨_, rfl, a⟩
    | false =>
      rw [h] at e
      exact look_zip r e
theorem se_attr {Wx : WX} {e : Expr} {me : Mir D} {ok : Addr → Str → Bool} {f : Str} {pos : Pos} (T : AtOk X.K ok) (he : SE G X Wx e me) (hb : attributeBase e f X.env (eval e X.env) = eval e X.env := by rfl) : SE G X Wx (.Attribute e f pos) (fun ls => bnd (me ls) (atD ok f)) := by
  obtain ⟨t, pt, ht⟩ := he.ex
  refine ⟨fun σ H Q => t σ H fun x H1 => ∃ (a C dx : Addr) (fs : List (Str × V)) (v : V), x = .ref a ∧ H1 a = some (xlo a C (some dx)) ∧ H1 dx = some (.xd fs) ∧ ok C f = true ∧ fs.lookup f = some v ∧ Q v H1, ⟨fun pins s σ H Q I h => ?_⟩, fun W H0 σ B H ls s Q k w sm h => ?_⟩
  · refine attr_of hb (thn (pt.run pins s σ H _ I h) fun u s1 hh => ?_)
    obtain ⟨x, H1, I1, rx, a, C, dx, fs, v, ex, ea, ed, eo, l, q⟩ := hh
    subst ex
    obtain rfl : u = Value.ref a := rx
    obtain ⟨TC, hno⟩ := T.ok _ _ eo
    obtain ⟨fv, sl, ha⟩ := xlo_at I1.hok ea
    have hx : ObjOk X.prog X.w H1 s1.heap dx (.xd fs) := I1.hok dx _ ed
    obtain ⟨mA, hns, hr⟩ := hx
    obtain ⟨od, ho, hl⟩ := lookIn_ns hns
    obtain ⟨u, hu, ru⟩ := RelO.some_of (v := v) (o := mA f) (by rw [← l]; exact hr f)
    have J : InstAt s1.heap a ({ cls := .ref C, dict := some dx, data := .fields fv, slots := sl } : Obj) C (some od) := ⟨ha, rfl, rfl, ho⟩
    exact HandSPX.exc_get I1.kIn J TC.ga TC.gg TC.exC (findObj_own TC.hdC hno rfl (by rw [hl, hu])) (handed_of ru) ⟨v, H1, I1.tok _, ru, q⟩
  · refine ht W H0 σ B H ls s _ k w sm ?_
    cases e1 : me ls s with
    | stuck => rw [bnd_stk e1] at h; exact h
    | exc C fs s' => rw [bnd_exc e1] at h; exact h
    | ok d s1 =>
      rw [bnd_ok e1] at h
      intro v B1 H1 g1 w1 r1
      have h := h.grow g1
      unfold atD at h
      split at h
      · split at h
        · rename_i C fs hh hok
          cases e2 : fs.lookup f with
          | none => rw [e2] at h; exact (show False from h).elim
          | some d =>
            rw [e2] at h
            cases r1 with
            | @exc a C od ns vs ds ea x hl r =>
              obtain ⟨v, l, rv⟩ := look_zip r e2
              cases od with
              | none =>
                rw [show ns.zip vs = [] from x] at l
                cases l
              | some dx => exact ⟨a, C, dx, _, v, rfl, g1.kn.sub _ _ ea, g1.kn.sub _ _ x, hok, l, h.ret_ g1.kn w1 rv⟩
        · exact (show False from h).elim
      · exact (show False from h).elim
end
end PV
set_option maxHeartbeats 4000000
/-! Promises of defs that are kept where no repr is running (guards are told). -/
namespace PV
open PySem PySem.W PySem.Calls PyProof.Rows L2
variable {G : Gd} {T : List NdefX.NTab}
structure RoomG (k : Nat) (A : Around) : Prop where
  room : Room k A
  gu : A.guards = some []
theorem RoomG.mono {j k : Nat} {A : Around} (r : RoomG k A) (h : j ≤ k) : RoomG j A := ⟨r.room.mono h, r.gu⟩
theorem RoomG.deeper {k : Nat} {A : Around} (r : RoomG (k + 1) A) (env : Env) : RoomG k (A.deeper env) := ⟨r.room.deeper env, r.gu⟩
structure FnG (P : Program) (w : World) (K : Frag) (mg : Str → Option Value) (base : Heap) (k : Nat) (f : Addr) (fd : FuncData) (ps : List Str) (sp : Sp) : Prop where
  len : ∀ vs H Q E, sp vs H Q E → vs.length = ps.length
  run : ∀ (A : Around) (outer : List Env) (s : Shared) (H : Hp) (args : Args) (us : List Value) (vs : List V) (Q : VK) (E : XK), RoomG k A → Env0 P w K mg base A outer s H → BindsTo s fd args (ps.zip us) → Vals vs us → sp vs H Q E →
    codeAny (model P w) A (.call (.ref f) args) (CR (L2.CX P w) outer P w H s Q E) s
section
variable {P : Program} {w : World} {K : Frag} {mg : Str → Option Value} {base : Heap} {k : Nat} {f : Addr} {fd : FuncData} {ps : List Str} {sp sp' : Sp}
theorem FnG.of (F : FnOk P w K mg base (L2.CX P w) k f fd ps sp) : FnG P w K mg base k f fd ps sp := ⟨F.len, fun A outer s H args us vs Q E r => F.run A outer s H args us vs Q E r.room⟩
theorem FnG.mono {j : Nat} (F : FnG P w K mg base j f fd ps sp) (h : j ≤ k) : FnG P w K mg base k f fd ps sp := ⟨F.len, fun A outer s H args us vs Q E r => F.run A outer s H args us vs Q E (r.mono h)⟩
theorem FnG.imp (F : FnG P w K mg base k f fd ps sp) (h : ∀ vs H Q E, sp' vs H Q E → sp vs H Q E) : FnG P w K mg base k f fd ps sp' :=
  ⟨fun vs H Q E q => F.len vs H Q E (h vs H Q E q), fun A outer s H args us vs Q E r e b v q => F.run A outer s H args us vs Q E r e b v (h vs H Q E q)⟩
/-- a def by its body -/
theorem fng_of {x qual : Str} {params : Arguments} {body : List Stmt} {scope : Scope} {dvs : List V} {kws : List (Str × V)} {N : List Str} (F : FunD K x qual params body scope dvs kws f fd) (S : FnScope N ps scope) (len : ∀ vs H Q E, sp vs H Q E → vs.length = ps.length)
    (hb : ∀ (cdv : Value) (A : Around) (outer : List Env) (s : Shared) (H : Hp) (vs : List V) (Q : VK) (E : XK), RoomG k (A.deeper (envOfC qual scope s.heap.objs.size f cdv)) → sp vs H Q E →
      ∃ t, PSs (cxOf (L2.CX P w) P w K mg base N qual scope f cdv A outer s H E) body t ∧ t { nx := fun _ H' => Q .non H', rt := Q } (L2.start N vs) H) : FnG P w K mg base (k + 1) f fd ps sp := by
  obtain ⟨oc, od, dV, kV, doc, pm, an, cdv, ct, osl, rfl, lk, hcd, _, _⟩ := F.ex
  refine ⟨len, fun A outer s H args us vs Q E rg e0 bd rv q => ?_⟩
  have kept := fun b o e => (e0.bs b o e).1
  have kin : K.In s.heap := e0.mod.kin.keeps kept
  obtain ⟨t, pt, ht⟩ := hb cdv A outer s H vs Q E (rg.deeper _) q
  refine codeAny_call_function rg.room.depth (kin _ _ lk) rfl S.co S.gen rfl (codeRec_of kin hcd) (bd _ _ _ _ ?_)
  refine wpAny_newFunctionEnv_cells S.kind (fun y hy => (S.par y.1 (List.of_mem_zip hy).1).imp id fun z => ⟨z, cellsFrom_some _ _ _ (.inl z)⟩) fun env he s1 x => ?_
  subst he
  refine ⟨(e0.mod.nolimit.keeps kept).keeps x.toInCall.keep, codeAny_func (wpAny_mono (pt.run [] s1 (L2.start N vs) H _ (inv_start S rg.room.hd e0 (len vs H Q E q) rv x) ht) (fun fl s' z => ?_) fun e s' z => z)⟩
  cases fl with
  | ret u =>
    obtain ⟨v, σ', H', J, r, q⟩ := z
    exact ⟨v, H', J.os, J.bare, J.base, J.hok, r, q⟩
  | next =>
    obtain ⟨σ', H', J, q⟩ := z
    exact ⟨V.non, H', J.os, J.bare, J.base, J.hok, rfl, q⟩
  | brk =>
    obtain ⟨_, _, _, q⟩ := z
    exact (show False from q).elim
  | cont =>
    obtain ⟨_, _, _, q⟩ := z
    exact (show False from q).elim
theorem fn_g {x qual : Str} {params : Arguments} {body : List Stmt} {scope : Scope} {dvs : List V} {kws : List (Str × V)} {N : List Str} {mb : MS} (F : FunD K x qual params body scope dvs kws f fd) (S : FnScope N ps scope) (hl : ps.length ≤ N.length)
    (hb : ∀ (cdv : Value) (A : Around) (outer : List Env) (s : Shared) (H : Hp) (E : XK), RoomG k (A.deeper (envOfC qual scope s.heap.objs.size f cdv)) → SSs (G0 T) (cxOf (L2.CX P w) P w K mg base N qual scope f cdv A outer s H E) (EW E) body mb) :
    FnG P w K mg base (k + 1) f fd ps (spM K T ps.length (runF N.length mb)) := by
  refine fng_of F S (fun vs H Q E h => h.1) (fun cdv A outer s H vs Q E hr h => ?_)
  obtain ⟨hlen, W, B, sd, ds, et, kn, wk, r, a⟩ := h
  obtain ⟨t, pt, ht⟩ := (hb cdv A outer s H E hr).ex
  exact ⟨t, pt, body_ok (X := cxOf (L2.CX P w) P w K mg base N qual scope f cdv A outer s H E) (by rw [hlen]; exact hl) kn wk r ⟨trivial, et⟩ a ht⟩
theorem fng_imp {n : Nat} {m m' : List D → M D} (F : FnG P w K mg base k f fd ps (spM K T n m)) (h : ∀ ds s, m' ds s ≠ .stuck → m ds s = m' ds s) : FnG P w K mg base k f fd ps (spM K T n m') :=
  F.imp fun vs H Q E ⟨hl, W, B, s, ds, et, kn, wk, r, a⟩ => ⟨hl, W, B, s, ds, et, kn, wk, r, by
    rw [h ds s (fun z => by rw [z] at a; exact a)]
    exact a⟩
end
section
variable {X : Cx} {Wx : WX} {e : Expr} {es : List Expr} {ms : Mir (List D)} {pos p : Pos} {k : Nat} {f : Addr} {fd : FuncData} {ps : List Str} {sp : Sp} {x : Str}
theorem run_g {pins : List (Addr × Obj)} {σ : L2.St} {H : Hp} {s : Shared} {Q : VK} {us : List Value} {vs : List V} (F : FnG X.prog X.w X.K X.mg X.base k f fd ps sp) (hr : RoomG k X.A) (hb : Binds X.K fd ps []) (tk : Takes X Wx)
    (I : Inv X pins σ H s) (r : Vals vs us) (h : sp vs H Q (fun c d H' => Wx c d σ H')) : wpAny (model X.prog X.w) X.A (call (.ref f) us) (EP X pins σ Q) X.xe s := by
  have hl : (us ++ []).length = ps.length := by
    rw [List.append_nil, ← Paired.length r]
    exact F.len _ _ _ _ h
  have b := hb s us I.kIn hl
  rw [List.append_nil] at b
  refine wpAny_call (codeAny_mono (F.run X.A X.stack s H ⟨us, []⟩ us vs Q _ hr I.env0 b r h) fun z s' q => ?_)
  cases z with
  | error e => exact passAt tk σ pins H s e s' I q
  | ok fl =>
    cases fl with
    | ret u => exact I.after q
    | next => exact False.elim q
    | brk => exact False.elim q
    | cont => exact False.elim q
/-- f(e, ..) -/
theorem se_callG {n : Nat} {m : List D → M D} (F : FnG X.prog X.w X.K X.mg X.base k f fd ps (spM X.K G.tb n m)) (hr : RoomG k X.A) (hg : Gl X x) (hm : X.mg x = some (.ref f)) (hk : keepIn X.K (.ref f) = true)
    (hb : Binds X.K fd ps []) (tk : Takes X Wx) (ha : SA G X Wx (e :: es) ms) (hdb : (x == ("__debug__" : Str)) = false := by decide) (he : starEach (e :: es) X.env = (false, eval e X.env) :: starEach es X.env := by rfl) (hpl : (backTo pos (starEach es X.env)).any (·.1) = false := by rfl) :
    SE G X Wx (.Call (.Name x p) (e :: es) [] pos) (fun ls => bnd (ms ls) (callD n m)) := by
  obtain ⟨t, pt, ht⟩ := ha.ex
  refine ⟨fun σ H Q => t σ H fun vs H1 => spM X.K G.tb n m vs H1 Q (fun c d H' => Wx c d σ H'), ⟨fun pins s σ H Q I h => ?_⟩, fun W H0 σ B H ls s Q k w sm h => call_read (X := X) ht W H0 σ B H ls s Q k w sm h⟩
  refine wpAny_Call_Name_kw (ld_glob I hg hm ?_ hdb)
  refine callWith_K (h₀ := X.base) I.ok.mod.kin hk (thn (pt.run pos pins s σ H _ I h) fun us s1 ⟨vs, H1, I1, r, q⟩ => ⟨I1.kIn, ?_⟩) he hpl
  exact run_g F hr hb tk I1 r q
end
end PV
set_option maxHeartbeats 4000000
/-! repr of deep values. -/
namespace PV
open PySem PySem.W PySem.Calls PyProof.Rows L2
variable {G : Gd}
mutual
def D.pr : D → Option PyData
  | .non => some .none
  | .bl b => some (.bool b)
  | .int i => some (.int i)
  | .str s => some (.str s)
  | .lst xs => (D.prL xs).map .list
  | .tup xs => (D.prL xs).map .tuple
  | .dct [] => some (.dict [])
  | _ => none
def D.prL : List D → Option (List PyData)
  | [] => some []
  | x :: xs => match D.pr x, D.prL xs with
    | some a, some r => some (a :: r)
    | _, _ => none
end
section
variable {X : Cx} {pins : List (Addr × Obj)} {σ : L2.St} {H : Hp} {s : Shared}
mutual
theorem Dv.rds (I : Inv X pins σ H s) (ns : H sysModules = none) : ∀ {v : V} {d : D} {p : PyData} {u : Value}, Dv X.K H v d → d.pr = some p → RelV v u → ∃ as, Reads s.heap u p as ∧ sysModules ∉ as
  | _, _, _, u, .non, e, r => by
    unfold D.pr at e
    cases e
    obtain rfl : u = Value.none := r
    exact ⟨_, .none, fun z => by cases z⟩
  | _, _, _, u, .bl b, e, r => by
    unfold D.pr at e
    cases e
    obtain rfl : u = Value.bool b := r
    exact ⟨_, .bool b, fun z => by cases z⟩
  | _, _, _, u, .int i, e, r => by
    unfold D.pr at e
    cases e
    obtain ⟨t, rfl⟩ := r
    exact ⟨_, .int i t, fun z => by cases z⟩
  | _, _, _, u, .str x, e, r => by
    unfold D.pr at e
    cases e
    obtain ⟨t, rfl⟩ := r
    exact ⟨_, .str x t, fun z => by cases z⟩
  | _, _, _, u, .lst (a := a) (ds := ds) h q, e, r => by
    unfold D.pr at e
    cases e1 : D.prL ds with
    | none => rw [e1] at e; cases e
    | some ps =>
      rw [e1] at e
      cases e
      obtain rfl : u = Value.ref a := r
      obtain ⟨its, rv, ⟨o, n, ho, hc, _, hd⟩, _⟩ := I.list (SqL.of h)
      obtain ⟨as, hr, hm⟩ := DvL.rds I ns q e1 rv
      refine ⟨_, .list ho hc hd hr, fun z => ?_⟩
      rcases List.mem_cons.mp z with z | z
      · rw [z, h] at ns
        cases ns
      · exact hm z
  | _, _, _, u, .tup (a := a) (ds := ds) h q, e, r => by
    unfold D.pr at e
    cases e1 : D.prL ds with
    | none => rw [e1] at e; cases e
    | some ps =>
      rw [e1] at e
      cases e
      obtain rfl : u = Value.ref a := r
      obtain ⟨its, rv, ⟨o, ho, hc, n, hd⟩, _⟩ := I.tuple h
      obtain ⟨as, hr, hm⟩ := DvL.rds I ns q e1 rv
      exact ⟨_, .tuple ho hc hd hr, hm⟩
  | _, _, _, u, .dcE (a := a) h, e, r => by
    unfold D.pr at e
    cases e
    obtain rfl : u = Value.ref a := r
    obtain ⟨_, nq, vs, kv, o, es, ep, h1, h2, h3, _, h4, _⟩ := (show ObjOk X.prog X.w H s.heap a (.dK []) from I.hok a _ h)
    cases kv
    have e0 : es.toList = [] := by
      cases h4' : es.toList with
      | nil => rfl
      | cons x r => rw [h4'] at h4; cases h4
    refine ⟨[a], .dict (as := []) (bs := []) h1 h2.1 h3 (by rw [e0]; exact .nil) (by rw [e0]; exact .nil), fun z => ?_⟩
    have z := List.mem_singleton.mp z
    rw [← z] at nq
    simp at nq
  | _, _, _, u, .raw v, e, r => by unfold D.pr at e; cases e
  | _, _, _, u, .scr _, e, r => by unfold D.pr at e; cases e
  | _, _, _, u, .exc _ _ _ _, e, r => by unfold D.pr at e; cases e
theorem DvL.rds (I : Inv X pins σ H s) (ns : H sysModules = none) : ∀ {vs : List V} {ds : List D} {ps : List PyData} {us : List Value}, DvL X.K H vs ds → D.prL ds = some ps → Vals vs us → ∃ as, ReadsAll s.heap us ps as ∧ sysModules ∉ as
  | _, _, _, _, .nil, e, r => by
    unfold D.prL at e
    cases e
    cases r
    exact ⟨_, .nil, fun z => by cases z⟩
  | _, _, _, _, .cons (d := d) (ds := ds) a q, e, r => by
    unfold D.prL at e
    cases r with
    | cons r1 r2 =>
      cases e1 : d.pr with
      | none => rw [e1] at e; cases e
      | some x =>
        cases e2 : D.prL ds with
        | none => rw [e1, e2] at e; cases e
        | some l =>
          rw [e1, e2] at e
          cases e
          obtain ⟨as, h1, m1⟩ := Dv.rds I ns a e1 r1
          obtain ⟨bs, h2, m2⟩ := DvL.rds I ns q e2 r2
          refine ⟨_, .cons h1 h2, fun z => ?_⟩
          rcases List.mem_append.mp z with z | z
          · exact m1 z
          · exact m2 z
end
end
def okR (p : PyData) : Bool := p.showable && decide (p.shown.length ≤ sizeLine) && decide (p.depth ≤ 64)
/-- repr(x): the reading -/
def rRepr (K : Frag) : List V → Hp → VK → Prop := fun xs H Q => ∃ (v : V) (d : D) (p : PyData), xs = [v] ∧ Dv K H v d ∧ d.pr = some p ∧ okR p = true ∧ Q (.str p.shown) H
def reprD (ds : List D) : M D := match ds with
  | [d] => (match d.pr with
    | some p => if okR p = true then ret (.str p.shown) else stk
    | none => stk)
  | _ => stk
section
variable {X : Cx} {k : Nat}
theorem call_repr (hr : RoomG k X.A) (sm : ∃ o, X.K.lookup sysModules = some o) : CallR X (.builtin "repr") (rRepr X.K) := by
  intro pins s σ H xs us Q I r h
  obtain ⟨v, d, p, rfl, dv, ep, ok, q⟩ := h
  obtain ⟨u, rfl, ru⟩ := vals1 r
  obtain ⟨om, em⟩ := sm
  obtain ⟨as, rd, hm⟩ := dv.rds I (I.bs _ _ (I.ok.mod.kin _ _ em)).2 ep ru
  unfold okR at ok
  simp only [Bool.and_eq_true, decide_eq_true_eq] at ok
  obtain ⟨⟨hs, hz⟩, hd⟩ := ok
  have hsm : p.hasDict = true → sysModules ∉ as := fun _ => hm
  have hu : X.A.units + 65 < cLine := by have := hr.room.un; omega
  have ref : ∀ a, u = .ref a → wpAny (model X.prog X.w) X.A (call (.builtin "repr") [u]) (EP X pins σ Q) X.xe s := fun a e => by
    subst e
    exact repr_of_reads' rd hs hsm hr.gu (by omega) (fun _ _ e => e) (fun h' t tk kept => ⟨.str p.shown, H, I.kept (h' := h') (t' := tk) kept, ⟨t, rfl⟩, q⟩) hz
  cases rd with
  | none => exact PySem.P.repr_of_none ⟨.str _, H, I.tok _, ⟨_, rfl⟩, q⟩
  | bool b => exact PySem.P.repr_of_bool ⟨.str _, H, I.tok _, ⟨_, rfl⟩, by unfold PyData.shown at q; exact q⟩
  | int i t =>
    refine PySem.P.repr_of_int (by unfold PyData.showable at hs; exact of_decide_eq_true hs) ⟨.str _, H, I.tok _, ⟨_, rfl⟩, by unfold PyData.shown at q; exact q⟩
  | str x t => exact PySem.P.repr_of_str ⟨.str _, H, I.tok _, ⟨_, rfl⟩, by unfold PyData.shown at q; exact q⟩ (by unfold PyData.shown at hz; exact hz)
  | list _ _ _ _ => exact ref _ rfl
  | tuple _ _ _ _ => exact ref _ rfl
  | dict _ _ _ _ _ => exact ref _ rfl
theorem c_repr (hr : RoomG k X.A) (sm : ∃ o, X.K.lookup sysModules = some o) : Cl X (.builtin "repr") reprD := by
  refine ⟨_, call_repr hr sm, fun W B H s vs ds Q E k w r h => ?_⟩
  unfold reprD at h
  split at h
  · rename_i d
    cases r with
    | cons a r =>
      cases r
      cases e : d.pr with
      | none => rw [e] at h; exact (show False from h).elim
      | some p =>
        rw [e] at h
        have h : Ans W X.K B H ((if okR p = true then ret (.str p.shown) else stk : M D) s) Q E := h
        split at h
        · rename_i ok
          refine ⟨_, d, p, rfl, ?_, e, ok, h.ret_ k w (.str _)⟩
          rcases a with a | ⟨q, us, es, rfl, rfl, nv, hp, r⟩
          · exact a.mono k.sub
          · exact .lst hp (r.mono k.sub)
        · exact (show False from h).elim
  · exact (show False from h).elim
end
end PV
set_option maxHeartbeats 4000000
/-! The script walked, enumerate, an item of an owned list stored. -/
namespace PV
open PySem PySem.W PySem.Calls PyProof.Rows L2
variable {G : Gd}
theorem ints_dv {K : Frag} {H : Hp} : ∀ ns : List Int, DvL K H (ns.map V.int) (ns.map D.int)
  | [] => .nil
  | n :: ns => .cons (.int n) (ints_dv ns)
/-- what enumerate and a loop see of a list -/
def seqS : D → M (List D)
  | .lst xs => ret xs
  | .scr ns => ret (ns.map D.int)
  | _ => stk
theorem Dv.seqS {K : Frag} {B : Hp} {v : V} {d : D} {s s' : DS} {xs : List D} (r : Dv K B v d) (h : seqS d s = .ok xs s') : s' = s ∧ ∃ q vs, v = .ref q ∧ SqL K B q vs ∧ DvL K B vs xs := by
  unfold PV.seqS at h
  split at h
  · cases h
    cases r with
    | lst hs r => exact ⟨rfl, _, _, rfl, SqL.of hs, r⟩
  · cases h
    cases r with
    | scr hs => exact ⟨rfl, _, _, rfl, hs, ints_dv _⟩
  · cases h
theorem seqS_res (d : D) (s : DS) : (∃ xs, seqS d s = .ok xs s) ∨ seqS d s = .stuck := by
  unfold seqS
  split
  · exact .inl ⟨_, rfl⟩
  · exact .inl ⟨_, rfl⟩
  · exact .inr rfl
def enumL (n : Nat) : List D → List D
  | [] => []
  | x :: xs => .tup [.int n, x] :: enumL (n + 1) xs
theorem enumL_len : ∀ (n : Nat) (xs : List D), (enumL n xs).length = xs.length
  | _, [] => rfl
  | n, x :: xs => by rw [enumL, List.length_cons, List.length_cons, enumL_len]
theorem enumL_get : ∀ (n : Nat) (xs : List D) (i : Nat) (d : D), xs[i]? = some d → (enumL n xs)[i]? = some (.tup [.int ((n + i : Nat) : Int), d])
  | _, [], i, d, h => by simp at h
  | n, x :: xs, 0, d, h => by simp at h; subst h; rfl
  | n, x :: xs, i + 1, d, h => by
    have := enumL_get (n + 1) xs i d (by simpa using h)
    rw [enumL, List.getElem?_cons_succ, this]
    congr 3
    have : n + 1 + i = n + (i + 1) := by omega
    rw [this]
section
variable {X : Cx} {Wx : WX} {e tg : Expr} {me : Mir D} {pos p : Pos}
theorem iter_sq {W : Wd} {K : Frag} {B H : Hp} {a : Addr} {vs : List V} {ds : List D} {strict : Bool} (hp : SqL K B a vs) (r : DvL K B vs ds) : IterOk strict W K B H (Itl K a) ds := by
  refine ⟨fun H => SqL K H a vs, YAt vs, by rw [← r.len]; exact walk_list, fun B' H' hs k hx => k.sub.l (hs.l hp), fun i B' H' x H2 s hs k w hi y => ?_⟩
  obtain ⟨rfl, hx⟩ := y
  obtain ⟨d, e, q⟩ := r.get hx
  exact ⟨B', d, Gr.refl k, w, e, q.mono hs⟩
theorem iter_enum {W : Wd} {K : Frag} {B H : Hp} {a : Addr} {vs : List V} {ds : List D} {strict : Bool} (hp : SqL K B a vs) (r : DvL K B vs ds) : IterOk strict W K B H (Ite K a) (enumL 0 ds) := by
  refine ⟨fun H => SqL K H a vs, _, by rw [enumL_len, ← r.len]; exact walk_enum, fun B' H' hs k hx => k.sub.l (hs.l hp), fun i B' H' x H2 s hs k w hi y => ?_⟩
  obtain ⟨T, x, y, rfl, hn, rfl, ex, ey⟩ := y
  cases ex
  obtain ⟨d, e, q⟩ := r.get ey
  refine ⟨_, .tup [.int ((i : Nat) : Int), d], Gr.new k w hn, w.st (sub_new hn), ?_, ?_⟩
  · have := enumL_get 0 ds i d e
    rw [Nat.zero_add] at this
    exact this
  · exact .tup (SqT.of upd_same) (.cons (.int _) (.cons (q.mono (hs.trans (sub_new (none_of_kn k hn)))) .nil))
def mSeqS (me : Mir D) : Mir (List D) := fun ls => bnd (me ls) seqS
/-- for x in script -/
theorem si_scr (he : SE G X Wx e me) {strict : Bool} : SI G X Wx strict tg e (mSeqS me) := by
  obtain ⟨t, pt, ht⟩ := he.ex
  refine ⟨_, pi_list pt, fun W H0 σ B H ls s R k w sm h => ?_⟩
  refine ht W H0 σ B H ls s _ k w sm ?_
  unfold mSeqS at h
  cases e1 : me ls s with
  | stuck => rw [bnd_stk e1] at h; exact (show False from h).elim
  | exc C fs s' =>
    rw [bnd_exc e1] at h
    exact h
  | ok d s1 =>
    rw [bnd_ok e1] at h
    intro v B1 H1 g1 w1 r1
    rcases seqS_res d s1 with ⟨xs, e2⟩ | e2
    · rw [e2] at h
      obtain ⟨_, q, vs, rfl, hq, rr⟩ := r1.seqS e2
      exact ⟨q, rfl, ⟨_, g1.kn.sub.l hq⟩, h _ B1 H1 g1 w1 (iter_sq hq rr)⟩
    · rw [e2] at h
      exact (show False from h).elim
def mEnum (me : Mir D) : Mir (List D) := fun ls => bnd (me ls) fun d => bnd (seqS d) fun xs => ret (enumL 0 xs)
/-- for n, x in enumerate(xs) -/
theorem si_enum {elts : List Expr} {kk : Nat} {tpos : Pos} {strict : Bool} (hg : Gl X "enumerate") (hm : X.mg "enumerate" = none) (he : SE G X Wx e me) (hs : starEach [e] X.env = [(false, eval e X.env)] := by rfl) : SI G X Wx strict (.Tuple elts kk tpos) (.Call (.Name "enumerate" p) [e] [] pos) (mEnum me) := by
  obtain ⟨t, pt, ht⟩ := he.ex
  refine ⟨_, pi_enum hg hm (pa_cons pt pa_nil hs) hs, fun W H0 σ B H ls s R k w sm h => ?_⟩
  refine ht W H0 σ B H ls s _ k w sm ?_
  unfold mEnum at h
  cases e1 : me ls s with
  | stuck => rw [bnd_stk e1] at h; exact (show False from h).elim
  | exc C fs s' =>
    rw [bnd_exc e1] at h
    exact h
  | ok d s1 =>
    rw [bnd_ok e1] at h
    intro v B1 H1 g1 w1 r1
    rcases seqS_res d s1 with ⟨xs, e2⟩ | e2
    · rw [bnd_ok e2] at h
      obtain ⟨_, q, vs, rfl, hq, rr⟩ := r1.seqS e2
      exact ⟨q, _, rfl, g1.kn.sub.l hq, h _ B1 H1 g1 w1 (iter_enum hq rr)⟩
    · rw [bnd_stk e2] at h
      exact (show False from h).elim
/-! ### x[i] = e, x an owned list -/
theorem DvL.set {K : Frag} {H : Hp} {v : V} {d : D} (h : Dv K H v d) : ∀ {vs : List V} {ds : List D} (j : Nat), DvL K H vs ds → DvL K H (vs.set j v) (ds.set j d)
  | _, _, _, .nil => .nil
  | _, _, 0, .cons _ r => .cons h r
  | _, _, j + 1, .cons a r => .cons a (DvL.set h j r)
def putIx (i : Nat) (ls : List Sl) (ds : List D) (d k : D) : M Fl := match k with
  | .int k => (match ixN ds.length k with
    | some j => ret (.nx (ls.set i (.ow (ds.set j d))))
    | none => stk)
  | _ => stk
def mSetIx (i : Nat) (me mi : Mir D) : MS := fun ls => onOw i ls fun ds => bnd (me ls) fun d => bnd (mi ls) fun k => putIx i ls ds d k
theorem ss_setIx {i : Nat} {x : Str} {ix : Expr} {mi : Mir D} {p1 p2 : Pos} (he : SE G X Wx e me) (hx : SE G X Wx ix mi) (hN : X.N[i]? = some x := by rfl) (hv : Vis X.env.scope x := by first | exact Or.inl rfl | exact Or.inr (Or.inl rfl) | exact Or.inr (Or.inr rfl)) (hd : (x == ("__debug__" : Str)) = false := by decide)
    (hcd : (x == ("__classdict__" : Str)) = false := by decide)
    (ha : ∀ v, assign (.Subscript (.Name x p1) ix p2) X.env v = (do
      let ov ← holding [v] (eval (.Name x p1) X.env)
      let iv ← holding [v, ov] (eval ix X.env)
      standAt p2
      holding [v, ov, iv] (setItem ov iv v)
      release [v, ov, iv] []) := by intro _; rfl)
    (hs : swapsWithSole [.Subscript (.Name x p1) ix p2] e pos.line X.env = pure false := by rfl) (hw : swappedStores [.Subscript (.Name x p1) ix p2] e X.env = pure none := by rfl)
    (h1 : (assignEach [.Subscript (.Name x p1) ix p2] X.env).map (·.2) = [assign (.Subscript (.Name x p1) ix p2) X.env] := by rfl) :
    SS G X Wx (.Assign [.Subscript (.Name x p1) ix p2] e pos) (mSetIx i me mi) := by
  obtain ⟨t, pt, ht⟩ := he.ex
  obtain ⟨u, pu, hu⟩ := hx.ex
  refine ⟨_, ps_asg pt (pg_sub (pe_var hN hv hd hcd) pu set_list ha) hs hw h1, fun W B0 H0 σ B H ls s D g w sm h => ?_⟩
  obtain ⟨ds, ei, h⟩ := onOw_ans h
  obtain ⟨ov, e1, q, vs, rfl, nv, h0, hp, hb, r⟩ := sm.sl i _ ei
  refine ht W H0 σ B H ls s _ g.kn w sm (h.bind g fun d s1 v B1 H1 g1 g2 w1 r1 h1 => ?_)
  refine ⟨_, e1, ?_⟩
  refine hu W H0 σ B1 H1 ls s1 _ g1.kn w1 (sm.grow g1) (h1.bind g2 fun k s2 kv B2 H2 g3 g4 w2 r2 h2 => ?_)
  unfold putIx at h2
  split at h2
  · rename_i k
    cases r2
    cases e2 : ixN ds.length k with
    | none => rw [e2] at h2; exact (show False from h2).elim
    | some j =>
      rw [e2] at h2
      have g5 := g1.trans g3
      have hp2 := g5.hh q _ nv hp
      have hb2 : B2 q = none := by rw [g5.nw q _ hp]; exact hb
      have el := r.len
      exact ⟨q, vs, k, j, rfl, rfl, hp2, by rw [el]; exact e2, h2 σ B2 _ (g4.chg nv h0 hb2) (w2.chg nv hp2) ((sm.grow g5).chg ei e1 nv h0 hb2 (DvL.set (r1.mono g3.bb) j (r.mono g5.bb)))⟩
  · exact (show False from h2).elim
end
end PV
set_option maxHeartbeats 4000000
/-! Defs and classes as they are called by name. -/
namespace PV
open PySem PySem.W PySem.Calls PyProof.Rows L2
variable {G : Gd} {T : List NdefX.NTab}
def mRet (m : Mir D) : MS := fun ls => bnd (m ls) fun d => ret (.rt d)
def mRetN : MS := fun _ => ret (.rt .non)
def mNil : MS := fun ls => ret (.nx ls)
def mPass : MS := fun ls => ret (.nx ls)
theorem blkI (N : List Str) (sc : Scope) {scope : Scope} {own : List (Str × Nat)} (h : BlkOk N sc scope own) : BlkOk N sc scope own := h
structure Cal (P : Program) (w : World) (K : Frag) (mg : Str → Option Value) (base : Heap) (T : List NdefX.NTab) (x : Str) (k n : Nat) (m : List D → M D) : Prop where
  ex : ∃ (f : Addr) (fd : FuncData) (ps : List Str), FnG P w K mg base k f fd ps (spM K T n m) ∧ mg x = some (.ref f) ∧ keepIn K (.ref f) = true ∧ Binds K fd ps []
theorem Cal.imp {P : Program} {w : World} {K : Frag} {mg : Str → Option Value} {base : Heap} {x : Str} {k n : Nat} {m m' : List D → M D} (C : Cal P w K mg base T x k n m) (h : ∀ ds s, m' ds s ≠ .stuck → m ds s = m' ds s) : Cal P w K mg base T x k n m' := by
  obtain ⟨f, fd, ps, F, h1, h2, h3⟩ := C.ex
  exact ⟨f, fd, ps, fng_imp F h, h1, h2, h3⟩
structure DefF (K : Frag) (mg : Str → Option Value) (x : Str) (st : Stmt) : Prop where
  ex : ∃ (f : Addr) (fd : FuncData), FunD K x x (defArgs st) (defBody st) (defScope st) [] [] f fd ∧ mg x = some (.ref f)
section
variable {P : Program} {w : World} {K : Frag} {mg : Str → Option Value} {base : Heap} {x : Str} {st : Stmt} {k : Nat} {N ps : List Str} {mb : MS}
theorem DefF.cal (F : DefF K mg x st) (S : FnScope N ps (defScope st)) (hl : ps.length ≤ N.length)
    (hb : ∀ (kV doc pm : Value) (an : Option Addr) (cdv ct : Value) (us : List Value), us.length = ps.length → bindArgs (fnOf x x (defArgs st) (defBody st) (defScope st) .none kV doc pm an cdv ct) ⟨us, []⟩ = pure (ps.zip us))
    (body : ∀ (f : Addr) (cdv : Value) (A : Around) (outer : List Env) (s : Shared) (H : Hp) (E : XK), RoomG k (A.deeper (envOfC x (defScope st) s.heap.objs.size f cdv)) → SSs (G0 T) (cxOf (L2.CX P w) P w K mg base N x (defScope st) f cdv A outer s H E) (EW E) (defBody st) mb) :
    Cal P w K mg base T x (k + 1) ps.length (runF N.length mb) := by
  obtain ⟨f, fd, D, g⟩ := F.ex
  exact ⟨f, fd, ps, fn_g D S hl (body f), g, D.kp, D.bindsN hb⟩
end
section
variable {X : Cx} {Wx : WX} {e : Expr} {es : List Expr} {ms : Mir (List D)} {pos p : Pos} {k n : Nat} {x : Str} {m : List D → M D}
theorem se_callC (C : Cal X.prog X.w X.K X.mg X.base G.tb x k n m) (hr : RoomG k X.A) (hg : Gl X x) (tk : Takes X Wx) (ha : SA G X Wx (e :: es) ms) (hdb : (x == ("__debug__" : Str)) = false := by decide) (he : starEach (e :: es) X.env = (false, eval e X.env) :: starEach es X.env := by rfl) (hpl : (backTo pos (starEach es X.env)).any (·.1) = false := by rfl) :
    SE G X Wx (.Call (.Name x p) (e :: es) [] pos) (fun ls => bnd (ms ls) (callD n m)) := by
  obtain ⟨f, fd, ps, F, h1, h2, h3⟩ := C.ex
  exact se_callG F hr hg h1 h2 h3 tk ha hdb he hpl
end
/-- an exception class, its fields ns (as many as parameters behind self) -/
structure ExC (P : Program) (w : World) (K : Frag) (mg : Str → Option Value) (base : Heap) (x : Str) (C : Addr) (ns ks : List Str) : Prop where
  ex : ∃ (fI : Addr) (fd : FuncData) (ps : List Str), (∃ B newId initId bmB, XC K C B newId initId bmB) ∧ findIn K (.ref C) "__init__" = some (some (.ref fI)) ∧ typeIn K (.ref fI) = some (.type "function") ∧ FnOk P w K mg base (L2.CX P w) 1 fI fd ps (spI C ns) ∧
    (∀ (s : Shared) (us : List Value), us.length = ns.length + 1 → BindsTo s fd ⟨us, []⟩ (ps.zip us)) ∧ (∀ (s : Shared) (a : Addr) (us : List Value), us.length = ns.length → BindsTo s fd ⟨[.ref a], ks.zip us⟩ (ps.zip (.ref a :: us)))
  gm : mg x = some (.ref C)
  kp : keepIn K (.ref C) = true
section
variable {X : Cx} {Wx : WX} {e : Expr} {es : List Expr} {ms : Mir (List D)} {pos p : Pos} {k : Nat} {x : Str} {C : Addr} {ns ks : List Str} {kws : List Keyword}
theorem ExC.a (T : ExC X.prog X.w X.K X.mg X.base x C ns ks) (hr : Room (k + 2) X.A) (tk : Takes X Wx) (hg : Gl X x) (ha : SA G X Wx (e :: es) ms) (hn : ns.length ≤ 10 := by decide) (hdb : (x == ("__debug__" : Str)) = false := by decide)
    (he : starEach (e :: es) X.env = (false, eval e X.env) :: starEach es X.env := by rfl) (hpl : (backTo pos (starEach es X.env)).any (·.1) = false := by rfl) : SE G X Wx (.Call (.Name x p) (e :: es) [] pos) (fun ls => bnd (ms ls) (mkD C ns)) := by
  obtain ⟨fI, fd, ps, c, i, t, o, b1, b2⟩ := T.ex
  exact se_mkA ⟨c, i, t, o⟩ (hr.mono (by omega)) tk hg T.gm T.kp (fun s us _ l => b1 s us l) hn ha hdb he hpl
theorem ExC.z (T : ExC X.prog X.w X.K X.mg X.base x C [] ks) (hr : Room (k + 2) X.A) (tk : Takes X Wx) (hg : Gl X x) (hdb : (x == ("__debug__" : Str)) = false := by decide) : SE G X Wx (.Call (.Name x p) [] [] pos) (fun ls => ret (.exc C [])) := by
  obtain ⟨fI, fd, ps, c, i, t, o, b1, b2⟩ := T.ex
  exact se_mk0 ⟨c, i, t, o⟩ (hr.mono (by omega)) tk hg T.gm T.kp (fun s us _ l => b1 s us l) hdb
theorem ExC.kw (T : ExC X.prog X.w X.K X.mg X.base x C ns ks) (hr : Room (k + 2) X.A) (tk : Takes X Wx) (hg : Gl X x) (ha : SK G X Wx kws ms) (hall : (backToKw pos (keywordEach kws X.env)).all (·.1.isSome) = true := by rfl) (hks : (backToKw pos (keywordEach kws X.env)).filterMap (·.1) = ks := by rfl)
    (hdb : (x == ("__debug__" : Str)) = false := by decide) (hpl : ((backTo pos (starEach [] X.env)).any (·.1) || (backToKw pos (keywordEach kws X.env)).any (·.1.isNone)) = false := by rfl) : SE G X Wx (.Call (.Name x p) [] kws pos) (fun ls => bnd (ms ls) (mkD C ns)) := by
  obtain ⟨fI, fd, ps, c, i, t, o, b1, b2⟩ := T.ex
  exact se_mkK ⟨c, i, t, o⟩ (hr.mono (by omega)) tk hg T.gm T.kp (fun s a us _ l => b2 s a us l) ha hall hks hdb hpl
end
end PV
set_option maxHeartbeats 4000000
/-! Objects that are tracked from now on, or no more. -/
namespace PV
open PySem PySem.W PySem.Calls PyProof.Rows L2
section
variable {X : Cx} {pins : List (Addr × Obj)} {σ : L2.St} {H : Hp} {s : Shared} {a : Addr}
theorem inv_track {o : HO} {oa : Obj} {fv : Array Value} (I : Inv X pins σ H s) (ga : s.heap.get? a = some oa) (fa : oa.data = .fields fv) (na : H a = none) (n0 : X.s_0.heap.get? a = none) (nl : a ≠ X.env.locals) (np : ∀ p ∈ X.pn ++ pins, p.1 ≠ a)
    (ok : ObjOk X.prog X.w (upd H a o) s.heap a o) : Inv X pins σ (upd H a o) s := by
  have h1 : ∀ {b : Addr} {u : Obj}, X.s_0.heap.get? b = some u → b ≠ a := fun {b u} e z => by
    rw [z, n0] at e
    cases e
  have h2 : ∀ {b : Addr} {u : HO}, H b = some u → upd H a o b = some u := fun {b u} e => by
    rw [upd_ne (ne_of_none e na)]
    exact e
  have hc : ∀ x c, X.env.cells.lookup x = some c → c ≠ a := fun x c e z => by
    obtain ⟨v, oc, g, d⟩ := I.cell x c e
    rw [z, ga] at g
    cases g
    rw [fa] at d
    cases d
  refine ⟨I.ok, I.os, I.bare, ⟨I.base.keep, I.base.slot, fun b u e n x => ?_, I.base.there, fun b xs e => h2 (I.base.tups b xs e), fun b u y e => h2 (I.base.frzs b u y e), fun b ps e => ?_⟩, I.loc, I.cell, ?_, fun x c e => ?_, fun p hp => ?_, fun b u e => ?_, I.len⟩
  · rw [upd_ne (h1 e)]
    exact I.base.free b u e n x
  · obtain ⟨m, z⟩ := I.base.tbls b ps e
    exact ⟨m, h2 z⟩
  · rw [upd_ne (Ne.symm nl)]
    exact I.free
  · rw [upd_ne (hc x c e)]
    exact I.freeC x c e
  · obtain ⟨p1, p2, p3⟩ := I.pin p hp
    refine ⟨p1, ?_, p3⟩
    rw [upd_ne (np p hp)]
    exact p2
  · by_cases hb : b = a
    · subst hb
      rw [upd_same] at e
      cases e
      exact ok
    · rw [upd_ne hb] at e
      exact (I.hok b u e).stay (fun c v _ q => q) (fun c q => h2 q) fun c xs q => h2 q
/-- forgotten, and the heap read without it -/
theorem inv_forget {f : Heap → Prop} (I : Inv X pins σ H s) (ha : H a = some (.ext f)) (n0 : X.s_0.heap.get? a = none) :
    ∃ Z : Heap, (∀ b o, Z.get? b = some o → s.heap.get? b = some o) ∧ Z.get? a = none ∧ Inv X pins σ (delH H a) { s with heap := Z } := by
  obtain ⟨Z, z1, z2⟩ := restrict s.heap fun b => decide (b ≠ a)
  have za : Z.get? a = none := z2 a (by simp)
  have zk : ∀ {b : Addr} {o : Obj}, b ≠ a → s.heap.get? b = some o → Z.get? b = some o := fun {b o} hb e => (z1 b (decide_eq_true hb)).trans e
  have zs : ∀ b o, Z.get? b = some o → s.heap.get? b = some o := fun b o e => by
    have hb : b ≠ a := fun q => by
      rw [q, za] at e
      cases e
    exact (z1 b (decide_eq_true hb)).symm.trans e
  have q0 : ∀ {b : Addr} {o : Obj}, X.s_0.heap.get? b = some o → b ≠ a := fun {b o} e q => by
    rw [q, n0] at e
    cases e
  have qn : ∀ {b : Addr}, H b = none → b ≠ a := fun {b} e q => by
    rw [q, ha] at e
    cases e
  have qs : ∀ {b : Addr} {o : HO}, H b = some o → (∀ g, o ≠ .ext g) → b ≠ a := fun {b o} e n q => by
    rw [q, ha] at e
    cases e
    exact n _ rfl
  have dl : ∀ {b : Addr} {o : HO}, H b = some o → (∀ g, o ≠ .ext g) → delH H a b = some o := fun {b o} e n => by
    rw [delH_ne (qs e n)]
    exact e
  have dn : ∀ {b : Addr}, H b = none → delH H a b = none := fun {b} e => by
    rw [delH_ne (qn e)]
    exact e
  have zc : ∀ {x : Str} {c : Addr}, X.env.cells.lookup x = some c → ∀ {v : Option Value}, s.heap.IsCell c v → Z.IsCell c v := fun {x c} e {v} z => by
    obtain ⟨o, ho, d⟩ := z
    exact ⟨o, zk (qn (I.freeC x c e)) ho, d⟩
  refine ⟨Z, zs, za, ⟨I.ok, I.os, I.bare, ?_, ?_, fun x c e => ?_, dn I.free, fun x c e => dn (I.freeC x c e), fun p hp => ?_, fun b u e => ?_, I.len⟩⟩
  · refine ⟨fun b o e n f x => zk (q0 e) (I.base.keep b o e n f x), fun b o e n f x => ?_, fun b o e n x => dn (I.base.free b o e n x), fun b o e x => ?_, fun b xs e => dl (I.base.tups b xs e) (fun g z => by cases z), fun b o u e => dl (I.base.frzs b o u e) (fun g z => by cases z), fun b ps e => ?_⟩
    · obtain ⟨sl, q⟩ := I.base.slot b o e n f x
      exact ⟨sl, zk (q0 e) q⟩
    · obtain ⟨o2, q⟩ := I.base.there b o e x
      exact ⟨o2, zk (q0 e) q⟩
    · obtain ⟨m, q⟩ := I.base.tbls b ps e
      exact ⟨m, dl q (fun g z => by cases z)⟩
  · obtain ⟨m, hn, hl⟩ := I.loc
    obtain ⟨o, es, ep, ho, r⟩ := hn
    refine ⟨m, ⟨o, es, ep, zk (qn I.free) ho, r⟩, fun i x v e1 e2 e3 => ?_⟩
    obtain ⟨u, r2, l⟩ := hl i x v e1 e2 e3
    refine ⟨u, r2, ?_⟩
    rcases l with l | ⟨k, c, ec, z⟩
    · exact Or.inl l
    · exact Or.inr ⟨k, c, ec, zc ec z⟩
  · obtain ⟨v, z⟩ := I.cell x c e
    exact ⟨v, zc e z⟩
  · obtain ⟨p1, p2, p3⟩ := I.pin p hp
    exact ⟨zk (qn p2) p1, dn p2, p3⟩
  · have hb : b ≠ a := fun z => by
      rw [z, delH_same] at e
      cases e
    rw [delH_ne hb] at e
    refine (I.hok b u e).stay (fun c v hc q => zk ?_ q) (fun c q => dl q (fun g z => by cases z)) fun c xs q => dl q (fun g z => by cases z)
    rcases hc with z | z
    · rw [z]
      exact hb
    · exact qs z (fun g z => by cases z)
end
end PV
set_option maxHeartbeats 4000000
/-! raise, try. -/
namespace PV
open PySem PySem.W PySem.Calls PyProof.Rows L2
variable {G : Gd}
section
variable {X : Cx} {Wx : WX} {pins : List (Addr × Obj)} {σ : L2.St} {H : Hp} {s : Shared} {C fI : Addr} {ns ps : List Str} {fd : FuncData} {k : Nat} {e : Expr} {es : List Expr} {ms : Mir (List D)} {x : Str} {p pos pos' : Pos}
/-- what raise C(..) leaves -/
def rzQ (C : Addr) (ns : List Str) (ys : List V) (H : Hp) (Q : XK) : Prop := (ns = [] → Q (.ref C) none H) ∧ (ns ≠ [] → ∀ dx, H dx = none → Q (.ref C) (some dx) (upd H dx (.xd (ns.zip ys).reverse)))
theorem run_mkr {Q : XK} {us bs : List Value} {kw : List (Str × Value)} {ys : List V} (T : XI X C ns ps k fI fd) (hr : Room (k + 1) X.A) (tk : Takes X Wx) (hex : X.ex = []) (I : Inv X pins σ H s) (hus : us.length ≤ sizeLine)
    (hb : ∀ (s : Shared) (a : Addr), X.K.In s.heap → BindsTo s fd ⟨.ref a :: us, kw⟩ (ps.zip (.ref a :: bs))) (rb : Vals ys bs) (hl : ys.length = ns.length) (q : rzQ C ns ys H Q) :
    wpAny (model X.prog X.w) X.A (call (.ref C) us kw) (MkP X pins σ Q) X.xe s := by
  have rs : Raises X (.ref C) := by
    obtain ⟨_, _, _, _, TC⟩ := T.cl
    exact raises_own TC.exC TC.tyC
  refine run_mke T hr tk I hus hb rb hl fun x s' hn hge => ?_
  have n0 : X.s_0.heap.get? x = none := by
    cases e : X.s_0.heap.get? x with
    | none => rfl
    | some o =>
      obtain ⟨o', z⟩ := I.base.there x o e (by rw [hex]; simp)
      exact absurd (Heap.lt_size z) (Nat.not_lt.mpr hge)
  refine ⟨fun e I3 => ?_, fun e dx z ne I3 => ?_⟩
  · obtain ⟨t1, ho⟩ := exo_at I3.hok upd_same
    obtain ⟨Z, zs, za, J⟩ := inv_forget (a := x) I3 (by rw [upd_same]; rfl) n0
    rw [delH_new hn] at J
    exact ⟨x, _, _, { s' with heap := Z }, H, .ref C, none, rfl, J, zs, za, ho, ⟨rfl, rfl⟩, rfl, rfl, hn, rfl, I3.bare, rs, q.1 e⟩
  · obtain ⟨t1, ho⟩ := exo_at I3.hok upd_same
    have hx : upd H dx (.xd (ns.zip ys).reverse) x = none := by
      rw [upd_ne (Ne.symm ne)]
      exact hn
    obtain ⟨Z, zs, za, J⟩ := inv_forget (a := x) I3 (by rw [upd_same]; rfl) n0
    rw [delH_new hx] at J
    exact ⟨x, _, _, { s' with heap := Z }, _, .ref C, some dx, rfl, J, zs, za, ho, ⟨rfl, rfl⟩, rfl, rfl, hx, rfl, I3.bare, rs, q.2 e dx z⟩
theorem pmk_A {t : TA} (T : XI X C ns ps k fI fd) (hr : Room (k + 1) X.A) (tk : Takes X Wx) (hex : X.ex = []) (hg : Gl X x) (hm : X.mg x = some (.ref C)) (hkp : keepIn X.K (.ref C) = true) (hb : ∀ (s : Shared) (us : List Value), X.K.In s.heap → us.length = ns.length + 1 → BindsTo s fd ⟨us, []⟩ (ps.zip us)) (hn : ns.length ≤ 10)
    (pt : PA X (e :: es) t) (hdb : (x == ("__debug__" : Str)) = false := by decide) (he : starEach (e :: es) X.env = (false, eval e X.env) :: starEach es X.env := by rfl) (hpl : (backTo pos (starEach es X.env)).any (·.1) = false := by rfl) :
    PMk X (.Call (.Name x p) (e :: es) [] pos) (fun σ H Q => t σ H fun vs H1 => vs.length = ns.length ∧ rzQ C ns vs H1 Q) := by
  intro pins s σ H Q I h
  refine wpAny_Call_Name_kw (ld_glob I hg hm ?_ hdb)
  refine callWith_K (h₀ := X.base) I.ok.mod.kin hkp (thn (pt.run pos pins s σ H _ I h) fun us s1 ⟨vs, H1, I1, r1, hl, q1⟩ => ⟨I1.kIn, ?_⟩) he hpl
  show wpAny _ _ (call (.ref C) us) _ _ _
  have lu : us.length = ns.length := (Paired.length r1).symm.trans hl
  exact run_mkr T hr tk hex I1 (by rw [lu, sizeLine_eq]; omega) (fun s a X' => hb s (.ref a :: us) X' (by simp [lu])) r1 hl q1
theorem pmk_0 (T : XI X C [] ps k fI fd) (hr : Room (k + 1) X.A) (tk : Takes X Wx) (hex : X.ex = []) (hg : Gl X x) (hm : X.mg x = some (.ref C)) (hkp : keepIn X.K (.ref C) = true) (hb : ∀ (s : Shared) (us : List Value), X.K.In s.heap → us.length = 1 → BindsTo s fd ⟨us, []⟩ (ps.zip us))
    (hdb : (x == ("__debug__" : Str)) = false := by decide) : PMk X (.Call (.Name x p) [] [] pos) (fun σ H Q => Q (.ref C) none H) := by
  intro pins s σ H Q I h
  refine wpAny_Call_Name_kw (ld_glob I hg hm ?_ hdb)
  refine callWith_K0 I.kIn hkp ?_
  exact run_mkr T hr tk hex I (by show 0 ≤ _; omega) (fun s a X' => hb s [.ref a] X' rfl) .nil rfl ⟨fun _ => h, fun z => absurd rfl z⟩
end
/-! ### one statement whose exceptions leave the slots as they were -/
def AnsX (G : Gd) (W : Wd) (K : Frag) (Wx : WX) (B0 H0 B H : Hp) (σ : L2.St) (r : Res Fl) (D : Ends) : Prop := match r with
  | .exc C fs s' => ∀ (od : Option Addr) (B' H' : Hp), Gr W B H B' H' → W.ok s' H' → XFl K B' od fs → Wx (.ref C) od σ H'
  | .ok f s' => AnsS G W K Wx B0 H0 (.ok f s') D
  | .stuck => False
def SndX (G : Gd) (K : Frag) (Wx : WX) (m : MS) (t : TS) : Prop := ∀ (W : Wd) (B0 H0 : Hp) (σ : L2.St) (B H : Hp) (ls : List Sl) (s : DS) (D : Ends), Gr W B0 H0 B H → W.ok s H → Sm G W K H0 B H σ ls → AnsX G W K Wx B0 H0 B H σ (m ls s) D → t D σ H
structure SX (G : Gd) (X : Cx) (Wx : WX) (st : Stmt) (m : MS) : Prop where
  ex : ∃ t, PS X st t ∧ SndX G X.K Wx m t
theorem SX.ss {X : Cx} {Wx : WX} {st : Stmt} {m : MS} (h : SX G X Wx st m) : SS G X Wx st m := by
  obtain ⟨t, pt, ht⟩ := h.ex
  refine ⟨t, pt, fun W B0 H0 σ B H ls s D g w sm h => ht W B0 H0 σ B H ls s D g w sm ?_⟩
  cases e : m ls s with
  | stuck => rw [e] at h; exact h
  | exc C fs s' =>
    rw [e] at h
    exact fun od B' H' g' w' x => h od σ B' H' (g.trans g') w' x
  | ok f s' => rw [e] at h; exact h
section
variable {X : Cx} {Wx : WX} {e : Expr} {es : List Expr} {me : Mir D} {ms : Mir (List D)} {pos p : Pos} {k : Nat} {x : Str} {C : Addr} {ns ks : List Str}
theorem sx_set {i : Nat} {pos' : Pos} (hN : X.N.Nodup) (he : SE G X Wx e me) (hi : X.N[i]? = some x := by rfl) (hx : Loc X.env.scope x := by first | exact Or.inl rfl | exact Or.inr rfl) (hs : swapsWith e (some (.Name x pos')) pos.line X.env = pure false := by rfl)
    (hf : X.fn x = true ∨ X.env.scope.names.lookup x = some .local := by first | exact .inl rfl | exact .inr rfl | assumption) : SX G X Wx (.Assign [.Name x pos'] e pos) (fun ls => bnd (me ls) fun d => ret (.nx (ls.set i (.va d)))) := by
  obtain ⟨t, pt, ht⟩ := he.ex
  refine ⟨_, ps_set hN hi hx pt hs hf, fun W B0 H0 σ B H ls s D g w sm h => ht W H0 σ B H ls s _ g.kn w sm ?_⟩
  dsimp only at h
  cases e1 : me ls s with
  | stuck => rw [bnd_stk e1] at h; exact h
  | exc C fs s' => rw [bnd_exc e1] at h; exact h
  | ok d s1 =>
    rw [bnd_ok e1] at h
    exact fun v B1 H1 g1 w1 r1 => h _ B1 H1 (g.trans g1) w1 ((sm.grow g1).set_va r1)
def rzD (d : D) : M Fl := match d with
  | .exc C fs => thr C fs
  | _ => stk
theorem ExC.rz {pos' : Pos} (T : ExC X.prog X.w X.K X.mg X.base x C ns ks) (hc : X.calm = true) (hr : Room (k + 2) X.A) (tk : Takes X Wx) (hex : X.ex = []) (hg : Gl X x) (ha : SA G X Wx (e :: es) ms) (hn : ns.length ≤ 10 := by decide) (hdb : (x == ("__debug__" : Str)) = false := by decide)
    (he : starEach (e :: es) X.env = (false, eval e X.env) :: starEach es X.env := by rfl) (hpl : (backTo pos (starEach es X.env)).any (·.1) = false := by rfl) : SX G X Wx (.Raise (some (.Call (.Name x p) (e :: es) [] pos)) none pos') (fun ls => bnd (ms ls) fun ds => bnd (mkD C ns ds) rzD) := by
  obtain ⟨fI, fd, ps, c, i, t, o, b1, b2⟩ := T.ex
  obtain ⟨ta, pa, ha⟩ := ha.ex
  refine ⟨_, ps_raise hc tk (pmk_A ⟨c, i, t, o⟩ (hr.mono (by omega)) tk hex hg T.gm T.kp (fun s us _ l => b1 s us l) hn pa hdb he hpl), fun W B0 H0 σ B H ls s D g w sm h => ha W H0 σ B H ls s _ g.kn w sm ?_⟩
  dsimp only at h
  cases e1 : ms ls s with
  | stuck => rw [bnd_stk e1] at h; exact h
  | exc C fs s' => rw [bnd_exc e1] at h; exact h
  | ok ds s1 =>
    rw [bnd_ok e1] at h
    intro vs B1 H1 g1 w1 r1
    unfold mkD at h
    split at h
    · rename_i hl
      have h : ∀ (od : Option Addr) (B' H' : Hp), Gr W B H B' H' → W.ok s1 H' → XFl X.K B' od (ns.zip ds).reverse → Wx (.ref C) od σ H' := h
      have el := r1.len
      have ez := zip_rev (l := ns) (r := ds) hl.symm
      refine ⟨by rw [el]; exact hl, fun en => ?_, fun en dx hd => ?_⟩
      · subst en
        exact h none B1 H1 g1 w1 ⟨[], [], [], rfl, rfl, .nil, rfl⟩
      · have g2 := Gr.new (o := HO.xd (ns.zip vs).reverse) g1.kn w1 hd
        refine h (some dx) _ _ (g1.trans g2) (w1.st (sub_new hd)) ⟨ns.reverse, vs.reverse, ds.reverse, ?_, by simp [el, hl], (r1.mono g2.bb).rev, ez⟩
        show upd _ dx _ dx = _
        rw [upd_same, zip_rev (by rw [el, hl])]
    · exact (show False from h).elim
theorem ExC.rz0 {pos' : Pos} (T : ExC X.prog X.w X.K X.mg X.base x C [] ks) (hc : X.calm = true) (hr : Room (k + 2) X.A) (tk : Takes X Wx) (hex : X.ex = []) (hg : Gl X x) (hdb : (x == ("__debug__" : Str)) = false := by decide) :
    SX G X Wx (.Raise (some (.Call (.Name x p) [] [] pos)) none pos') (fun _ => thr C []) := by
  obtain ⟨fI, fd, ps, c, i, t, o, b1, b2⟩ := T.ex
  refine ⟨_, ps_raise hc tk (pmk_0 ⟨c, i, t, o⟩ (hr.mono (by omega)) tk hex hg T.gm T.kp (fun s us _ l => b1 s us l) hdb), fun W B0 H0 σ B H ls s D g w sm h => ?_⟩
  exact h none B H (Gr.refl g.kn) w ⟨[], [], [], rfl, rfl, .nil, rfl⟩
end
end PV
set_option maxHeartbeats 4000000
/-! try: st / except t as n: y = n. -/
namespace PV
open PySem PySem.W PySem.Calls PyProof.Rows L2
variable {G : Gd}
/-- the test of an except clause: m tells of each class whether it is caught -/
def TestOk (X : Cx) (t : Expr) (m : Value → Option Bool) : Prop := ∀ (a : Addr) (oe : Obj) (pn : List (Addr × Obj)) (σ : L2.St) (H : Hp) (s : Shared) (cls : Value) (b : Bool) (Q : Bool → Shared → Prop) (E : Value → Shared → Prop), Inv (X.suite a ((a, oe) :: pn)) [] σ H s → oe.cls = cls → m cls = some b →
  (∀ h' : Heap, (∀ c o, s.heap.get? c = some o → h'.get? c = some o) → Q b { s with heap := h' }) → wpAny (model X.prog X.w) (X.A.mark (some (.ref a))) (eval t X.env) (fun c s1 => wpAny (model X.prog X.w) (X.A.mark (some (.ref a))) (excMatches (.ref a) c) Q E s1) E s
section
variable {X : Cx}
theorem test_ty {a : Addr} {oe : Obj} {pn : List (Addr × Obj)} {σ : L2.St} {H : Hp} {s : Shared} {cls : Value} (I : Inv (X.suite a ((a, oe) :: pn)) [] σ H s) (hc : oe.cls = cls) : Looks (model X.prog X.w) s.heap (typeOf (.ref a)) cls := fun A Q E s2 k q => by
  obtain ⟨ga, _⟩ := I.pin (a, oe) (List.mem_append_left _ List.mem_cons_self)
  exact wpAny_typeOf_ref (k _ _ ga) (by rw [hc]; exact q)
theorem test1 {x : Str} {np : Pos} {C : Addr} (hg : Gl X x) (hm : X.mg x = some (.ref C)) (hd : (x == ("__debug__" : Str)) = false := by decide) : TestOk X (.Name x np) (fun cls => exmOne X.K cls (.ref C)) := fun a oe pn σ H s cls b Q E I hc hb q =>
  ld_glob (X := X.suite a ((a, oe) :: pn)) I hg hm ((exm_one I.kIn (test_ty I hc) hb).here (q s.heap fun _ _ z => z)) hd
theorem test2 {x1 x2 : Str} {p1 p2 tp : Pos} {kk : Nat} {C1 C2 : Addr} (g1 : Gl X x1) (m1 : X.mg x1 = some (.ref C1)) (g2 : Gl X x2) (m2 : X.mg x2 = some (.ref C2)) (d1 : (x1 == ("__debug__" : Str)) = false := by decide) (d2 : (x2 == ("__debug__" : Str)) = false := by decide) :
    TestOk X (.Tuple [.Name x1 p1, .Name x2 p2] kk tp) (fun cls => exmAny X.K cls [.ref C1, .ref C2]) := fun a oe pn σ H s cls b Q E I hc hb q => by
  refine wpAny_Tuple (wpAny_items_cons (ld_glob (X := X.suite a ((a, oe) :: pn)) I g1 m1 (wpAny_items_cons (ld_glob (X := X.suite a ((a, oe) :: pn)) I g2 m2 (wpAny_items_nil ⟨by size_fits, ?_⟩) d2)) d1))
  have up : ∀ c o, s.heap.get? c = some o → (s.heap.push ({ cls := .type "tuple", data := .seq [Value.ref C1, Value.ref C2].toArray } : Obj)).get? c = some o := fun _ _ z => Heap.get?_push_of_some _ z
  exact (exm_tup2 (I.kIn.keeps up) ((test_ty I hc).keeps up) (Heap.get?_push_size s.heap rfl) hb).here (q _ up)
end
/-- what the clause wishes of an exception -/
def wCat (m : Value → Option Bool) (i j : Nat) (Wout : WX) (D : Ends) : WX := fun cls d σ H => ∃ b, m cls = some b ∧
  (b = true → ∃ C, cls = .ref C ∧ ∀ a, H a = none → D.nx (((σ.set i (some (.ref a))).set j (some (.ref a))).set i none) (upd H a (xlo a C d))) ∧ (b = false → Wout cls d σ H)
theorem fly_keeps {B h h' : Heap} {l : List Env} {a : Addr} {Z : Obj → Prop} (x : HandSPX.FlyingZ B l a Z h) (k : ∀ c o, h.get? c = some o → h'.get? c = some o) : HandSPX.FlyingZ B l a Z h' := by
  obtain ⟨x1, x2, x3, oe, vs, T, oT, ts, y1, y2, y3, y4, y5, y6, y7, y8, y9⟩ := x
  exact ⟨fun b o e => k b o (x1 b o e), x2, x3.of_keeps fun b o e _ => ⟨o, k b o e, rfl⟩, oe, vs, T, oT, ts, k _ _ y1, y2, y3, y4, y5, y6, k _ _ y7, y8, y9⟩
section
variable {X : Cx} {y n : Str} {i j : Nat} {body : List Stmt} {t : Expr} {m : Value → Option Bool} {p1 p2 p3 pos pos' : Pos} {tb : WX → TS} {Wout : WX}
theorem try_raw (hs : X.stack = X.env :: X.outer) (hf : X.env.frame = some X.env.locals) (hex : X.ex = []) (hN : X.N.Nodup) (hi : X.N[i]? = some n) (hln : X.env.kindOf n = some .local) (hj : X.N[j]? = some y) (hly : X.env.kindOf y = some .local) (ht : TestOk X t m) (tk : Takes X Wout)
    (hsw : swapsWith (.Name n p2) (some (.Name y p1)) p3.line X.env = pure false) (hd : (n == ("__debug__" : Str)) = false) (hcd : (n == ("__classdict__" : Str)) = false)
    (hb : ∀ (W : WX) (pn : List (Addr × Obj)) (xe : Value → Shared → Prop), Takes (X.tr pn xe) W → PassesOwn (model X.prog X.w) X.A X.env xe → PSs (X.tr pn xe) body (tb W)) :
    PS X (.Try body [.ExceptHandler (some t) (some n) [.Assign [.Name y p1] (.Name n p2) p3] pos'] [] [] pos) (fun D σ H => tb (wCat m i j Wout D) D σ H) := by
  refine ⟨fun pins s σ H D I h => ?_⟩
  have ok := I.ok
  have fr : X.A.frames = some (X.env :: X.outer) := ok.frames.trans (congrArg some hs)
  refine wpAny_Try_except (wpAny_mono ((hb (wCat m i j Wout D) (X.pn ++ pins) _ (fun u s' xx => ?_) PassesOwn.looking).run [] s σ H D (I.toTry _) h) (fun f s1 hsp => ?_) (fun e s1 he => he))
  · obtain ⟨a, B, sI, pins', σ', H', cls, d, rfl, J', nb, up, sky, na, os, ag, b, hb1, hyes, hno⟩ := xx
    have J : Inv X pins σ' H' sI := J'.ofTry ok
    rw [show (X.tr (X.pn ++ pins) _).stack = X.env :: X.outer from hs] at sky
    refine Sky.land Zc.steady fr hf sky fun h3 fl3 up3 => ?_
    have J3 : Inv X pins σ' H' { s' with heap := h3 } := J.landed nb fl3.1 (up.trans up3) os ag
    obtain ⟨o3, v3, g3, z3, d3⟩ := fl3.there
    have nfr : a ∉ frs (X.env :: X.outer) := fun hm => by
      obtain ⟨_, o', e', hnf⟩ := fl3.2.2.1.mem hm
      rw [g3] at e'
      cases e'
      exact hnf _ d3
    have nL : a ≠ X.env.locals := fun z => nfr (List.mem_filterMap.mpr ⟨X.env, List.mem_cons_self, hf.trans (congrArg some z.symm)⟩)
    have nF : a ∉ X.fs := fun hm => by
      obtain ⟨e, he, q⟩ := List.mem_filterMap.mp hm
      exact nfr (List.mem_filterMap.mpr ⟨e, List.mem_cons_of_mem _ he, q⟩)
    have nB : ∀ {b : Addr} {o : Obj}, sI.heap.get? b = some o → b ∉ frs X.stack → b ≠ a := fun {b o} e n z => by
      have q := nb b o e n
      rw [z, fl3.2.1] at q
      cases q
    have n0 : X.s_0.heap.get? a = none := by
      cases e : X.s_0.heap.get? a with
      | none => rfl
      | some o =>
        obtain ⟨o', z⟩ := J.base.there a o e (by rw [hex]; simp)
        exact absurd rfl (nB z (by rw [hs]; exact nfr))
    have np : ∀ p ∈ X.pn ++ pins, p.1 ≠ a := fun p hp => by
      obtain ⟨q1, _, q3, q4, _⟩ := J.pin p hp
      refine nB q1 fun z => ?_
      rcases List.mem_cons.mp (J.stkSub _ z) with e | e
      · exact q3 e
      · exact q4 e
    have S3 := J3.suite g3 d3 na nL nF
    refine wpAny_handleBy_cons (codeAny_handlers_test (ht a o3 _ σ' H' _ cls b _ _ S3 z3.1 hb1 fun h5 k5 => ?_)) (by intro q; cases q)
    have fl5 := fly_keeps fl3 k5
    have up5 : sI.heap.UpToSlots h5 := (up.trans up3).trans fun c o e _ => ⟨o.slots, k5 c o e⟩
    cases b with
    | true =>
      obtain ⟨C, eC, yes⟩ := hyes rfl
      subst eC
      refine codeAny_handlers_suite_as (HandSPX.lands_againZ fl5 fun h4 fl4 up4 => ?_)
      have J4 : Inv X pins σ' H' { s' with heap := h4 } := J.landed nb fl4.1 (up5.trans up4) os ag
      obtain ⟨o4, v4, g4, z4, d4⟩ := fl4.there
      refine store_ok (X := X.suite a ((a, o4) :: (X.pn ++ pins))) (v := .ref a) (J4.suite g4 d4 na nL nF) hN hi (.inl hln) rfl (fun s5 S5 => ?_) (.inr hln)
      have pst := pss_one (ps_set (X := X.suite a ((a, o4) :: (X.pn ++ pins))) (pos := p3) hN hj (Or.inl hly) (pe_var (pos := p2) hi (Or.inl hln) hd hcd) hsw (.inr hly))
      have hlt : i < σ'.length := by
        have := (List.getElem?_eq_some_iff.mp hi).1
        rw [J.len]
        exact this
      refine wpAny_mono (pst.run [] s5 _ H' { nx := fun σ6 H6 => σ6 = ((σ'.set i (some (.ref a))).set j (some (.ref a))) ∧ H6 = H', rt := fun _ _ => False } S5 ⟨.ref a, by rw [List.getElem?_set_self hlt], rfl, rfl⟩) (fun f s6 hsp => ?_) (fun _ _ z => False.elim z)
      cases f with
      | next =>
        obtain ⟨σ6, H6, S6, e6, e7⟩ := hsp
        subst e6 e7
        have J6 : Inv X ((a, o4) :: pins) ((σ'.set i (some (.ref a))).set j (some (.ref a))) H6 s6 := ⟨ok, S6.os, S6.bare, S6.base, S6.loc, S6.cell, S6.free, S6.freeC, fun p hp => S6.pin p (List.mem_append_left _ (by
          rcases List.mem_append.mp hp with z | z
          · exact List.mem_cons_of_mem _ (List.mem_append_left _ z)
          · rcases List.mem_cons.mp z with z | z
            · rw [z]; exact List.mem_cons_self
            · exact List.mem_cons_of_mem _ (List.mem_append_right _ z))), S6.hok, S6.len⟩
        refine gone_ok J6 hN hi hln fun s7 J7 => ?_
        obtain ⟨g7, n7, _⟩ := J7.pin (a, o4) (List.mem_append_right _ List.mem_cons_self)
        have J8 : Inv X pins (((σ'.set i (some (.ref a))).set j (some (.ref a))).set i none) H6 s7 := ⟨J7.ok, J7.os, J7.bare, J7.base, J7.loc, J7.cell, J7.free, J7.freeC, fun p hp => J7.pin p (by
          rcases List.mem_append.mp hp with z | z
          · exact List.mem_append_left _ z
          · exact List.mem_append_right _ (List.mem_cons_of_mem _ z)), J7.hok, J7.len⟩
        obtain ⟨oc, od, dt, sl⟩ := o4
        obtain ⟨z41, z42⟩ := z4
        dsimp only at z41 z42 d4
        subst z41 z42 d4
        exact ⟨_, _, inv_track (o := xlo a C od) J8 g7 rfl n7 n0 nL np (xlo_ok g7), yes a na⟩
      | brk => obtain ⟨_, _, _, z⟩ := hsp; exact (show False from z).elim
      | cont => obtain ⟨_, _, _, z⟩ := hsp; exact (show False from z).elim
      | ret u => obtain ⟨_, _, _, _, _, z⟩ := hsp; exact (show False from z).elim
    | false =>
      show wpAny _ X.A (handleBy (.ref a) X.env []) _ _ _
      refine wpAny_handleBy_nil ?_
      obtain ⟨_, _, _, oe, vs, T, oT, ts', he, hz, hdd, h1, _⟩ := id fl5
      unfold PySem.passOn
      refine wpAny_bind (wpAny_field he hdd h1 ?_)
      rw [if_neg (show ¬ ((Value.ref T == Value.none) = true) from by simp)]
      have fin : wpAny (model X.prog X.w) X.A (setFlight (.ref a) X.env.frame) (fun _ s4 => wpAny (model X.prog X.w) X.A (throw (.ref a) : Sem Flow) (SP X pins D) X.xe s4) X.xe { s' with heap := h5 } := by
        rw [hf]
        refine HandSPX.setFlight_upZ fl5 fun h4 hh4 up4 => wpAny_throw (tk _ _ ?_)
        exact ⟨a, B, sI, pins, σ', H', cls, d, rfl, J, nb, up5.trans up4, .inr (.inr (by rw [hs]; exact hh4)), na, os, ag, hno rfl⟩
      first
        | exact wpAny_bind (wpAny_pure (wpAny_bind fin))
        | exact wpAny_bind fin
  · cases f with
    | next =>
      obtain ⟨σ', H', J', q⟩ := hsp
      exact wpAny_execs_nil ⟨σ', H', J'.ofTry ok, q⟩
    | brk =>
      obtain ⟨σ', H', J', q⟩ := hsp
      exact ⟨σ', H', J'.ofTry ok, q⟩
    | cont =>
      obtain ⟨σ', H', J', q⟩ := hsp
      exact ⟨σ', H', J'.ofTry ok, q⟩
    | ret u =>
      obtain ⟨v, σ', H', J', r, q⟩ := hsp
      exact ⟨v, σ', H', J'.ofTry ok, r, q⟩
/-! ### as a sound statement -/
theorem PS.imp {st : Stmt} {t t' : TS} (h : PS X st t) (q : ∀ D σ H, t' D σ H → t D σ H) : PS X st t' := ⟨fun pins s σ H D I z => h.run pins s σ H D I (q D σ H z)⟩
def mTry (mb : MS) (mc : Addr → Option Bool) (i j : Nat) : MS := fun ls s => match mb ls s with
  | .exc C fs s' => (match mc C with
    | some true => .ok (.nx (((ls.set i .un).set j (.va (.exc C fs))).set i .un)) s'
    | some false => .exc C fs s'
    | none => .stuck)
  | r => r
theorem ss_try {st : Stmt} {Wx : WX} {mb : MS} {mc : Addr → Option Bool} (hs : X.stack = X.env :: X.outer) (hf : X.env.frame = some X.env.locals) (hex : X.ex = []) (hN : X.N.Nodup) (tk : Takes X Wx) (ht : TestOk X t m) (hm : ∀ C b, mc C = some b → m (.ref C) = some b)
    (hb : ∀ (W : WX) (pn : List (Addr × Obj)) (xe : Value → Shared → Prop), Takes (X.tr pn xe) W → PassesOwn (model X.prog X.w) X.A X.env xe → SX G (X.tr pn xe) W st mb)
    (hi : X.N[i]? = some n := by rfl) (hln : X.env.kindOf n = some .local := by rfl) (hj : X.N[j]? = some y := by rfl) (hly : X.env.kindOf y = some .local := by rfl) (hsw : swapsWith (.Name n p2) (some (.Name y p1)) p3.line X.env = pure false := by rfl) (hd : (n == ("__debug__" : Str)) = false := by decide) (hcd : (n == ("__classdict__" : Str)) = false := by decide) :
    SS G X Wx (.Try [st] [.ExceptHandler (some t) (some n) [.Assign [.Name y p1] (.Name n p2) p3] pos'] [] [] pos) (mTry mb mc i j) := by
  have ps := try_raw (pos := pos) (pos' := pos') (p1 := p1) (p2 := p2) (p3 := p3) (tb := fun W D σ H => ∀ t, SndX G X.K W mb t → t D σ H) hs hf hex hN hi hln hj hly ht tk hsw hd hcd fun W pn xe h1 h2 => by
    obtain ⟨t, pt, h⟩ := (hb W pn xe h1 h2).ex
    exact pss_one (PS.imp pt fun D σ H z => z t h)
  refine ⟨_, ps, fun W B0 H0 σ B H ls s D g w sm h u hu => ?_⟩
  refine hu W B0 H0 σ B H ls s D g w sm ?_
  unfold mTry at h
  cases e : mb ls s with
  | stuck => rw [e] at h; exact h
  | ok f s' => rw [e] at h; cases f <;> exact h
  | exc C fs s' =>
    rw [e] at h
    dsimp only at h
    intro od B1 H1 g1 w1 x1
    cases ec : mc C with
    | none => rw [ec] at h; exact (show False from h).elim
    | some b =>
      rw [ec] at h
      refine ⟨b, hm C b ec, fun hb => ?_, fun hb => ?_⟩
      · subst hb
        refine ⟨C, rfl, fun a ha => ?_⟩
        have g2 := Gr.new (o := xlo a C od) g1.kn w1 ha
        have g3 := g1.trans g2
        obtain ⟨ns, vs, ds, y1, y2, y3, y4⟩ := x1
        have dv : Dv X.K (upd B1 a (xlo a C od)) (.ref a) (.exc C fs) := by
          rw [y4]
          exact .exc upd_same (g2.bb.xd y1) y2 (y3.mono g2.bb)
        exact h _ _ _ (g.trans g3) (w1.st (sub_new ha)) ((((sm.grow g3).set_un).set_va dv).set_un)
      · subst hb
        exact h od σ B1 H1 (g.trans g1) w1 x1
end
end PV
set_option maxHeartbeats 4000000
/-! a, b = x, y; min; keywords the other way round. -/
namespace PV
open PySem PySem.W PySem.Calls PyProof.Rows L2
variable {G : Gd}
section
variable {X : Cx} {Wx : WX} {pos : Pos} {ms : Mir (List D)}
def par2 (i j : Nat) (ls : List Sl) (ds : List D) : M Fl := match ds with
  | [a, b] => ret (.nx ((ls.set i (.va a)).set j (.va b)))
  | _ => stk
theorem ss_par {i j : Nat} {x y : Str} {a b : Expr} {px py pt : Pos} {kt k2 pt2} (hc : X.calm = true) (hN : X.N.Nodup) (ha : SA G X Wx [a, b] ms) (hi : X.N[i]? = some x := by rfl) (hj : X.N[j]? = some y := by rfl) (hij : i ≠ j := by decide)
    (hx : X.env.scope.names.lookup x = some .local := by rfl) (hy : X.env.scope.names.lookup y = some .local := by rfl)
    (hw : swappedStores [.Tuple [.Name x px, .Name y py] kt pt] (.Tuple [a, b] k2 pt2) X.env = pure (some [x, y]) := by rfl)
    (hs : swapsWithSole [.Tuple [.Name x px, .Name y py] kt pt] (.Tuple [a, b] k2 pt2) pos.line X.env = pure false := by rfl) :
    SS G X Wx (.Assign [.Tuple [.Name x px, .Name y py] kt pt] (.Tuple [a, b] k2 pt2) pos) (fun ls => bnd (ms ls) (par2 i j ls)) := by
  obtain ⟨t, pt, ht⟩ := ha.ex
  refine ⟨_, ps_par hc hN hi hj hij hx hy pt hw hs, fun W B0 H0 σ B H ls s D g w sm h => ht W H0 σ B H ls s _ g.kn w sm ?_⟩
  cases e1 : ms ls s with
  | stuck => rw [bnd_stk e1] at h; exact h
  | exc C fs s' =>
    rw [bnd_exc e1] at h
    exact fun od B' H' g' w' x => h od σ B' H' (g.trans g') w' x
  | ok ds s1 =>
    rw [bnd_ok e1] at h
    intro vs B1 H1 g1 w1 r1
    unfold par2 at h
    split at h
    · cases r1 with
      | cons a1 r1 =>
        cases r1 with
        | cons a2 r1 =>
          cases r1
          exact ⟨_, _, rfl, h _ B1 H1 (g.trans g1) w1 (((sm.grow g1).set_va a1).set_va a2)⟩
    · exact (show False from h).elim
def par3 (i j l : Nat) (ls : List Sl) (ds : List D) : M Fl := match ds with
  | [a, b, c] => ret (.nx (((ls.set i (.va a)).set j (.va b)).set l (.va c)))
  | _ => stk
theorem ss_par3 {i j l : Nat} {x y z : Str} {a b c : Expr} {px py pz pt : Pos} {kt k2 pt2} (hc : X.calm = true) (hN : X.N.Nodup) (ha : SA G X Wx [a, b, c] ms) (hi : X.N[i]? = some x := by rfl) (hj : X.N[j]? = some y := by rfl) (hl : X.N[l]? = some z := by rfl) (hij : i ≠ j := by decide) (hil : i ≠ l := by decide) (hjl : j ≠ l := by decide)
    (hx : X.env.scope.names.lookup x = some .local := by rfl) (hy : X.env.scope.names.lookup y = some .local := by rfl) (hz : X.env.scope.names.lookup z = some .local := by rfl)
    (hw : swappedStores [.Tuple [.Name x px, .Name y py, .Name z pz] kt pt] (.Tuple [a, b, c] k2 pt2) X.env = pure (some [x, y, z]) := by rfl)
    (hs : swapsWithSole [.Tuple [.Name x px, .Name y py, .Name z pz] kt pt] (.Tuple [a, b, c] k2 pt2) pos.line X.env = pure false := by rfl) :
    SS G X Wx (.Assign [.Tuple [.Name x px, .Name y py, .Name z pz] kt pt] (.Tuple [a, b, c] k2 pt2) pos) (fun ls => bnd (ms ls) (par3 i j l ls)) := by
  obtain ⟨t, pt, ht⟩ := ha.ex
  refine ⟨_, ps_par3 hc hN hi hj hl hij hil hjl hx hy hz pt hw hs, fun W B0 H0 σ B H ls s D g w sm h => ht W H0 σ B H ls s _ g.kn w sm ?_⟩
  cases e1 : ms ls s with
  | stuck => rw [bnd_stk e1] at h; exact h
  | exc C fs s' =>
    rw [bnd_exc e1] at h
    exact fun od B' H' g' w' x => h od σ B' H' (g.trans g') w' x
  | ok ds s1 =>
    rw [bnd_ok e1] at h
    intro vs B1 H1 g1 w1 r1
    unfold par3 at h
    split at h
    · cases r1 with
      | cons a1 r1 =>
        cases r1 with
        | cons a2 r1 =>
          cases r1 with
          | cons a3 r1 =>
            cases r1
            exact ⟨_, _, _, rfl, h _ B1 H1 (g.trans g1) w1 ((((sm.grow g1).set_va a1).set_va a2).set_va a3)⟩
    · exact (show False from h).elim
def minD (ds : List D) : M D := match ds with
  | [.int i, .int j] => ret (.int (if j < i then j else i))
  | _ => stk
theorem c_min (hc : X.calm = true) : Cl X (.builtin "min") minD := by
  refine ⟨_, call_min2 hc, fun W B H s vs ds Q E k w r h => ?_⟩
  unfold minD at h
  split at h
  · cases r with
    | cons a r =>
      cases r with
      | cons b r =>
        cases r
        rw [a.int, b.int]
        exact ⟨_, _, rfl, h.ret_ k w (.int _)⟩
  · exact (show False from h).elim
end
/-! ### a module's constants -/
section
variable {X : Cx} {Wx : WX} {pos : Pos} {x : Str}
theorem se_gint {i : Int} (hg : Gl X x) (hm : ∃ t, X.mg x = some (.int i t)) (hd : (x == ("__debug__" : Str)) = false := by decide) : SE G X Wx (.Name x pos) (fun _ => ret (.int i)) := by
  obtain ⟨t, h⟩ := hm
  exact se_glob (v := .int i) hg h ⟨t, rfl⟩ (fun _ => .int i) hd
theorem se_gstr {z : Str} (hg : Gl X x) (hm : ∃ t, X.mg x = some (.str z t)) (hd : (x == ("__debug__" : Str)) = false := by decide) : SE G X Wx (.Name x pos) (fun _ => ret (.str z)) := by
  obtain ⟨t, h⟩ := hm
  exact se_glob (v := .str z) hg h ⟨t, rfl⟩ (fun _ => .str z) hd
end
/-! ### what an except clause catches -/
def catTab (rows : List (Addr × Bool)) : Addr → Option Bool := fun C => (rows.find? fun r => decide (r.1 = C)).map (·.2)
def catB1 (K : Frag) (c : Addr) (rows : List (Addr × Bool)) : Bool := rows.all fun r => decide (exmOne K (.ref r.1) (.ref c) = some r.2)
def catB2 (K : Frag) (c d : Addr) (rows : List (Addr × Bool)) : Bool := rows.all fun r => decide (exmAny K (.ref r.1) [.ref c, .ref d] = some r.2)
theorem catTab_in {rows : List (Addr × Bool)} {C : Addr} {b : Bool} (h : catTab rows C = some b) : (C, b) ∈ rows := by
  unfold catTab at h
  cases e : rows.find? fun r => decide (r.1 = C) with
  | none => rw [e] at h; cases h
  | some r =>
    rw [e] at h
    cases h
    have h1 := List.mem_of_find?_eq_some e
    have h2 : r.1 = C := by simpa using List.find?_some e
    subst h2
    exact h1
theorem catB1_ok {K : Frag} {c : Addr} {rows : List (Addr × Bool)} (h : catB1 K c rows = true) : ∀ C b, catTab rows C = some b → exmOne K (.ref C) (.ref c) = some b := fun C b e =>
  of_decide_eq_true (List.all_eq_true.mp h _ (catTab_in e))
theorem catB2_ok {K : Frag} {c d : Addr} {rows : List (Addr × Bool)} (h : catB2 K c d rows = true) : ∀ C b, catTab rows C = some b → exmAny K (.ref C) [.ref c, .ref d] = some b := fun C b e =>
  of_decide_eq_true (List.all_eq_true.mp h _ (catTab_in e))
/-! ### C(b = .., a = ..) -/
structure ExW (P : Program) (w : World) (K : Frag) (mg : Str → Option Value) (base : Heap) (x : Str) (C : Addr) (n1 n2 k1 k2 : Str) : Prop where
  ex : ∃ (fI : Addr) (fd : FuncData) (ps : List Str), (∃ B newId initId bmB, XC K C B newId initId bmB) ∧ findIn K (.ref C) "__init__" = some (some (.ref fI)) ∧ typeIn K (.ref fI) = some (.type "function") ∧ FnOk P w K mg base (L2.CX P w) 1 fI fd ps (spI C [n1, n2]) ∧
    ∀ (s : Shared) (a : Addr) (u v : Value), BindsTo s fd ⟨[.ref a], [(k2, u), (k1, v)]⟩ (ps.zip [.ref a, v, u])
  gm : mg x = some (.ref C)
  kp : keepIn K (.ref C) = true
def swD (ds : List D) : M (List D) := match ds with
  | [a, b] => ret [b, a]
  | _ => stk
theorem ExW.kw {X : Cx} {Wx : WX} {ms : Mir (List D)} {pos p : Pos} {k : Nat} {x n1 n2 k1 k2 : Str} {C : Addr} {kws : List Keyword} (T : ExW X.prog X.w X.K X.mg X.base x C n1 n2 k1 k2) (hr : Room (k + 2) X.A) (tk : Takes X Wx) (hg : Gl X x) (ha : SK G X Wx kws ms)
    (hall : (backToKw pos (keywordEach kws X.env)).all (·.1.isSome) = true := by rfl) (hks : (backToKw pos (keywordEach kws X.env)).filterMap (·.1) = [k2, k1] := by rfl)
    (hdb : (x == ("__debug__" : Str)) = false := by decide) (hpl : ((backTo pos (starEach [] X.env)).any (·.1) || (backToKw pos (keywordEach kws X.env)).any (·.1.isNone)) = false := by rfl) :
    SE G X Wx (.Call (.Name x p) [] kws pos) (fun ls => bnd (ms ls) fun ds => bnd (swD ds) (mkD C [n1, n2])) := by
  obtain ⟨fI, fd, ps, c, i, ty, o, b⟩ := T.ex
  obtain ⟨t, pt, ht⟩ := ha.ex
  refine ⟨fun σ H Q => t σ H fun vs H1 => ∃ y z, vs = [y, z] ∧ mkQ C [n1, n2] [z, y] H1 Q, ⟨fun pins s σ H Q I h => ?_⟩, fun W H0 σ B H ls s Q k w sm h => ?_⟩
  · refine wpAny_Call_Name_kw (ld_glob I hg T.gm ?_ hdb)
    refine callWith_KW0 (h₀ := X.base) I.ok.mod.kin T.kp hall (thn (pt.run pos pins s σ H _ I h) fun us s1 ⟨vs, H1, I1, r1, y, z, ev, q1⟩ => ⟨I1.kIn, ?_⟩) hpl
    rw [hks]
    subst ev
    obtain ⟨u, v, rfl, ru, rv⟩ := vals2 r1
    show wpAny _ _ (call (.ref C) [] [(k2, u), (k1, v)]) _ _ _
    exact run_mkx ⟨c, i, ty, o⟩ (hr.mono (by omega)) tk I1 (by show 0 ≤ _; omega) (fun s a _ => b s a u v) (.cons rv (.cons ru .nil)) rfl q1
  · refine ht W H0 σ B H ls s _ k w sm ?_
    cases e1 : ms ls s with
    | stuck => rw [bnd_stk e1] at h; exact h
    | exc C fs s' => rw [bnd_exc e1] at h; exact h
    | ok ds s1 =>
      rw [bnd_ok e1] at h
      intro vs B1 H1 g1 w1 r1
      have h := h.grow g1
      unfold swD at h
      split at h
      · cases r1 with
        | cons a1 r1 =>
          cases r1 with
          | cons a2 r1 =>
            cases r1
            exact ⟨_, _, rfl, mkQ_of g1.kn w1 (.cons a2 (.cons a1 .nil)) rfl h⟩
      · exact (show False from h).elim
end PV
set_option maxHeartbeats 4000000
/-! A lambda is made: its object is tracked. -/
namespace PV
open PySem PySem.W PySem.Calls PyProof.Rows L2
/-- the words of a lambda, the cells that it captured, its code object -/
structure LF where
  qual : Str
  params : Arguments
  body : Expr
  scope : Scope
  cl : List (Str × Addr)
  c : Addr
def LamO (f : Addr) (F : LF) : HO := .ext fun h => ∃ (pm ctv : Value), h.get? f = some (kla_obj "<lambda>" F.qual F.params F.body F.scope F.cl pm F.c ctv)
theorem lamO_ok {P : Program} {w : World} {H : Hp} {h : Heap} {f : Addr} {F : LF} {pm ctv : Value} (e : h.get? f = some (kla_obj "<lambda>" F.qual F.params F.body F.scope F.cl pm F.c ctv)) : ObjOk P w H h f (LamO f F) :=
  ⟨⟨pm, ctv, e⟩, ⟨_, e⟩, fun h1 h2 ⟨a, b, z⟩ k => ⟨a, b, k _ z⟩⟩
theorem lamO_at {P : Program} {w : World} {H : Hp} {h : Heap} {f : Addr} {F : LF} (hok : HOk P w H h) (e : H f = some (LamO f F)) : ∃ pm ctv, h.get? f = some (kla_obj "<lambda>" F.qual F.params F.body F.scope F.cl pm F.c ctv) := by
  have x : ObjOk P w H h f (.ext fun h => ∃ (pm ctv : Value), h.get? f = some (kla_obj "<lambda>" F.qual F.params F.body F.scope F.cl pm F.c ctv)) := hok f _ e
  exact x.1
/-- a table all of whose code objects bear the name q -/
abbrev tb1 (P : Addr) (q : Str) : NdefX.NTab := (P, fun _ _ => q)
/-- the reading of a lambda: f the function, c its code object -/
def tLam (T : List NdefX.NTab) (P : Addr) (mk : Addr → LF) : TE := fun σ H Q => NdefX.TabsN T H ∧ ∀ (f c : Addr) (H1 : Hp), (∀ b o, b ≠ P → H b = some o → H1 b = some o) → NdefX.TabsN T H1 → H f = none → H1 f = some (LamO f (mk c)) → H1 c = some (LamX.CodeO c (mk c).qual) → Q (.ref f) H1
section
variable {X : Cx}
theorem pe_lam {T : List NdefX.NTab} {c P : Addr} {q : Str} {params : Arguments} {body : Expr} {scope : Scope} {pos : Pos} (TB : LamX.TabB X.base X.mg c P) (hcode : X.env.code = .ref c) (hq : X.env.qual ++ "<lambda>" = q) (hm : tb1 P q ∈ T) (hu : ∀ p ∈ T, p.1 = P → p = tb1 P q)
    (hdef : defaultsOf params X.env = ([], [])) (hfree : ∀ y ∈ scope.names, y.2 = .free → X.env.scope.names.lookup y.1 = some .cell ∨ X.env.scope.names.lookup y.1 = some .free) :
    PE X (.Lambda params body scope pos) (tLam T P fun c' => ⟨q, params, body, scope, cloFrom X.env.cells scope.names [], c'⟩) := by
  refine ⟨fun pins s σ H Q I h => ?_⟩
  obtain ⟨hT, h⟩ := h
  have hcl : ∀ y ∈ scope.names, y.2 = .free → ∃ c, X.env.cells.lookup y.1 = some c := fun y hy e => (hfree y hy e).elim (fun z => I.ok.has _ (.inl z)) fun z => I.ok.has _ (.inr z)
  obtain ⟨ps, hP, tr, al⟩ : ∃ ps : Array Value, H P = some (.tbl ps) ∧ TriplesOk ps.toList ∧ ∀ (pos : Pos) (cv : Value), codeAmong pos ps.toList = some cv → ∃ c, cv = .ref c ∧ H c = some (LamX.CodeO c q) := hT _ hm
  have gP : s.heap.get? P = some { cls := .none, data := .fields ps } := I.hok P _ hP
  refine kla_eval hdef ?_
  rw [hq]
  cases hc : codeAmong pos ps.toList with
  | none =>
    refine kla_makeFunction (closure_ok hcl) I.ok.glob (I.mod.glob.keeps I.bk) hcode (TB.code.keeps I.bk) gP tr hc TB.gP (TB.bm.keeps I.bk) fun c' ctv h' tk hx hge hlt hrec htb => ?_
    obtain ⟨c2, oc, vs, t, e2, hoc, hd, hv⟩ := hrec
    cases e2
    have nC : H c' = none := I.hok.fresh hge
    have I1 := LamX.inv_table (t' := tk) (more := #[rawInt pos.line, rawInt pos.col, .ref c']) (h' := h') I hP (fun b o hb e => hx b o hb e) htb hge ⟨oc, vs, t, hoc, hd, hv⟩
    generalize hH1 : upd (upd H P (.tbl (ps ++ #[rawInt pos.line, rawInt pos.col, .ref c']))) c' (LamX.CodeO c' q) = H1 at I1
    have k1 : ∀ b o, b ≠ P → H b = some o → H1 b = some o := fun b o n e => by
      rw [← hH1, upd_ne (ne_of_none e nC), upd_ne n]
      exact e
    have eP : H1 P = some (.tbl (ps ++ #[rawInt pos.line, rawInt pos.col, .ref c'])) := by rw [← hH1, upd_ne (ne_of_none hP nC), upd_same]
    have eC : H1 c' = some (LamX.CodeO c' q) := by rw [← hH1, upd_same]
    have cP : ∀ {c0 : Addr}, H c0 = some (LamX.CodeO c0 q) → H1 c0 = some (LamX.CodeO c0 q) := fun {c0} e => k1 _ _ (fun z => by rw [z, hP] at e; unfold LamX.CodeO at e; cases e) e
    have lst : (ps ++ #[rawInt pos.line, rawInt pos.col, .ref c']).toList = ps.toList ++ [rawInt pos.line, rawInt pos.col, .ref c'] := by simp
    have T1 : NdefX.TabsN T H1 := fun p hp => by
      by_cases hb : p.1 = P
      · rw [hu p hp hb]
        refine ⟨_, eP, by rw [lst]; exact PySem.TriplesOk_snoc _ _ _ _ tr, fun p' cv hcv => ?_⟩
        rw [lst] at hcv
        rcases LamX.among_app _ tr hcv with z | z
        · obtain ⟨c0, e1, e2⟩ := al p' cv z
          exact ⟨c0, e1, cP e2⟩
        · exact ⟨c', z, eC⟩
      · obtain ⟨ps', a1, a2, a3⟩ := hT p hp
        refine ⟨ps', k1 _ _ hb a1, a2, fun p' cv hcv => ?_⟩
        obtain ⟨c0, e1, e2⟩ := a3 p' cv hcv
        exact ⟨c0, e1, k1 _ _ (fun z => by rw [z, hP] at e2; unfold LamX.CodeO at e2; cases e2) e2⟩
    have nF : H1 h'.objs.size = none := I1.hok.fresh (Nat.le_refl _)
    have I2 := I1.laid (a := h'.objs.size) (o := LamO h'.objs.size ⟨q, params, body, scope, cloFrom X.env.cells scope.names [], c'⟩) (t' := tk) (h' := h'.push (kla_obj "<lambda>" q params body scope (cloFrom X.env.cells scope.names []) ((X.mg "__name__").getD .none) c' ctv))
      (fun b u e => Heap.get?_push_of_some _ e) (Nat.le_refl _) (lamO_ok (Heap.get?_push_size _ rfl))
    refine ⟨.ref h'.objs.size, _, I2, rfl, h h'.objs.size c' _ (fun b o n e => ?_) (T1.ext fun b o e => sub_new nF b o e) (I.hok.fresh (Nat.le_trans hge (Nat.le_of_lt hlt))) upd_same (sub_new nF _ _ eC)⟩
    exact sub_new nF _ _ (k1 b o n e)
  | some cv =>
    obtain ⟨c', e, hco⟩ := al pos cv hc
    subst e
    refine kla_makeFunctionHit (closure_ok hcl) I.ok.glob (I.mod.glob.keeps I.bk) hcode (TB.code.keeps I.bk) gP tr hc (TB.bm.keeps I.bk) fun ctv h' tk hx hsz => ?_
    have I1 : Inv X pins σ H { s with heap := h', toks := tk } := I.kept hx
    have nF : H h'.objs.size = none := I1.hok.fresh (Nat.le_refl _)
    have I2 := I1.laid (a := h'.objs.size) (o := LamO h'.objs.size ⟨q, params, body, scope, cloFrom X.env.cells scope.names [], c'⟩) (t' := tk) (h' := h'.push (kla_obj "<lambda>" q params body scope (cloFrom X.env.cells scope.names []) ((X.mg "__name__").getD .none) c' ctv))
      (fun b u e => Heap.get?_push_of_some _ e) (Nat.le_refl _) (lamO_ok (Heap.get?_push_size _ rfl))
    exact ⟨.ref h'.objs.size, _, I2, rfl, h h'.objs.size c' _ (fun b o _ e => sub_new nF b o e) (hT.ext fun b o e => sub_new nF b o e) nF upd_same (sub_new nF _ _ hco)⟩
end
end PV
set_option maxHeartbeats 4000000
/-! A lambda's body: its context, its call. -/
namespace PV
open PySem PySem.W PySem.Calls PyProof.Rows L2
/-- parameters ps, no names of its own besides, captured ones -/
structure LamP (ps : List Str) (sc scope : Scope) : Prop where
  kind : scope.kind = .function
  co : scope.isCoroutine = false
  gen : scope.isGenerator = false
  own : ∀ y ∈ scope.names, y.2 ≠ .cell ∧ (y.2 = .local → y.1 ∈ ps)
  par : ∀ a ∈ ps, scope.names.lookup a = some .local
  free : ∀ y ∈ scope.names, y.2 = .free → sc.names.lookup y.1 = some .cell ∨ sc.names.lookup y.1 = some .free
  nd : ps.Nodup
def lamPB (ps : List Str) (sc scope : Scope) : Bool :=
  decide (scope.kind = .function) && (!scope.isCoroutine && (!scope.isGenerator && ((scope.names.all fun y => !decide (y.2 = .cell) && (!decide (y.2 = .local) || decide (y.1 ∈ ps))) && ((ps.all fun a => decide (scope.names.lookup a = some .local)) &&
    ((scope.names.all fun y => !decide (y.2 = .free) || (decide (sc.names.lookup y.1 = some .cell) || decide (sc.names.lookup y.1 = some .free))) && decide ps.Nodup)))))
theorem lamP_by {ps : List Str} {sc scope : Scope} (h : lamPB ps sc scope = true) : LamP ps sc scope := by
  unfold lamPB at h
  simp only [Bool.and_eq_true, Bool.or_eq_true, Bool.not_eq_true', decide_eq_true_eq, decide_eq_false_iff_not, List.all_eq_true] at h
  obtain ⟨h1, h2, h3, h4, h5, h6, h7⟩ := h
  exact ⟨h1, h2, h3, fun y hy => ⟨(h4 y hy).1, fun z => (h4 y hy).2.elim (fun n => absurd z n) id⟩, h5, fun y hy z => (h6 y hy).elim (fun n => absurd z n) id, h7⟩
abbrev lEnv (X : Cx) (q : Str) (scope : Scope) (L f c : Addr) : Env := envX q scope L f (.ref c) (cloFrom X.env.cells scope.names [])
/-- the context of the body, entered at s from the frames outer; N: the parameters and captured names -/
def lamC (X : Cx) (N : List Str) (q : Str) (scope : Scope) (f c : Addr) (A : Around) (outer : List Env) (s : Shared) (H : Hp) (E : XK) : Cx where
  prog := X.prog
  w := X.w
  K := X.K
  mg := X.mg
  base := X.base
  A := A.deeper (lEnv X q scope s.heap.objs.size f c)
  N := N
  s_0 := s
  H_0 := H
  env := lEnv X q scope s.heap.objs.size f c
  outer := outer
  stack := lEnv X q scope s.heap.objs.size f c :: outer
  ex := []
  fn := fun _ => false
  calm := true
  pn := []
  xe := fun e s' => wpAny (model X.prog X.w) (A.deeper (lEnv X q scope s.heap.objs.size f c)) (leaving (lEnv X q scope s.heap.objs.size f c) e) (fun _ s2 => L2.CX X.prog X.w outer H s E e s2) (fun e2 s2 => L2.CX X.prog X.w outer H s E e2 s2) s'
theorem paired_at {α β : Type} {F : α → β → Prop} : ∀ {l : List α} {r : List β} {i : Nat} {a : α}, Paired F l r → l[i]? = some a → ∃ b, r[i]? = some b ∧ F a b
  | _, _, _, _, .nil, e => by simp at e
  | _, _, 0, _, .cons h _, e => by simp at e; subst e; exact ⟨_, rfl, h⟩
  | _, _, i + 1, a, .cons _ t, e => by
    obtain ⟨b, h1, h2⟩ := paired_at (i := i) (a := a) t (by simpa using e)
    exact ⟨b, by simpa using h1, h2⟩
theorem look_zip_rev {ps : List Str} (nd : ps.Nodup) : ∀ {us : List Value} {i : Nat} {y : Str} {u : Value}, ps[i]? = some y → us[i]? = some u → (ps.zip us).reverse.lookup y = some u := by
  intro us i y u h1 h2
  have hm : (y, u) ∈ (ps.zip us).reverse := by
    rw [List.mem_reverse]
    refine List.mem_of_getElem? (i := i) ?_
    rw [List.getElem?_zip_eq_some]
    exact ⟨h1, h2⟩
  have uq : ∀ v, (y, v) ∈ (ps.zip us).reverse → v = u := fun v hv => by
    rw [List.mem_reverse] at hv
    obtain ⟨j, hj⟩ := List.mem_iff_getElem?.mp hv
    rw [List.getElem?_zip_eq_some] at hj
    have hij : j = i := by
      exact nodup_ix nd hj.1 h1
    subst hij
    have := hj.2
    rw [h2] at this
    exact (Option.some.inj this).symm
  generalize (ps.zip us).reverse = l at hm uq
  induction l with
  | nil => cases hm
  | cons p l ih =>
    obtain ⟨a, b⟩ := p
    by_cases e : y = a
    · subst e
      rw [List.lookup_cons_self, uq b List.mem_cons_self]
    · have hb : (y == a) = false := by simpa using e
      rw [List.lookup_cons, hb]
      rcases List.mem_cons.mp hm with z | z
      · cases z
        exact absurd rfl e
      · exact ih z fun v hv => uq v (List.mem_cons_of_mem _ hv)
section
variable {X : Cx} {pins : List (Addr × Obj)} {σ : L2.St} {H HZ : Hp} {s s1 : Shared}
theorem lam_in {A : Around} {outer : List Env} {E : XK} {ps : List Str} {cap : List (Nat × Str)} {q : Str} {scope : Scope} {f c : Addr} {h1 : Heap} {tk : Nat} {vs : List V} {us : List Value} (I : Inv X pins σ H s) (L : LamP ps X.env.scope scope) (e0 : Env0 X.prog X.w X.K X.mg X.base A outer s1 HZ) (hd : A.handled = none)
    (un : Un (frs X.stack) [] H HZ s.heap s1.heap) (hns : h1.Ns s1.heap.objs.size fun y => (ps.zip us).reverse.lookup y) (kp : ∀ b o, s1.heap.get? b = some o → h1.get? b = some o) (r : Vals vs us) (hl : vs.length = ps.length) (hc : ∀ p ∈ cap, X.N[p.1]? = some p.2 ∧ p.2 ∉ ps) :
    Inv (lamC X (ps ++ cap.map (·.2)) q scope f c A outer s1 HZ E) [] (vs.map some ++ cap.map fun p => (σ[p.1]?).getD none) HZ { s1 with heap := h1, toks := tk } := by
  have hf : ∀ y ∈ scope.names, y.2 = .free → ∃ c, X.env.cells.lookup y.1 = some c := fun y hy e => (L.free y hy e).elim (fun z => I.ok.has _ (.inl z)) fun z => I.ok.has _ (.inr z)
  have cm : ∀ {y c}, (cloFrom X.env.cells scope.names []).lookup y = some c → X.env.cells.lookup y = some c := fun {y c} e => by
    rcases cloFrom_mem (PySem.mem_of_lookup e) with z | ⟨z1, z2⟩
    · cases z
    · obtain ⟨c1, hc1⟩ := hf _ z1 rfl
      dsimp only at hc1 z2
      rw [hc1] at z2 ⊢
      rw [z2]
      rfl
  have look : ∀ {y}, scope.names.lookup y = some .free → ∃ c, (cloFrom X.env.cells scope.names []).lookup y = some c := fun {y} hy => mem_lookup (cloFrom_has (cells := X.env.cells) (acc := []) (show (y, NameKind.free) ∈ scope.names from PySem.mem_of_lookup hy))
  have ck : ∀ {c : Addr} {v : Option Value}, H c = none → s.heap.IsCell c v → h1.IsCell c v := fun {c v} n z => by
    obtain ⟨o, ho, d⟩ := z
    obtain ⟨sl, z⟩ := un.any ho n (by simp)
    exact ⟨_, kp _ _ z, d⟩
  have lu : us.length = ps.length := (Paired.length r).symm.trans hl
  have nx : ∀ b : Addr, b ∉ (lamC X (ps ++ cap.map (·.2)) q scope f c A outer s1 HZ E).ex := fun b z => absurd (show b ∈ ([] : List Addr) from z) (by simp)
  refine ⟨⟨e0.mod, L.kind, rfl, rfl, Nat.le_refl _, fun y z c a b => I.ok.inj y z c (cm a) (cm b), fun y hy => ?_, fun y c z _ => ?_, fun _ => hd, Around.frames_deeper e0.frames, .inr ⟨rfl, rfl⟩, fun b z => absurd z (nx b), e0.bs, e0.bsz, fun b _ _ => nx b, fun b z => absurd z (nx b), e0.funs, e0.frf⟩,
    rfl, e0.bare, Un.kept kp, ⟨_, hns, fun i y v a b d => ?_⟩, fun y c e => ?_, e0.hok.fresh (Nat.le_refl _), fun y c e => ?_, fun p hp => absurd (show p ∈ ([] : List (Addr × Obj)) ++ [] from hp) (by simp), e0.hok.kept kp, ?_⟩
  · rcases (show scope.names.lookup y = some .cell ∨ scope.names.lookup y = some .free from hy) with hy | hy
    · exact absurd rfl (L.own _ (PySem.mem_of_lookup hy)).1
    · exact look hy
  · cases (show false = true from z)
  · have a : (ps ++ cap.map (·.2))[i]? = some y := a
    by_cases hi : i < ps.length
    · rw [List.getElem?_append_left hi] at a
      rw [List.getElem?_append_left (by simpa [hl] using hi), List.getElem?_map] at b
      obtain ⟨v0, hv0, ev⟩ := Option.map_eq_some_iff.mp b
      cases ev
      obtain ⟨u, hu, ru⟩ := paired_at r hv0
      exact ⟨u, ru, .inl ⟨L.par y (List.mem_of_getElem? a), look_zip_rev L.nd a hu⟩⟩
    · rw [List.getElem?_append_right (by omega), List.getElem?_map] at a
      rw [List.getElem?_append_right (by simpa [hl] using hi), List.getElem?_map] at b
      simp only [List.length_map, hl] at b
      obtain ⟨p, hp, ep⟩ := Option.map_eq_some_iff.mp a
      rw [hp] at b
      have b : (σ[p.1]?).getD none = some v := by simpa using b
      subst ep
      obtain ⟨hN, hni⟩ := hc p (List.mem_of_getElem? hp)
      have hσ : σ[p.1]? = some (some v) := by
        cases e : σ[p.1]? with
        | none => rw [e] at b; cases b
        | some o => rw [e] at b; exact congrArg some b
      rcases (show Vis scope p.2 from d) with k | k | k
      · exact absurd ((L.own _ (PySem.mem_of_lookup k)).2 rfl) hni
      · exact absurd rfl (L.own _ (PySem.mem_of_lookup k)).1
      · obtain ⟨m, _, hlk⟩ := I.loc
        have fr := L.free _ (PySem.mem_of_lookup k) rfl
        obtain ⟨u, ru, z⟩ := hlk p.1 p.2 v hN hσ (fr.elim (fun k => .inr (.inl k)) fun k => .inr (.inr k))
        obtain ⟨c2, h2⟩ := look k
        refine ⟨u, ru, .inr ⟨.inr k, c2, h2, ?_⟩⟩
        have c1 := cm h2
        rcases z with ⟨k', _⟩ | ⟨_, c3, e', z⟩
        · have k' : X.env.scope.names.lookup p.2 = some .local := k'
          rcases fr with k2 | k2 <;> rw [show X.env.scope.names.lookup p.2 = _ from k2] at k' <;> cases k'
        · rw [c1] at e'
          cases e'
          exact ck (I.freeC p.2 _ c1) z
  · obtain ⟨v, z⟩ := I.cell y c (cm e)
    exact ⟨v, ck (I.freeC y c (cm e)) z⟩
  · obtain ⟨v, o, ho, d⟩ := I.cell y c (cm e)
    exact un.free c o ho (I.freeC y c (cm e)) (by simp)
  · simp [lamC, hl]
end
end PV
set_option maxHeartbeats 4000000
/-! A lambda handed to a def that calls it. -/
namespace PV
open PySem PySem.W PySem.Calls PyProof.Rows L2
variable {G : Gd}
/-- what is known in a def that was handed the lambda at f -/
def GL (T : List NdefX.NTab) (f : Addr) (B0 : Hp) (c : Addr) (q : Str) : Gd := ⟨T, f, fun W B H => Sub B0 B ∧ ¬ W.vol c ∧ H c = some (LamX.CodeO c q), fun s k h => ⟨h.1.trans s, h.2.1, k _ _ h.2.1 h.2.2⟩⟩
def capO (o : Option Sl) : Sl := match o with
  | some (.va d) => .va d
  | _ => .un
def capS (cap : List (Nat × Str)) (ls : List Sl) : List Sl := cap.map fun p => capO ls[p.1]?
def lamD (n : Nat) (capL : List Sl) (mlam : Mir D) (ds : List D) : M D := if ds.length = n then mlam (ds.map Sl.va ++ capL) else stk
def mAct (i : Nat) (call : List D → M D) (ms : Mir (List D)) : Mir D := fun ls => match ls[i]? with
  | some .cl => bnd (ms ls) call
  | _ => stk
structure Act (G : Gd) (Z : Cx) (a : Str) (i : Nat) (call : List D → M D) : Prop where
  c1 : ∀ {pn : List (Addr × Obj)} {xe : Value → Shared → Prop} {Wc : WX} {e : Expr} {es : List Expr} {ms : Mir (List D)} {p1 p2 : Pos}, Takes (Z.tr pn xe) Wc → SA G (Z.tr pn xe) Wc (e :: es) ms → starEach (e :: es) Z.env = (false, eval e Z.env) :: starEach es Z.env → (backTo p2 (starEach es Z.env)).any (·.1) = false →
    SE G (Z.tr pn xe) Wc (.Call (.Name a p1) (e :: es) [] p2) (mAct i call ms)
  c0 : ∀ {pn : List (Addr × Obj)} {xe : Value → Shared → Prop} {Wc : WX} {p1 p2 : Pos}, Takes (Z.tr pn xe) Wc → SE G (Z.tr pn xe) Wc (.Call (.Name a p1) [] [] p2) (mAct i call (fun _ => ret []))
/-- the promise of the lambda -/
def spL (K : Frag) (T : List NdefX.NTab) (B0 : Hp) (c : Addr) (q : Str) (call : List D → M D) : Sp := fun vs H Q E => ∃ (W : Wd) (B : Hp) (s : DS) (ds : List D), W.tb = T ∧ Sub B0 B ∧ Kn W B H ∧ W.ok s H ∧ DvL K B vs ds ∧ H c = some (LamX.CodeO c q) ∧ Ans W K B H (call ds s) Q E
section
variable {X : Cx} {pins : List (Addr × Obj)} {σ : L2.St} {H HZ : Hp} {s sZ : Shared} {T : List NdefX.NTab} {ps : List Str} {cap : List (Nat × Str)} {q : Str} {params : Arguments} {body : Expr} {scope : Scope} {f c : Addr} {k : Nat} {mlam : Mir D} {B0 : Hp} {ls : List Sl} {W0 : Wd} {H00 : Hp}
/-- captured slots -/
theorem cap_sm {W : Wd} {B H2 : Hp} {vs : List V} {ds : List D} (sm : Sm G W0 X.K H00 B0 H σ ls) (sb : Sub B0 B) (r : DvL X.K B vs ds) (et : W.tb = T) :
    Sm (G0 T) W X.K H2 B H2 (vs.map some ++ cap.map fun p => (σ[p.1]?).getD none) (ds.map Sl.va ++ capS cap ls) := by
  have el := r.len
  have isva : ∀ {i : Nat} {x : Sl}, (ds.map Sl.va ++ capS cap ls)[i]? = some x → (∀ es, x ≠ .ow es) ∧ x ≠ .cl := fun {i x} e => by
    by_cases hi : i < ds.length
    · rw [List.getElem?_append_left (by simpa using hi), List.getElem?_map, List.getElem?_eq_getElem hi] at e
      cases e
      exact ⟨(fun es z => (nomatch z)), (fun z => (nomatch z))⟩
    · rw [List.getElem?_append_right (by simp; omega)] at e
      unfold capS at e
      rw [List.getElem?_map] at e
      obtain ⟨p, _, ep⟩ := Option.map_eq_some_iff.mp e
      subst ep
      unfold capO
      split
      · exact ⟨(fun es z => (nomatch z)), (fun z => (nomatch z))⟩
      · exact ⟨(fun es z => (nomatch z)), (fun z => (nomatch z))⟩
  refine ⟨by simp [el, capS], fun i x e => ?_, fun i j es fs p _ e _ _ => absurd rfl ((isva e).1 es), trivial, et⟩
  by_cases hi : i < ds.length
  · rw [List.getElem?_append_left (by simpa using hi), List.getElem?_map, List.getElem?_eq_getElem hi] at e
    cases e
    obtain ⟨v, e1, q⟩ := r.getD (List.getElem?_eq_getElem hi)
    refine ⟨some v, ?_, v, rfl, q⟩
    rw [List.getElem?_append_left (by simpa [el] using hi), List.getElem?_map, e1]
    rfl
  · rw [List.getElem?_append_right (by simp; omega)] at e
    unfold capS at e
    simp only [List.length_map] at e
    rw [List.getElem?_map] at e
    obtain ⟨p, hp, ep⟩ := Option.map_eq_some_iff.mp e
    refine ⟨(σ[p.1]?).getD none, ?_, ?_⟩
    · rw [List.getElem?_append_right (by simp [el]; omega), List.getElem?_map]
      simp only [List.length_map, el, hp]
      rfl
    · subst ep
      unfold capO
      split
      · rename_i d hd
        obtain ⟨ov, e1, v, e2, r2⟩ := sm.sl p.1 _ hd
        subst e2
        rw [e1]
        exact ⟨v, rfl, r2.mono sb⟩
      · trivial
variable {Ng : List Str} {qg : Str} {sg : Scope} {g : Addr} {cdg : Value} {Eg : XK} {pn : List (Addr × Obj)} {xe : Value → Shared → Prop} {Wc : WX}
theorem run_lam {pinsZ : List (Addr × Obj)} {σZ : L2.St} {Q : VK} {us : List Value} {vs : List V} (I : Inv X pins σ H s) (L : LamP ps X.env.scope scope) (hc : ∀ p ∈ cap, X.N[p.1]? = some p.2 ∧ p.2 ∉ ps) (sm : Sm G W0 X.K H00 B0 H σ ls)
    (hbind : ∀ (cl : List (Str × Addr)) (pm cv ctv : Value) (us : List Value), us.length = ps.length → bindArgs (kla_fn "<lambda>" q params body scope cl pm cv ctv) ⟨us, []⟩ = pure (ps.zip us))
    (hlam : ∀ (A : Around) (outer : List Env) (s : Shared) (H : Hp) (E : XK) (f c : Addr), RoomG k (A.deeper (lEnv X q scope s.heap.objs.size f c)) → SE (G0 T) (lamC X (ps ++ cap.map (·.2)) q scope f c A outer s H E) (EW E) body mlam)
    (hf : B0 f = some (LamO f ⟨q, params, body, scope, cloFrom X.env.cells scope.names [], c⟩)) (hr : RoomG (k + 1) (X.A.deeper (envOfC qg sg s.heap.objs.size g cdg)))
    (tk : Takes ((cxOf (L2.CX X.prog X.w) X.prog X.w X.K X.mg X.base Ng qg sg g cdg X.A X.stack s H Eg).tr pn xe) Wc)
    (IZ : Inv ((cxOf (L2.CX X.prog X.w) X.prog X.w X.K X.mg X.base Ng qg sg g cdg X.A X.stack s H Eg).tr pn xe) pinsZ σZ HZ sZ) (r : Vals vs us) (h : spL X.K T B0 c q (lamD ps.length (capS cap ls) mlam) vs HZ Q (fun c d H' => Wc c d σZ H')) :
    wpAny (model X.prog X.w) (X.A.deeper (envOfC qg sg s.heap.objs.size g cdg)) (call (.ref f) us) (EP ((cxOf (L2.CX X.prog X.w) X.prog X.w X.K X.mg X.base Ng qg sg g cdg X.A X.stack s H Eg).tr pn xe) pinsZ σZ Q) xe sZ := by
  obtain ⟨W, B, sd, ds, et, sb, kn, wk, rd, hcd, an⟩ := h
  unfold lamD at an
  split at an
  case isFalse => exact an.elim
  rename_i hld
  have hl : vs.length = ps.length := rd.len.trans hld
  have lu : us.length = ps.length := (Paired.length r).symm.trans hl
  obtain ⟨pm, ctv, of1⟩ := lamO_at IZ.hok (kn.sub _ _ (sb _ _ hf))
  have un : Un (frs X.stack) [] H HZ s.heap sZ.heap := IZ.base
  have rc : codeAny (model X.prog X.w) (X.A.deeper (envOfC qg sg s.heap.objs.size g cdg)) (.call (.ref f) ⟨us, []⟩) (CR (L2.CX X.prog X.w) (envOfC qg sg s.heap.objs.size g cdg :: X.stack) X.prog X.w HZ sZ Q (fun c d H' => Wc c d σZ H')) sZ := by
    refine kla_callFunE hr.room.depth of1 rfl L.co L.gen rfl (NdefX.codeO_at IZ.hok hcd) ?_
    rw [hbind _ _ _ _ us lu]
    refine wpAny_pure (wpAny_newFunctionEnv (fun y hy => (L.own y hy).1) (fun y hy => L.par y.1 (List.of_mem_zip hy).1) (fun h1 hns hsb => ⟨IZ.nolimit.fresh _ hsb, ?_⟩) L.kind)
    show codeAny _ _ (.expr body (lEnv X q scope sZ.heap.objs.size f c)) _ _
    have kp : ∀ b o, sZ.heap.get? b = some o → h1.get? b = some o := fun b o e => hsb.extBut b o (Nat.ne_of_lt (Heap.lt_size e)) (Heap.get?_push_of_some _ e)
    have J := lam_in (E := fun c d H' => Wc c d σZ H') (cap := cap) (q := q) (f := f) (c := c) (tk := sZ.toks + (ps.zip us).length) I L IZ.env0 hr.room.hd un hns kp r hl hc
    obtain ⟨t, pt, ht⟩ := (hlam _ (envOfC qg sg s.heap.objs.size g cdg :: X.stack) sZ HZ (fun c d H' => Wc c d σZ H') f c (hr.deeper _)).ex
    refine kla_codeExpr (wpAny_mono (pt.run [] _ _ HZ Q J (ht W HZ _ B HZ _ sd Q kn wk (cap_sm sm sb rd et) an)) (fun v s' hq => ?_) fun e s' hq => hq)
    obtain ⟨v', H', J', rv, qv⟩ := hq
    exact ⟨v', H', J'.os, J'.bare, J'.base, J'.hok, rv, qv⟩
  refine wpAny_call (codeAny_mono rc fun z s' hq => ?_)
  cases z with
  | error e => exact passAt tk σZ pinsZ HZ sZ e s' IZ hq
  | ok fl =>
    cases fl with
    | ret u => exact IZ.after hq
    | next => exact False.elim hq
    | brk => exact False.elim hq
    | cont => exact False.elim hq
theorem act_of {a : Str} {i : Nat} (I : Inv X pins σ H s) (L : LamP ps X.env.scope scope) (hc : ∀ p ∈ cap, X.N[p.1]? = some p.2 ∧ p.2 ∉ ps) (sm : Sm G W0 X.K H00 B0 H σ ls)
    (hbind : ∀ (cl : List (Str × Addr)) (pm cv ctv : Value) (us : List Value), us.length = ps.length → bindArgs (kla_fn "<lambda>" q params body scope cl pm cv ctv) ⟨us, []⟩ = pure (ps.zip us))
    (hlam : ∀ (A : Around) (outer : List Env) (s : Shared) (H : Hp) (E : XK) (f c : Addr), RoomG k (A.deeper (lEnv X q scope s.heap.objs.size f c)) → SE (G0 T) (lamC X (ps ++ cap.map (·.2)) q scope f c A outer s H E) (EW E) body mlam)
    (hf : B0 f = some (LamO f ⟨q, params, body, scope, cloFrom X.env.cells scope.names [], c⟩)) (hr : RoomG (k + 1) (X.A.deeper (envOfC qg sg s.heap.objs.size g cdg)))
    (hN : Ng[i]? = some a) (hv : Vis sg a) (hd : (a == ("__debug__" : Str)) = false) (hcd : (a == ("__classdict__" : Str)) = false) :
    Act (GL T f B0 c q) (cxOf (L2.CX X.prog X.w) X.prog X.w X.K X.mg X.base Ng qg sg g cdg X.A X.stack s H Eg) a i (lamD ps.length (capS cap ls) mlam) := by
  have rl := @run_lam G X pins σ H
  refine ⟨fun {pn xe Wc e es ms p1 p2} tk ha hs hp => ?_, fun {pn xe Wc p1 p2} tk => ?_⟩
  · obtain ⟨ta, pa, ha⟩ := ha.ex
    refine ⟨fun σZ HZ Q => σZ[i]? = some (some (.ref f)) ∧ HZ f = some (LamO f ⟨q, params, body, scope, cloFrom X.env.cells scope.names [], c⟩) ∧ ta σZ HZ (fun vs H2 => spL X.K T B0 c q (lamD ps.length (capS cap ls) mlam) vs H2 Q (fun c d H' => Wc c d σZ H')), ⟨fun pinsZ sZ σZ HZ Q IZ h => ?_⟩, fun W H0 σ1 B H1 l1 s1 Q kn w sm1 h => ?_⟩
    · obtain ⟨h1, h2, h3⟩ := h
      refine wpAny_Call_Name_kw (thn ((pe_var (pos := p1) (i := i) hN hv hd hcd).run pinsZ sZ σZ HZ (fun v H1 => v = .ref f ∧ H1 = HZ) IZ ⟨.ref f, h1, rfl, rfl⟩) fun u s2 ⟨v, H2, I2, r2, q2⟩ => ?_)
      obtain ⟨ev, eH⟩ := q2
      subst ev eH
      cases r2
      obtain ⟨pm, ctv, of2⟩ := lamO_at I2.hok h2
      refine callWith_F ⟨_, _, _, _, of2⟩ (thn (pa.run p2 pinsZ s2 σZ _ _ I2 h3) fun us s3 ⟨vs, H3, I3, r3, q3⟩ => ?_) hs hp
      have q4 := q3
      obtain ⟨W, B, sd, ds, et, sb, kn, _⟩ := q4
      obtain ⟨pm3, ctv3, of3⟩ := lamO_at I3.hok (kn.sub _ _ (sb _ _ hf))
      exact ⟨⟨_, _, _, _, of3⟩, run_lam I L hc sm hbind hlam hf hr tk I3 r3 q3⟩
    · unfold mAct at h
      cases el : l1[i]? with
      | none => rw [el] at h; exact (show False from h).elim
      | some sl =>
        rw [el] at h
        cases sl with
        | cl =>
          obtain ⟨ov, e1, e2⟩ := sm1.sl i _ el
          have e2 : ov = some (.ref f) := e2
          subst e2
          have gd : Sub B0 B ∧ ¬ W.vol c ∧ H1 c = some (LamX.CodeO c q) := sm1.gd.1
          refine ⟨e1, kn.sub _ _ (gd.1 _ _ hf), ha W H0 σ1 B H1 l1 s1 _ kn w sm1 ?_⟩
          have h : Ans W X.K B H1 (bnd (ms l1) (lamD ps.length (capS cap ls) mlam) s1) Q (fun c d H' => Wc c d σ1 H') := h
          cases e3 : ms l1 s1 with
          | stuck => rw [bnd_stk e3] at h; exact h
          | exc C fs s' => rw [bnd_exc e3] at h; exact h
          | ok ds s2 =>
            rw [bnd_ok e3] at h
            exact fun vs B2 H2 g2 w2 r2 => ⟨W, B2, s2, ds, sm1.gd.2, gd.1.trans g2.bb, g2.kn, w2, r2, g2.hh _ _ gd.2.1 gd.2.2, h.grow g2⟩
        | un => exact (show False from h).elim
        | va d => exact (show False from h).elim
        | ow d => exact (show False from h).elim
  · refine ⟨fun σZ HZ Q => σZ[i]? = some (some (.ref f)) ∧ HZ f = some (LamO f ⟨q, params, body, scope, cloFrom X.env.cells scope.names [], c⟩) ∧ spL X.K T B0 c q (lamD ps.length (capS cap ls) mlam) [] HZ Q (fun c d H' => Wc c d σZ H'), ⟨fun pinsZ sZ σZ HZ Q IZ h => ?_⟩, fun W H0 σ1 B H1 l1 s1 Q kn w sm1 h => ?_⟩
    · obtain ⟨h1, h2, h3⟩ := h
      refine wpAny_Call_Name_kw (thn ((pe_var (pos := p1) (i := i) hN hv hd hcd).run pinsZ sZ σZ HZ (fun v H1 => v = .ref f ∧ H1 = HZ) IZ ⟨.ref f, h1, rfl, rfl⟩) fun u s2 ⟨v, H2, I2, r2, q2⟩ => ?_)
      obtain ⟨ev, eH⟩ := q2
      subst ev eH
      cases r2
      obtain ⟨pm, ctv, of2⟩ := lamO_at I2.hok h2
      exact callWith_F0 ⟨_, _, _, _, of2⟩ (run_lam I L hc sm hbind hlam hf hr tk I2 .nil h3)
    · unfold mAct at h
      cases el : l1[i]? with
      | none => rw [el] at h; exact (show False from h).elim
      | some sl =>
        rw [el] at h
        cases sl with
        | cl =>
          obtain ⟨ov, e1, e2⟩ := sm1.sl i _ el
          have e2 : ov = some (.ref f) := e2
          subst e2
          have gd : Sub B0 B ∧ ¬ W.vol c ∧ H1 c = some (LamX.CodeO c q) := sm1.gd.1
          exact ⟨e1, kn.sub _ _ (gd.1 _ _ hf), W, B, s1, [], sm1.gd.2, gd.1, kn, w, .nil, gd.2.2, h⟩
        | un => exact (show False from h).elim
        | va d => exact (show False from h).elim
        | ow d => exact (show False from h).elim
end
end PV
set_option maxHeartbeats 4000000
/-! f(e, .., lambda): the caller's side. -/
namespace PV
open PySem PySem.W PySem.Calls PyProof.Rows L2
variable {G : Gd}
/-- arguments, the last one a lambda -/
def AnsAL (W : Wd) (K : Frag) (mk : Addr → LF) (B H : Hp) (r : Res (List D)) (Q : List V → Hp → Prop) (E : XK) : Prop := match r with
  | .ok ds s' => ∀ (vs : List V) (f c : Addr) (B' H' : Hp), Gr W B H B' H' → W.ok s' H' → DvL K B' vs ds → B' f = some (LamO f (mk c)) → ¬ W.vol c → H' c = some (LamX.CodeO c (mk c).qual) → Q (vs ++ [.ref f]) H'
  | .exc C fs s' => XW W K B H C fs s' E
  | .stuck => False
structure SAL (G : Gd) (X : Cx) (Wx : WX) (es : List Expr) (mk : Addr → LF) (ms : Mir (List D)) : Prop where
  ex : ∃ t, PA X es t ∧ ∀ (W : Wd) (H0 : Hp) (σ : L2.St) (B H : Hp) (ls : List Sl) (s : DS) (Q : List V → Hp → Prop), Kn W B H → W.ok s H → Sm G W X.K H0 B H σ ls → AnsAL W X.K mk B H (ms ls s) Q (fun c d H' => Wx c d σ H') → t σ H Q
theorem AnsAL.grow {W : Wd} {K : Frag} {mk : Addr → LF} {B H B1 H1 : Hp} {r : Res (List D)} {Q : List V → Hp → Prop} {E : XK} (g : Gr W B H B1 H1) (h : AnsAL W K mk B H r Q E) : AnsAL W K mk B1 H1 r Q E := by
  cases r with
  | ok d s' => exact fun vs f c B' H' g' w r => h vs f c B' H' (g.trans g') w r
  | exc C fs s' => exact fun od B' H' g' w x => h od B' H' (g.trans g') w x
  | stuck => exact h
/-- what a table's change leaves -/
theorem tab_grow {W : Wd} {B H H1 : Hp} {s : DS} {P : Addr} {q : Str} (hm : tb1 P q ∈ W.tb) (kn : Kn W B H) (w : W.ok s H) (k : ∀ b o, b ≠ P → H b = some o → H1 b = some o) (T1 : NdefX.TabsN W.tb H1) : Gr W B H B H1 ∧ W.ok s H1 := by
  have vP : W.vol P := .inr ⟨_, hm, rfl⟩
  have ne : ∀ {b : Addr}, ¬ W.vol b → b ≠ P := fun {b} n z => n (z ▸ vP)
  obtain ⟨ps, hP, _⟩ := w.tb _ hm
  refine ⟨⟨fun a o e => ⟨(kn a o e).1, k a o (ne (kn a o e).1) (kn a o e).2⟩, Sub.refl _, fun a o n e => k a o (ne n) e, fun _ _ _ => rfl⟩, ⟨fun p hp => ?_, T1, w.at_⟩⟩
  have z := w.dr p hp
  have nt : ∀ {a : Addr} {o : HO}, H a = some o → (∀ ps, o ≠ .tbl ps) → a ≠ P := fun {a o} e n y => by
    rw [y] at e
    have hP : H P = some (.tbl ps) := hP
    rw [hP] at e
    cases e
    exact n ps rfl
  exact ⟨k _ _ (nt z.m fun _ y => nomatch y) z.m, k _ _ (nt z.c fun _ y => nomatch y) z.c, k _ _ (nt z.g fun _ y => nomatch y) z.g, z.ne⟩
theorem code_nv {W : Wd} {s : DS} {H : Hp} {c : Addr} {q : Str} (w : W.ok s H) (e : H c = some (LamX.CodeO c q)) : ¬ W.vol c := fun v => by
  rcases v with ⟨p, ep, h | h | h⟩ | ⟨t, ht, h⟩
  · rw [h, (w.dr p ep).m] at e; unfold LamX.CodeO at e; cases e
  · rw [h, (w.dr p ep).c] at e; unfold LamX.CodeO at e; cases e
  · rw [h, (w.dr p ep).g] at e; unfold LamX.CodeO at e; cases e
  · obtain ⟨ps, hP, _⟩ := w.tb t ht
    rw [h, hP] at e; unfold LamX.CodeO at e; cases e
section
variable {X : Cx} {Wx : WX} {e : Expr} {es : List Expr} {ma : Mir D} {ms : Mir (List D)} {mk : Addr → LF}
theorem sal_lam {c P : Addr} {q : Str} {params : Arguments} {body : Expr} {scope : Scope} {pos : Pos} (TB : LamX.TabB X.base X.mg c P) (hcode : X.env.code = .ref c) (hq : X.env.qual ++ "<lambda>" = q) (hm : tb1 P q ∈ G.tb) (hu : ∀ p ∈ G.tb, p.1 = P → p = tb1 P q)
    (hdef : defaultsOf params X.env = ([], [])) (hfree : ∀ y ∈ scope.names, y.2 = .free → X.env.scope.names.lookup y.1 = some .cell ∨ X.env.scope.names.lookup y.1 = some .free) (hs : starEach [.Lambda params body scope pos] X.env = (false, eval (.Lambda params body scope pos) X.env) :: starEach [] X.env := by rfl) :
    SAL G X Wx [.Lambda params body scope pos] (fun c' => ⟨q, params, body, scope, cloFrom X.env.cells scope.names [], c'⟩) (fun _ => ret []) := by
  refine ⟨_, pa_cons (pe_lam TB hcode hq hm hu hdef hfree) pa_nil hs, fun W H0 σ B H ls s Q kn w sm h => ?_⟩
  have et := sm.gd.2
  refine ⟨by rw [← et]; exact w.tb, fun f c1 H1 k1 T1 n1 f1 c1' => ?_⟩
  rw [← et] at T1 hm
  obtain ⟨g1, w1⟩ := tab_grow hm kn w k1 T1
  have nvf : ¬ W.vol f := fun v => by
    obtain ⟨o, e⟩ := w.dom v
    rw [e] at n1
    cases n1
  have bf : B f = none := none_of_kn kn n1
  have g2 : Gr W B H (upd B f (LamO f ⟨q, params, body, scope, cloFrom X.env.cells scope.names [], c1⟩)) H1 := by
    refine ⟨fun a o e => ?_, sub_new bf, g1.hh, fun a o e => ?_⟩
    · by_cases ha : a = f
      · subst ha
        rw [upd_same] at e
        cases e
        exact ⟨nvf, f1⟩
      · rw [upd_ne ha] at e
        exact g1.kn a o e
    · rw [upd_ne (ne_of_none e n1)]
  exact h [] f c1 _ _ g2 w1 .nil upd_same (code_nv w1 c1') c1'
theorem sal_cons (ha : SE G X Wx e ma) (hr : SAL G X Wx es mk ms) (hs : starEach (e :: es) X.env = (false, eval e X.env) :: starEach es X.env := by rfl) : SAL G X Wx (e :: es) mk (mCons ma ms) := by
  obtain ⟨ta, pa, ha⟩ := ha.ex
  obtain ⟨tr, pr, hr⟩ := hr.ex
  refine ⟨_, pa_cons pa pr hs, fun W H0 σ B H ls s Q k w sm h => ?_⟩
  refine ha W H0 σ B H ls s _ k w sm ?_
  unfold mCons at h
  cases e1 : ma ls s with
  | stuck => rw [bnd_stk e1] at h; exact h
  | exc C fs s' => rw [bnd_exc e1] at h; exact h
  | ok d s1 =>
    rw [bnd_ok e1] at h
    intro v B1 H1 g1 w1 r1
    refine hr W H0 σ B1 H1 ls s1 _ g1.kn w1 (sm.grow g1) ?_
    have h := h.grow g1
    cases e2 : ms ls s1 with
    | stuck => rw [bnd_stk e2] at h; exact h
    | exc C fs s' => rw [bnd_exc e2] at h; exact h
    | ok ds s2 =>
      rw [bnd_ok e2] at h
      exact fun vs f c B2 H2 g2 w2 r2 b2 n2 c2 => h (v :: vs) f c B2 H2 g2 w2 (.cons (r1.mono g2.bb) r2) b2 n2 c2
end
/-! ### the call -/
def argC (n : Nat) (ds : List D) : List Sl := ds.map Sl.va ++ .cl :: List.replicate (n - ds.length - 1) .un
def runL (n np : Nat) (mb : (List D → M D) → MS) (call : List D → M D) (ds : List D) : M D := if ds.length = np then bnd (mb call (argC n ds)) endF else stk
theorem argC_sm {T : List NdefX.NTab} {f c : Addr} {q : Str} {W : Wd} {K : Frag} {H0 B H : Hp} {N : List Str} {vs : List V} {ds : List D} (r : DvL K B vs ds) (hl : vs.length < N.length) (gd : ¬ W.vol c ∧ H c = some (LamX.CodeO c q)) (et : W.tb = T) :
    Sm (GL T f B c q) W K H0 B H (L2.start N (vs ++ [.ref f])) (argC N.length ds) := by
  have el := r.len
  have at_ : ∀ {i : Nat} {x : Sl}, (argC N.length ds)[i]? = some x → (∃ d, ds[i]? = some d ∧ x = .va d) ∨ (i = ds.length ∧ x = .cl) ∨ (ds.length < i ∧ i < N.length ∧ x = .un) := fun {i x} e => by
    unfold argC at e
    by_cases hi : i < ds.length
    · rw [List.getElem?_append_left (by simpa using hi), List.getElem?_map, List.getElem?_eq_getElem hi] at e
      cases e
      exact .inl ⟨_, List.getElem?_eq_getElem hi, rfl⟩
    · rw [List.getElem?_append_right (by simp; omega)] at e
      simp only [List.length_map] at e
      cases hk : i - ds.length with
      | zero =>
        rw [hk] at e
        cases e
        exact .inr (.inl ⟨by omega, rfl⟩)
      | succ m =>
        rw [hk, List.getElem?_cons_succ, List.getElem?_replicate] at e
        split at e
        · cases e
          exact .inr (.inr ⟨by omega, by omega, rfl⟩)
        · cases e
  refine ⟨by simp [L2.start, argC, el]; omega, fun i x e => ?_, fun i j es fs p _ e _ _ => ?_, ⟨Sub.refl _, gd⟩, et⟩
  · rcases at_ e with ⟨d, hd, rfl⟩ | ⟨rfl, rfl⟩ | ⟨h1, h2, rfl⟩
    · obtain ⟨v, e1, q1⟩ := r.getD hd
      have hi : i < vs.length := (List.getElem?_eq_some_iff.mp e1).1
      refine ⟨some v, ?_, v, rfl, q1⟩
      unfold L2.start
      rw [List.getElem?_append_left (by simp; omega), List.getElem?_map, List.getElem?_append_left hi, e1]
      rfl
    · refine ⟨some (.ref f), ?_, rfl⟩
      unfold L2.start
      rw [← el, List.getElem?_append_left (by simp), List.getElem?_map, List.getElem?_append_right (Nat.le_refl _)]
      simp
    · refine ⟨none, ?_, trivial⟩
      unfold L2.start
      rw [List.getElem?_append_right (by simp; omega), List.getElem?_replicate, if_pos (by simp; omega)]
  · rcases at_ e with ⟨d, hd, z⟩ | ⟨_, z⟩ | ⟨_, _, z⟩ <;> cases z
section
variable {X : Cx} {Wx : WX} {e : Expr} {es : List Expr} {ms : Mir (List D)} {pos p : Pos} {x a q : Str} {g : Addr} {fdg : FuncData} {pg : Arguments} {bg : List Stmt} {sg : Scope} {Ng ps psg : List Str} {cap : List (Nat × Str)} {params : Arguments} {body : Expr} {scope : Scope} {k i : Nat} {mlam : Mir D} {mb : (List D → M D) → MS} {ks : List (Str × V)}
theorem se_lamcall (hr : RoomG (k + 2) X.A) (hg : Gl X x) (hm : X.mg x = some (.ref g)) (F : FunD X.K x x pg bg sg [] ks g fdg) (hb : Binds X.K fdg (psg ++ [a]) []) (S : FnScope Ng (psg ++ [a]) sg) (tk : Takes X Wx)
    (hs : SAL G X Wx (e :: es) (fun c' => ⟨q, params, body, scope, cloFrom X.env.cells scope.names [], c'⟩) ms)
    (L : LamP ps X.env.scope scope) (hc : ∀ p ∈ cap, X.N[p.1]? = some p.2 ∧ p.2 ∉ ps)
    (hbind : ∀ (cl : List (Str × Addr)) (pm cv ctv : Value) (us : List Value), us.length = ps.length → bindArgs (kla_fn "<lambda>" q params body scope cl pm cv ctv) ⟨us, []⟩ = pure (ps.zip us))
    (hlam : ∀ (A : Around) (outer : List Env) (s : Shared) (H : Hp) (E : XK) (f c : Addr), RoomG k (A.deeper (lEnv X q scope s.heap.objs.size f c)) → SE (G0 G.tb) (lamC X (ps ++ cap.map (·.2)) q scope f c A outer s H E) (EW E) body mlam)
    (hcal : ∀ (f c : Addr) (B0 : Hp) (call : List D → M D) (cdv : Value) (A : Around) (outer : List Env) (s : Shared) (H : Hp) (E : XK), RoomG (k + 1) (A.deeper (envOfC x sg s.heap.objs.size g cdv)) → Act (GL G.tb f B0 c q) (cxOf (L2.CX X.prog X.w) X.prog X.w X.K X.mg X.base Ng x sg g cdv A outer s H E) a psg.length call →
      SSs (GL G.tb f B0 c q) (cxOf (L2.CX X.prog X.w) X.prog X.w X.K X.mg X.base Ng x sg g cdv A outer s H E) (EW E) bg (mb call))
    (hv : Vis sg a := by first | exact Or.inl rfl | exact Or.inr (Or.inl rfl)) (hda : (a == ("__debug__" : Str)) = false := by decide) (hca : (a == ("__classdict__" : Str)) = false := by decide) (hdb : (x == ("__debug__" : Str)) = false := by decide)
    (he : starEach (e :: es) X.env = (false, eval e X.env) :: starEach es X.env := by rfl) (hpl : (backTo pos (starEach es X.env)).any (·.1) = false := by rfl) :
    SE G X Wx (.Call (.Name x p) (e :: es) [] pos) (fun ls => bnd (ms ls) (runL Ng.length psg.length mb (lamD ps.length (capS cap ls) mlam))) := by
  obtain ⟨ta, pa, ha⟩ := hs.ex
  have hN : Ng[psg.length]? = some a := by
    have h1 := S.pre
    have h2 : (Ng.take (psg ++ [a]).length)[psg.length]? = some a := by
      rw [h1]
      simp
    rw [List.getElem?_take_of_lt (by simp)] at h2
    exact h2
  have hlt : psg.length < Ng.length := (List.getElem?_eq_some_iff.mp hN).1
  refine ⟨fun σ H Q => ta σ H fun vs H1 => ∃ (vs0 : List V) (f c : Addr) (W : Wd) (B : Hp) (sd : DS) (ds : List D) (H0 : Hp) (ls : List Sl), vs = vs0 ++ [.ref f] ∧ Kn W B H1 ∧ W.ok sd H1 ∧ Sm G W X.K H0 B H1 σ ls ∧ DvL X.K B vs0 ds ∧ B f = some (LamO f ⟨q, params, body, scope, cloFrom X.env.cells scope.names [], c⟩) ∧
      ¬ W.vol c ∧ H1 c = some (LamX.CodeO c q) ∧ Ans W X.K B H1 (runL Ng.length psg.length mb (lamD ps.length (capS cap ls) mlam) ds sd) Q (fun c d H' => Wx c d σ H'), ⟨fun pins s σ H Q I h => ?_⟩, fun W H0 σ B H ls s Q kn w sm h => ?_⟩
  · refine wpAny_Call_Name_kw (ld_glob I hg hm ?_ hdb)
    refine callWith_K (h₀ := X.base) I.ok.mod.kin F.kp (thn (pa.run pos pins s σ H _ I h) fun us s1 ⟨vs, H1, I1, r1, q1⟩ => ⟨I1.kIn, ?_⟩) he hpl
    obtain ⟨vs0, f, c, W, B, sd, ds, H0, ls, ev, kn, wk, sm, rd, bf, nc, ec, an⟩ := q1
    subst ev
    unfold runL at an
    split at an
    case isFalse => exact an.elim
    rename_i hld
    have hl : (vs0 ++ [V.ref f]).length = (psg ++ [a]).length := by simp [rd.len, hld]
    have lu : us.length = (psg ++ [a]).length := (Paired.length r1).symm.trans hl
    obtain ⟨oc, od, dV, kV, doc, pm, an', cdv, ct, osl, efd, lk, hcd, _, _⟩ := F.ex
    subst efd
    have bd := hb s1 us I1.kIn (by simpa using lu)
    rw [List.append_nil] at bd
    have rc : codeAny (model X.prog X.w) X.A (.call (.ref g) ⟨us, []⟩) (CR (L2.CX X.prog X.w) X.stack X.prog X.w H1 s1 Q (fun c d H' => Wx c d σ H')) s1 := by
      refine LamX.run_ofS (k := k + 1) lk hcd S hr.room I1.env0 bd r1 hl fun _ => ?_
      have hr1 : RoomG (k + 1) (X.A.deeper (envOfC x sg s1.heap.objs.size g cdv)) := hr.deeper _
      have act := act_of (T := G.tb) (Ng := Ng) (Eg := fun c d H' => Wx c d σ H') (cdg := cdv) (g := g) (i := psg.length) (k := k) I1 L hc sm hbind hlam bf hr1 hN hv hda hca
      obtain ⟨t, pt, ht⟩ := (hcal f c B _ cdv X.A X.stack s1 H1 (fun c d H' => Wx c d σ H') hr1 act).ex
      refine ⟨t, pt, ht W B H1 _ B H1 (argC Ng.length ds) sd _ (Gr.refl kn) wk (argC_sm rd (by rw [rd.len, hld]; exact hlt) ⟨nc, ec⟩ sm.gd.2) ?_⟩
      cases e1 : mb (lamD ps.length (capS cap ls) mlam) (argC Ng.length ds) sd with
      | stuck => rw [bnd_stk e1] at an; exact an
      | exc C fs s' =>
        rw [bnd_exc e1] at an
        exact fun od σ B' H' g w x => an od B' H' g w x
      | ok fl s' =>
        rw [bnd_ok e1] at an
        cases fl with
        | nx l => exact fun σ B' H' g w sm => an .non B' H' g w .non
        | rt d => exact fun v B' H' g w r => an v B' H' g w r
        | bk l => exact (show False from an).elim
        | ct l => exact (show False from an).elim
    refine wpAny_call (codeAny_mono rc fun z s' hq => ?_)
    cases z with
    | error e => exact passAt tk σ pins H1 s1 e s' I1 hq
    | ok fl =>
      cases fl with
      | ret u => exact I1.after hq
      | next => exact False.elim hq
      | brk => exact False.elim hq
      | cont => exact False.elim hq
  · refine ha W H0 σ B H ls s _ kn w sm ?_
    cases e1 : ms ls s with
    | stuck => rw [bnd_stk e1] at h; exact h
    | exc C fs s' => rw [bnd_exc e1] at h; exact h
    | ok ds s1 =>
      rw [bnd_ok e1] at h
      exact fun vs f c B1 H1 g1 w1 r1 b1 n1 c1 => ⟨vs, f, c, W, B1, s1, ds, H0, ls, rfl, g1.kn, w1, sm.grow g1, r1, b1, n1, c1, h.grow g1⟩
end
end PV
set_option maxHeartbeats 4000000
/-! enumerate over a tuple; a text sign by sign. -/
namespace PV
open PySem PySem.W PySem.Calls PyProof.Rows L2
variable {G : Gd}
theorem meets_en1 {v : Value} {o : Obj} {J : Heap → Prop} (B : Begins v o J) :
    Meets (Builtin.«enumerate.__new__» ⟨[.type "enumerate", v], []⟩) (fun _ R s => J s.heap ∧
      R (.ok (.ret (.ref (s.heap.push o).objs.size))) { s with heap := (s.heap.push o).push { cls := .type "enumerate", data := .fields #[.none, .bool false, .ref s.heap.objs.size, rawInt 0, .none, .none] } }) :=
  .of_wp fun pr wo ar R s h => by
    obtain ⟨hp, g, d, tk, os⟩ := s
    obtain ⟨h1, h⟩ := h
    have hsub := sub_enumerate
    have go : ∀ {A' : Around} {E : Value → Shared → Prop} {Q : Value → Shared → Prop}, Q (.ref hp.objs.size) ⟨hp.push o, g, d, tk, os⟩ → wpAny (model pr wo) A' (pyIter v) Q E ⟨hp, g, d, tk, os⟩ :=
      fun z => B.iter pr wo _ _ ⟨hp, g, d, tk, os⟩ _ h1 z
    wp_walk using go
    refine wpAny_stack_any fun st => wpAny_pure ?_
    split
    · rename_i c _ _ _ _ _
      cases (c == Value.type "enumerate")
      · wp_walk using go
        exact ⟨_, rfl, h⟩
      · wp_walk using go
        exact ⟨_, rfl, h⟩
    · wp_walk using go
      exact ⟨_, rfl, h⟩
section
variable {pr : Program} {wo : World} {A : Around} {E : Value → Shared → Prop} {s : Shared}
theorem en1_begins {v : Value} {o : Obj} {J : Heap → Prop} {Q : Value → Shared → Prop} (B : Begins v o J) (h1 : J s.heap)
    (h : ∀ z : Heap, IsEnum z (s.heap.objs.size + 1) s.heap.objs.size 0 .none → z.get? s.heap.objs.size = some o → (∀ b u, s.heap.get? b = some u → z.get? b = some u) → Q (.ref (s.heap.objs.size + 1)) { s with heap := z }) :
    wpAny (model pr wo) A (call (.type "enumerate") [v]) Q E s := by
  refine callType_new F.called_enumerate (by decide) (F.typeCall_enumerate_1 _) (F.newCall_enumerate_1 _) (fun obj => F.args_object_init_2 obj _) F.entry_enumerate_new (meets_en1 B) ⟨h1, ?_⟩
  have sz : (s.heap.push o).objs.size = s.heap.objs.size + 1 := Heap.size_push ..
  show _ ∧ _
  rw [sz]
  have en : IsEnum ((s.heap.push o).push ({ cls := .type "enumerate", data := .fields #[.none, .bool false, .ref s.heap.objs.size, rawInt 0, .none, .none] } : Obj)) (s.heap.objs.size + 1) s.heap.objs.size 0 .none := by
    have z := Heap.get?_push_size (s.heap.push o) (o := ({ cls := .type "enumerate", data := .fields #[.none, .bool false, .ref s.heap.objs.size, rawInt 0, .none, .none] } : Obj)) rfl
    rw [sz] at z
    exact z
  exact ⟨⟨_, en, rfl⟩, h _ en (Heap.get?_push_of_some _ (Heap.get?_push_size _ B.free)) fun b u x => Heap.get?_push_of_some _ (Heap.get?_push_of_some _ x)⟩
end
/-- the tuple at a, each item in a new pair -/
def ItT (K : Frag) (a : Addr) : It where
  go := fun i H => ∃ (xs : List V) (x : V), SqT K H a xs ∧ xs[i]? = some x
  yld := fun i H v H' => ∃ T x, v = .ref T ∧ H T = none ∧ H' = upd H T (.tup [.int (i : Nat), x]) ∧ ∀ xs, SqT K H a xs → xs[i]? = some x
  stop := fun i H => ∃ xs : List V, SqT K H a xs ∧ xs.length ≤ i
theorem istup {h : Heap} {a : Addr} {its : Array Value} (p : IsTup h a its) : h.IsTuple a its := by
  obtain ⟨o, ho, hc, n, hd⟩ := p
  exact ⟨o, ho, hc, n, hd⟩
theorem turn_T {P : Program} {w : World} {K : Frag} {elts : List Expr} {kk : Nat} {tpos : Pos} (a e it : Addr) :
    Turn P w K (.Tuple elts kk tpos) (ItT K a) [e, it] e (fun i h => (∃ old, IsEnum h e it ((i : Nat) : Int) old) ∧ h.IsTupleIter it a i ∧ e ≠ it) where
  mem := by simp
  obj := fun i h st b hb => by
    obtain ⟨⟨old, he⟩, ⟨o, ho, hc, hd⟩, _⟩ := st
    rcases (show b = e ∨ b = it by simpa using hb) with z | z
    · rw [z]
      exact ⟨_, he, fun v q => nomatch q⟩
    · rw [z]
      exact ⟨o, ho, fun v q => by rw [hd] at q; cases q⟩
  keep := fun i h h' st k => by
    obtain ⟨⟨old, he⟩, hi, hne⟩ := st
    exact ⟨⟨old, k e (by simp) _ he⟩, hi.at fun o q => k it (by simp) o q, hne⟩
  item := by
    intro X hP hw hK hc i pins s σ H E I hf st hg
    subst hP hw hK
    obtain ⟨⟨old, he⟩, hit, hne⟩ := st
    obtain ⟨xs, x, hq, hx⟩ := hg
    obtain ⟨its, rv, p, hz⟩ := I.tuple hq
    obtain ⟨u, hu, ru⟩ := paired_at rv hx
    have li : i < its.length := (List.getElem?_eq_some_iff.mp hu).1
    have el : e < s.heap.objs.size := Heap.lt_size he
    have il : it < s.heap.objs.size := by
      obtain ⟨_, z, _⟩ := hit
      exact Heap.lt_size z
    have ai : a ≠ it := fun z => by
      obtain ⟨o, ho, _, n, hd⟩ := istup p
      obtain ⟨o', ho', _, hd'⟩ := hit
      rw [z, ho'] at ho
      cases ho
      rw [hd'] at hd
      cases hd
    have ae : e ≠ a := fun z => by
      obtain ⟨o, ho, hc, _⟩ := istup p
      rw [← z, he] at ho
      cases ho
      have hc : Value.type "enumerate" = Value.type "tuple" := hc
      simp at hc
    have Dr := Draws.tuple (prog := X.prog) (w := X.w) (A := X.A.in1) (I.ok.hd hc) it a ai its.toArray
    refine wpAny_pyNext_enum_itemD Dr he ⟨hit, istup p⟩ (by simpa using li) hne (by simp [hne, ae]) fun x' h' tk hx' ho st' hT hsz hk => ?_
    have ex : x' = u := by
      have z : its[i]? = some x' := by simpa using hx'
      rw [hu] at z
      exact (Option.some.inj z).symm
    subst ex
    refine ⟨_, rfl, wpAny_letOwnedTupleGo_enum (s := { s with heap := h', toks := tk + 1 }) ho fun h2 he' sb => ?_⟩
    have hT2 : h2.get? s.heap.objs.size = some ({ cls := .type "tuple", data := .seq #[.int i tk, x'] } : Obj) := (sb.2 _ (Nat.ne_of_gt el)).trans hT
    have nw : ObjOk X.prog X.w (upd H s.heap.objs.size (.tup [.int (i : Nat), x])) h2 s.heap.objs.size (.tup [.int (i : Nat), x]) :=
      ⟨by show 2 ≤ sizeLine; decide, [.int i tk, x'], .cons ⟨_, rfl⟩ (.cons ru .nil), ⟨_, hT2, rfl, _, rfl⟩⟩
    have I1 : Inv X pins σ (upd H s.heap.objs.size (.tup [.int (i : Nat), x])) { s with heap := h2, toks := tk + 1 } :=
      I.turnedNew (ch := [e, it]) (fun b ob hb q => (sb.2 b (fun z => hb (by simp [z]))).trans (hk b ob (fun z => hb (by simp [z])) (fun z => hb (by simp [z])) q)) hf (Nat.le_refl _) nw
    refine ⟨.ref s.heap.objs.size, _, I1, rfl, ⟨_, x, rfl, I.hok.fresh (Nat.le_refl _), rfl, fun ys hy => by rw [I.tuple_inj hy hq]; exact hx⟩, ⟨⟨x', ?_⟩, st'.1.at fun o q => (sb.2 it (Ne.symm hne)).trans q, hne⟩, fun b hb => ?_⟩
    · rw [show ((i + 1 : Nat) : Int) = (i : Int) + 1 from by omega]
      exact he'
    · have hb' : b < s.heap.objs.size := by
        rcases (show b = e ∨ b = it by simpa using hb) with z | z
        · rw [z]; exact el
        · rw [z]; exact il
      rw [upd_ne (Nat.ne_of_lt hb')]
      exact (hf b hb).1
  done := by
    intro X hP hw hK hc i pins s σ H E I hf st hg
    subst hP hw hK
    obtain ⟨⟨old, he⟩, hit, hne⟩ := st
    obtain ⟨xs, hq, hx⟩ := hg
    obtain ⟨its, rv, p, hz⟩ := I.tuple hq
    obtain ⟨f0, f1, f2, f3, f4, f5⟩ := hf it (by simp)
    have hl : xs.length = its.length := Paired.length rv
    have Dr : Draws X.prog X.w X.A.in1 it [it, a] i (fun _ _ => True) (fun j h => j = i ∧ h.IsTupleIter it a i ∧ h.IsTuple a its.toArray) :=
      { live := fun _ _ st => let ⟨o, ho, _⟩ := st.2.1; ⟨o, ho⟩
        frame := fun _ _ _ st hk => ⟨st.1, st.2.1.at fun o e => hk it (by simp) o e, st.2.2.at fun o e => hk a (by simp) o e⟩
        item := fun j s Q E hj st => absurd st.1 (Nat.ne_of_lt hj)
        done := fun s Q E st hE => wpAny_nextOf_tuple_end (I.ok.hd hc) st.2.1 st.2.2 (by simp; omega) hE }
    exact wpAny_pyNext_enum_endD Dr he ⟨rfl, hit, istup p⟩ fun h' eb => ⟨rfl, I.turned (t' := s.toks) (fun b o hb q => eb b o hb q) f0 f1 f3 f4 f5⟩
  self := fun A i s Q E st h => by
    obtain ⟨⟨_, he⟩, _⟩ := st
    exact wpAny_pyIter_enum he h
section
variable {X : Cx} {Wx : WX} {e tg : Expr} {me : Mir D} {pos p : Pos}
theorem pi_enT {ta : TA} {tpos : Pos} {elts : List Expr} {kk : Nat} (hg : Gl X "enumerate") (hm : X.mg "enumerate" = none) (ha : PA X [e] ta) (hs : starEach [e] X.env = [(false, eval e X.env)] := by rfl) :
    PI X (.Tuple elts kk tpos) (.Call (.Name "enumerate" p) [e] [] pos) (fun σ H R => ta σ H fun vs H1 => ∃ a xs, vs = [.ref a] ∧ SqT X.K H1 a xs ∧ R (ItT X.K a) H1) := by
  refine ⟨fun pins s σ H R I h => ?_⟩
  refine Call_ (ld_blt I hg hm boot_enumerate (PyProof.Rows.callWith_type1 (thn (ha.run pos pins s σ H _ I h) fun us s1 ⟨vs, H1, I1, r1, q1⟩ => ?_) hs rfl))
  obtain ⟨a, xs, ex, hq, q⟩ := q1
  subst ex
  obtain ⟨u, rfl, r⟩ := vals1 r1
  cases r
  obtain ⟨its, rv, p', hz⟩ := I1.tuple hq
  refine en1_begins (begins_tuple a its.toArray) (istup p') fun z en hit hk => wpAny_pyIter_enum en ?_
  have I2 : Inv X pins σ H1 { s1 with heap := z } := I1.kept (t' := s1.toks) hk
  refine ⟨s1.heap.objs.size + 1, [s1.heap.objs.size + 1, s1.heap.objs.size], _, _, H1, rfl, I2, turn_T a (s1.heap.objs.size + 1) s1.heap.objs.size, ⟨⟨.none, en⟩, ⟨_, hit, rfl, rfl⟩, Nat.succ_ne_self _⟩, fun b hb => ?_, q⟩
  have hle : s1.heap.objs.size ≤ b := by
    rcases (show b = s1.heap.objs.size + 1 ∨ b = s1.heap.objs.size by simpa using hb) with z | z
    · rw [z]; exact Nat.le_add_right _ _
    · rw [z]; exact Nat.le_refl _
  exact I1.fpOk hle (I1.hok.fresh hle)
theorem walk_T {K : Frag} {a : Addr} {xs : List V} : Walk (ItT K a) xs.length (fun H => SqT K H a xs) (YPair (fun i => some (.int (i : Nat))) (fun i => xs[i]?)) := by
  refine ⟨fun i _ hi q => ⟨xs, xs[i], q, by simp [hi]⟩, fun _ q => ⟨xs, q, Nat.le_refl _⟩, fun i H v H' _ q y => ?_⟩
  obtain ⟨T, x, h1, h2, h3, h4⟩ := y
  exact ⟨T, .int (i : Nat), x, h1, h2, h3, rfl, h4 xs q⟩
theorem iter_enT {W : Wd} {K : Frag} {B H : Hp} {a : Addr} {vs : List V} {ds : List D} {strict : Bool} (hp : SqT K B a vs) (r : DvL K B vs ds) : IterOk strict W K B H (ItT K a) (enumL 0 ds) := by
  refine ⟨fun H => SqT K H a vs, _, by rw [enumL_len, ← r.len]; exact walk_T, fun B' H' hs k hx => k.sub.t (hs.t hp), fun i B' H' x H2 s hs k w hi y => ?_⟩
  obtain ⟨T, x, y, rfl, hn, rfl, ex, ey⟩ := y
  cases ex
  obtain ⟨d, e, q⟩ := r.get ey
  refine ⟨_, .tup [.int ((i : Nat) : Int), d], Gr.new k w hn, w.st (sub_new hn), ?_, ?_⟩
  · have := enumL_get 0 ds i d e
    rw [Nat.zero_add] at this
    exact this
  · have hb := none_of_kn k hn
    exact .tup (SqT.of upd_same) (.cons (.int _) (.cons ((q.mono hs).mono (sub_new hb)) .nil))
/-- enumerate of a list or a tuple -/
def seqE (d : D) : M (List D) := match d with
  | .tup xs => ret xs
  | d => seqS d
def mEnumA (me : Mir D) : Mir (List D) := fun ls => bnd (me ls) fun d => bnd (seqE d) fun xs => ret (enumL 0 xs)
theorem si_enumA {elts : List Expr} {kk : Nat} {tpos : Pos} {strict : Bool} (hg : Gl X "enumerate") (hm : X.mg "enumerate" = none) (he : SE G X Wx e me) (hs : starEach [e] X.env = [(false, eval e X.env)] := by rfl) : SI G X Wx strict (.Tuple elts kk tpos) (.Call (.Name "enumerate" p) [e] [] pos) (mEnumA me) := by
  obtain ⟨t, pt, ht⟩ := he.ex
  refine ⟨_, PI.or (pi_enum hg hm (pa_cons pt pa_nil hs) hs) (pi_enT hg hm (pa_cons pt pa_nil hs) hs), fun W H0 σ B H ls s R k w sm h => ?_⟩
  unfold mEnumA at h
  cases e1 : me ls s with
  | stuck => rw [bnd_stk e1] at h; exact (show False from h).elim
  | exc C fs s' =>
    rw [bnd_exc e1] at h
    exact Or.inl (ht W H0 σ B H ls s _ k w sm (by rw [e1]; exact h))
  | ok d s1 =>
    rw [bnd_ok e1] at h
    unfold seqE at h
    split at h
    · refine Or.inr (ht W H0 σ B H ls s _ k w sm ?_)
      rw [e1]
      intro v B1 H1 g1 w1 r1
      cases r1 with
      | tup hb r => exact ⟨_, _, rfl, g1.kn.sub.t hb, h _ B1 H1 g1 w1 (iter_enT hb r)⟩
    · refine Or.inl (ht W H0 σ B H ls s _ k w sm ?_)
      rw [e1]
      intro v B1 H1 g1 w1 r1
      rcases seqS_res d s1 with ⟨xs, e2⟩ | e2
      · rw [bnd_ok e2] at h
        obtain ⟨_, q, vs, rfl, hq, rr⟩ := r1.seqS e2
        exact ⟨q, _, rfl, g1.kn.sub.l hq, h _ B1 H1 g1 w1 (iter_enum hq rr)⟩
      · rw [bnd_stk e2] at h
        exact (show False from h).elim
/-! ### a text, a list, a tuple -/
def signs (z : Str) : List D := z.cps.toList.map fun c => .str ⟨#[c]⟩
theorem iter_str {W : Wd} {K : Frag} {B H : Hp} {z : Str} {strict : Bool} : IterOk strict W K B H (Its z) (signs z) := by
  have hl : (signs z).length = z.cps.size := by simp [signs]
  refine ⟨fun _ => True, _, by rw [hl]; exact walk_str, fun _ _ _ _ _ => trivial, fun i B' H' x H2 s hs k w hi y => ?_⟩
  obtain ⟨rfl, c, hc, rfl⟩ := y
  refine ⟨B', .str ⟨#[c]⟩, Gr.refl k, w, ?_, .str _⟩
  unfold signs
  rw [List.getElem?_map, Array.getElem?_toList, hc]
  rfl
def seqT (d : D) : M (List D) := match d with
  | .str z => ret (signs z)
  | d => seqD d
theorem si_seqT (he : SO G X Wx e me) : SI G X Wx true tg e (fun ls => bnd (me ls) seqT) := by
  obtain ⟨t, pt, ht⟩ := he.ex
  refine ⟨_, PI.or (pi_str pt) (PI.or (pi_list pt) (pi_tup pt)), fun W H0 σ B H ls s R k w sm h => ?_⟩
  cases e1 : me ls s with
  | stuck => rw [bnd_stk e1] at h; exact (show False from h).elim
  | exc C fs s' =>
    rw [bnd_exc e1] at h
    exact Or.inl (ht W H0 σ B H ls s _ k w sm (by rw [e1]; exact h))
  | ok d s1 =>
    rw [bnd_ok e1] at h
    unfold seqT at h
    split at h
    · refine Or.inl (ht W H0 σ B H ls s _ k w sm ?_)
      rw [e1]
      intro v B1 H1 g1 w1 r1
      rw [r1.str]
      exact ⟨_, rfl, h _ B1 H1 g1 w1 iter_str⟩
    · unfold seqD at h
      split at h
      · refine Or.inr (Or.inl (ht W H0 σ B H ls s _ k w sm ?_))
        rw [e1]
        intro v B1 H1 g1 w1 r1
        rcases r1 with r1 | ⟨q, vs, ds, rfl, e2, nv, hp, r⟩
        · cases r1 with
          | lst hb r => exact ⟨_, rfl, ⟨_, SqL.of (g1.kn.sub _ _ hb)⟩, h _ B1 H1 g1 w1 (iter_list (g1.kn _ _ hb).1 (g1.kn.sub _ _ hb) (fun _ => hb) r)⟩
        · cases e2
          exact ⟨_, rfl, ⟨_, SqL.of hp⟩, h _ B1 H1 g1 w1 (iter_list nv hp (fun z => nomatch z) r)⟩
      · refine Or.inr (Or.inr (ht W H0 σ B H ls s _ k w sm ?_))
        rw [e1]
        intro v B1 H1 g1 w1 r1
        obtain ⟨q, vs, rfl, hb, r⟩ := r1.tup
        exact ⟨_, rfl, ⟨_, g1.kn.sub.t hb⟩, h _ B1 H1 g1 w1 (iter_tup hb r)⟩
      · exact (show False from h).elim
/-! ### minus -/
def negD (d : D) : M D := match d with
  | .int i => ret (.int (-i))
  | _ => stk
theorem se_neg (he : SE G X Wx e me) : SE G X Wx (.UnaryOp .USub e pos) (fun ls => bnd (me ls) negD) := by
  obtain ⟨t, pt, ht⟩ := he.ex
  refine ⟨_, pe_un un_neg pt, fun W H0 σ B H ls s Q k w sm h => ?_⟩
  refine ht W H0 σ B H ls s _ k w sm (h.bind fun dx s1 x B1 H1 g1 w1 rx h1 => ?_)
  unfold negD at h1
  split at h1
  · cases rx
    exact ⟨_, rfl, h1.ret_ g1.kn w1 (.int _)⟩
  · exact (show False from h1).elim
end
end PV
set_option maxHeartbeats 4000000
/-! Defs that make lambdas, defs that are handed them, by name. -/
namespace PV
open PySem PySem.W PySem.Calls PyProof.Rows L2
variable {G : Gd} {T : List NdefX.NTab}
/-- a def by its name in K -/
structure DefL (K : Frag) (mg : Str → Option Value) (x : Str) (st : Stmt) : Prop where
  ex : ∃ (fd : FuncData), FunD K x x (defArgs st) (defBody st) (defScope st) [] [] (He.fAd K (x, none)) fd
  gm : mg x = some (.ref (He.fAd K (x, none)))
section
variable {P : Program} {w : World} {K : Frag} {mg : Str → Option Value} {base : Heap} {x : Str} {st : Stmt} {k : Nat} {N ps : List Str} {mb : MS}
theorem DefL.f (F : DefL K mg x st) : DefF K mg x st := by
  obtain ⟨fd, D⟩ := F.ex
  exact ⟨_, fd, D, F.gm⟩
/-- .. whose code object is told -/
theorem DefL.cal (F : DefL K mg x st) (S : FnScope N ps (defScope st)) (hl : ps.length ≤ N.length)
    (hb : ∀ (kV doc pm : Value) (an : Option Addr) (cdv ct : Value) (us : List Value), us.length = ps.length → bindArgs (fnOf x x (defArgs st) (defBody st) (defScope st) .none kV doc pm an cdv ct) ⟨us, []⟩ = pure (ps.zip us))
    (body : ∀ (f : Addr) (cdv : Value) (A : Around) (outer : List Env) (s : Shared) (H : Hp) (E : XK), cdv = .ref (He.cT K (x, none)).1 → RoomG k (A.deeper (envOfC x (defScope st) s.heap.objs.size f cdv)) → SSs (G0 T) (cxOf (L2.CX P w) P w K mg base N x (defScope st) f cdv A outer s H E) (EW E) (defBody st) mb) :
    Cal P w K mg base T x (k + 1) ps.length (runF N.length mb) := by
  obtain ⟨fd, D⟩ := F.ex
  refine ⟨He.fAd K (x, none), fd, ps, ?_, F.gm, D.kp, D.bindsN hb⟩
  obtain ⟨oc, od, dV, kV, doc, pm, an, cdv0, ct, osl, rfl, lk, hcd, dd, dk⟩ := D.ex
  obtain ⟨c, ec⟩ := He.codeIn_ref hcd
  have e2 : He.codeOf K (x, none) = c := He.codeOf_eq lk ec
  have hC : cdv0 = .ref (He.cT K (x, none)).1 := by
    rw [ec]
    exact congrArg Value.ref e2.symm
  refine ⟨fun vs H Q E h => h.1, fun A outer s H args us vs Q E rg e0 bd rv h => ?_⟩
  have hlen := h.1
  obtain ⟨_, W, B, sd, ds, et, kn, wk, r, a⟩ := h
  obtain ⟨t, pt, ht⟩ := (body (He.fAd K (x, none)) cdv0 A outer s H E hC (rg.deeper _)).ex
  exact LamX.run_ofS lk hcd S rg.room e0 bd rv hlen fun _ => ⟨t, pt, PV.body_ok (X := cxOf (L2.CX P w) P w K mg base N x (defScope st) (He.fAd K (x, none)) cdv0 A outer s H E) (by rw [hlen]; exact hl) kn wk r ⟨trivial, et⟩ a ht⟩
end
/-! ### defs that are handed a lambda -/
structure CalL (P : Program) (w : World) (K : Frag) (mg : Str → Option Value) (base : Heap) (T : List NdefX.NTab) (x : Str) (k : Nat) (Ng psg : List Str) (a : Str) (sg : Scope) (mb : (List D → M D) → MS) : Prop where
  ex : ∃ (g : Addr) (fdg : FuncData) (pg : Arguments) (bg : List Stmt), FunD K x x pg bg sg [] [] g fdg ∧ mg x = some (.ref g) ∧ Binds K fdg (psg ++ [a]) [] ∧ FnScope Ng (psg ++ [a]) sg ∧
    ∀ (q : Str) (f c : Addr) (B0 : Hp) (call : List D → M D) (cdv : Value) (A : Around) (outer : List Env) (s : Shared) (H : Hp) (E : XK), RoomG k (A.deeper (envOfC x sg s.heap.objs.size g cdv)) → Act (GL T f B0 c q) (cxOf (L2.CX P w) P w K mg base Ng x sg g cdv A outer s H E) a psg.length call →
      SSs (GL T f B0 c q) (cxOf (L2.CX P w) P w K mg base Ng x sg g cdv A outer s H E) (EW E) bg (mb call)
section
variable {P : Program} {w : World} {K : Frag} {mg : Str → Option Value} {base : Heap} {x a : Str} {st : Stmt} {k : Nat} {N psg : List Str} {mb : (List D → M D) → MS}
theorem DefF.calL (F : DefF K mg x st) (S : FnScope N (psg ++ [a]) (defScope st))
    (hb : ∀ (kV doc pm : Value) (an : Option Addr) (cdv ct : Value) (us : List Value), us.length = (psg ++ [a]).length → bindArgs (fnOf x x (defArgs st) (defBody st) (defScope st) .none kV doc pm an cdv ct) ⟨us, []⟩ = pure ((psg ++ [a]).zip us))
    (body : ∀ (g : Addr) (q : Str) (f c : Addr) (B0 : Hp) (call : List D → M D) (cdv : Value) (A : Around) (outer : List Env) (s : Shared) (H : Hp) (E : XK), RoomG k (A.deeper (envOfC x (defScope st) s.heap.objs.size g cdv)) → Act (GL T f B0 c q) (cxOf (L2.CX P w) P w K mg base N x (defScope st) g cdv A outer s H E) a psg.length call →
      SSs (GL T f B0 c q) (cxOf (L2.CX P w) P w K mg base N x (defScope st) g cdv A outer s H E) (EW E) (defBody st) (mb call)) : CalL P w K mg base T x k N psg a (defScope st) mb := by
  obtain ⟨f, fd, D, g⟩ := F.ex
  exact ⟨f, fd, _, _, D, g, D.bindsN hb, S, body f⟩
end
section
variable {X : Cx} {Wx : WX} {e : Expr} {es : List Expr} {ms : Mir (List D)} {p1 p2 : Pos} {a : Str} {i : Nat} {call : List D → M D}
theorem Act.z1 (A : Act G X a i call) (tk : Takes X Wx) (ha : SA G X Wx (e :: es) ms) (h1 : starEach (e :: es) X.env = (false, eval e X.env) :: starEach es X.env := by rfl) (h2 : (backTo p2 (starEach es X.env)).any (·.1) = false := by rfl) : SE G X Wx (.Call (.Name a p1) (e :: es) [] p2) (mAct i call ms) :=
  A.c1 (pn := X.pn) (xe := X.xe) tk ha h1 h2
theorem Act.z0 (A : Act G X a i call) (tk : Takes X Wx) : SE G X Wx (.Call (.Name a p1) [] [] p2) (mAct i call (fun _ => ret [])) :=
  A.c0 (pn := X.pn) (xe := X.xe) tk
end
def capB (N ps : List Str) (cap : List (Nat × Str)) : Bool := cap.all fun p => decide (N[p.1]? = some p.2) && !decide (p.2 ∈ ps)
theorem capB_ok {N ps : List Str} {cap : List (Nat × Str)} (h : capB N ps cap = true) : ∀ p ∈ cap, N[p.1]? = some p.2 ∧ p.2 ∉ ps := fun p hp => by
  have z := List.all_eq_true.mp h p hp
  simp only [Bool.and_eq_true, decide_eq_true_eq, Bool.not_eq_true', decide_eq_false_iff_not] at z
  exact z
section
variable {X : Cx} {Wx : WX} {e : Expr} {es : List Expr} {ms : Mir (List D)} {pos p : Pos} {x a q : Str} {sg : Scope} {Ng ps psg : List Str} {cap : List (Nat × Str)} {params : Arguments} {body : Expr} {scope : Scope} {k kc : Nat} {mlam : Mir D} {mb : (List D → M D) → MS}
theorem se_lamC (C : CalL X.prog X.w X.K X.mg X.base G.tb x kc Ng psg a sg mb) (hr : RoomG (k + 2) X.A) (hk : kc ≤ k + 1) (hg : Gl X x) (tk : Takes X Wx) (L : LamP ps X.env.scope scope) (hc : capB X.N ps cap = true)
    (hs : SAL G X Wx (e :: es) (fun c' => ⟨q, params, body, scope, cloFrom X.env.cells scope.names [], c'⟩) ms)
    (hbind : ∀ (cl : List (Str × Addr)) (pm cv ctv : Value) (us : List Value), us.length = ps.length → bindArgs (kla_fn "<lambda>" q params body scope cl pm cv ctv) ⟨us, []⟩ = pure (ps.zip us))
    (hlam : ∀ (A : Around) (outer : List Env) (s : Shared) (H : Hp) (E : XK) (f c : Addr), RoomG k (A.deeper (lEnv X q scope s.heap.objs.size f c)) → SE (G0 G.tb) (lamC X (ps ++ cap.map (·.2)) q scope f c A outer s H E) (EW E) body mlam)
    (hv : Vis sg a := by first | exact Or.inl rfl | exact Or.inr (Or.inl rfl)) (hda : (a == ("__debug__" : Str)) = false := by decide) (hca : (a == ("__classdict__" : Str)) = false := by decide) (hdb : (x == ("__debug__" : Str)) = false := by decide)
    (he : starEach (e :: es) X.env = (false, eval e X.env) :: starEach es X.env := by rfl) (hpl : (backTo pos (starEach es X.env)).any (·.1) = false := by rfl) :
    SE G X Wx (.Call (.Name x p) (e :: es) [] pos) (fun ls => bnd (ms ls) (runL Ng.length psg.length mb (lamD ps.length (capS cap ls) mlam))) := by
  obtain ⟨g, fdg, pg, bg, F, hm, hb, S, body⟩ := C.ex
  exact se_lamcall hr hg hm F hb S tk hs L (capB_ok hc) hbind hlam (fun f c B0 call cdv A outer s H E h => body q f c B0 call cdv A outer s H E (h.mono hk)) hv hda hca hdb he hpl
end
end PV
set_option maxHeartbeats 4000000
/-! f(e, ..) as a raw reading. -/
namespace PV
open PySem PySem.W PySem.Calls PyProof.Rows L2
variable {T : List NdefX.NTab}
def tCalG (K : Frag) (T : List NdefX.NTab) (Wx : WX) (n : Nat) (m : List D → M D) (t : TA) : TE := fun σ H Q => t σ H fun vs H1 => spM K T n m vs H1 Q (fun c d H' => Wx c d σ H')
section
variable {X : Cx} {Wx : WX} {e : Expr} {es : List Expr} {pos p : Pos} {k n : Nat} {x : Str} {m : List D → M D} {t : TA}
theorem pe_calG (C : Cal X.prog X.w X.K X.mg X.base T x k n m) (hr : RoomG k X.A) (hg : Gl X x) (tk : Takes X Wx) (ha : PA X (e :: es) t) (hdb : (x == ("__debug__" : Str)) = false := by decide) (he : starEach (e :: es) X.env = (false, eval e X.env) :: starEach es X.env := by rfl) (hpl : (backTo pos (starEach es X.env)).any (·.1) = false := by rfl) :
    PE X (.Call (.Name x p) (e :: es) [] pos) (tCalG X.K T Wx n m t) := by
  obtain ⟨f, fd, ps, F, h1, h2, h3⟩ := C.ex
  refine ⟨fun pins s σ H Q I h => ?_⟩
  refine wpAny_Call_Name_kw (ld_glob I hg h1 ?_ hdb)
  refine callWith_K (h₀ := X.base) I.ok.mod.kin h2 (thn (ha.run pos pins s σ H _ I h) fun us s1 ⟨vs, H1, I1, r, q⟩ => ⟨I1.kIn, ?_⟩) he hpl
  exact run_g F hr h3 tk I1 r q
end
end PV
set_option maxHeartbeats 4000000
/-! The law's draws: _law_mixed, _law_draw. -/
namespace PV
open PySem PySem.W PySem.Calls PyProof.Rows L2
variable {G : Gd} {T : List NdefX.NTab}
def bm_law_mixed : MS := (mSeq (fun ls => bnd ((m2 addD (m2 addD (m2 modD (fun ls => bnd ((mCons (m2 mulD (m2 mulD (mVar 0) (m2 addD (fun _ => ret (.int 1)) (m2 mulD (fun _ => ret (.int 2)) (mVar 1)))) (fun _ => ret (.int 48271))) (fun _ => ret [])) ls) int1D) (fun _ => ret (.int 2147483647))) (m2 mulD (m2 mulD (fun _ => ret (.int 7919)) (mVar 1)) (mVar 1))) (m2 mulD (fun _ => ret (.int 104729)) (mVar 1))) ls) fun d => ret (.nx (ls.set 2 (.va d)))) (mRet (m2 fdivD (m2 modD (fun ls => bnd ((mCons (m2 mulD (mVar 2) (fun _ => ret (.int 69621))) (fun _ => ret [])) ls) int1D) (fun _ => ret (.int 2147483629))) (fun _ => ret (.int 7)))))
def m_law_mixed : List D → M D := runF 3 bm_law_mixed
def mix (c n : Int) : Int := ((c * (1 + 2 * n) * 48271) % 2147483647 + 7919 * n * n + 104729 * n) * 69621 % 2147483629 / 7
def mixM (ds : List D) : M D := match ds with
  | [.int c, .int n] => if 0 ≤ n ∧ n < 1152921504606846976 then ret (.int (mix c n)) else stk
  | _ => stk
theorem mulD_of {i j : Int} (h : (-(2 ^ 64) < i ∧ i < 2 ^ 64) ∨ (-(2 ^ 64) < j ∧ j < 2 ^ 64)) : mulD (.int i) (.int j) = ret (.int (i * j)) := by
  exact if_pos h
theorem mix_ok (ds : List D) (s : DS) (h : mixM ds s ≠ .stuck) : m_law_mixed ds s = mixM ds s := by
  unfold mixM at h ⊢
  split at h
  · rename_i c n
    split at h
    · rename_i hn
      rw [if_pos hn]
      have e1 : mulD (.int 2) (.int n) = ret (.int (2 * n)) := mulD_of (.inl (by omega))
      have e2 : mulD (.int c) (.int (1 + 2 * n)) = ret (.int (c * (1 + 2 * n))) := mulD_of (.inr (by omega))
      have e3 : ∀ x, mulD (.int x) (.int 48271) = ret (.int (x * 48271)) := fun x => mulD_of (.inr (by omega))
      have e4 : mulD (.int 7919) (.int n) = ret (.int (7919 * n)) := mulD_of (.inl (by omega))
      have e5 : mulD (.int (7919 * n)) (.int n) = ret (.int (7919 * n * n)) := mulD_of (.inr (by omega))
      have e6 : mulD (.int 104729) (.int n) = ret (.int (104729 * n)) := mulD_of (.inl (by omega))
      have e7 : ∀ x, mulD (.int x) (.int 69621) = ret (.int (x * 69621)) := fun x => mulD_of (.inr (by omega))
      have e8 : ∀ x, modD (.int x) (.int 2147483647) = ret (.int (x % 2147483647)) := fun x => rfl
      have e9 : ∀ x, modD (.int x) (.int 2147483629) = ret (.int (x % 2147483629)) := fun x => rfl
      have ea : ∀ x, fdivD (.int x) (.int 7) = ret (.int (x / 7)) := fun x => rfl
      have eb : ∀ x y, addD (.int x) (.int y) = ret (.int (x + y)) := fun x y => rfl
      show bnd (bm_law_mixed _) endF s = _
      simp only [bm_law_mixed, argL, mSeq, mRet, m2, mCons, mVar, bnd_ret, List.map_cons, List.map_nil, List.cons_append, List.nil_append, List.length_cons, List.length_nil, List.getElem?_cons_zero, List.getElem?_cons_succ, int1D, e1, e2, e3, e4, e5, e6, e7, e8, e9, ea, eb, Nat.reduceAdd, Nat.reduceSub, List.replicate, List.set, endF]
      rfl
    · exact absurd rfl h
  · exact absurd rfl h
/-! ### _law_draw -/
abbrev rIn1 : List V → Hp → VK → Prop := fun xs H Q => (∃ i, xs = [V.int i] ∧ Q (V.int i) H) ∨ ∃ k, xs = [V.bl k] ∧ Q (V.int (if k = true then 1 else 0)) H
abbrev rLn (K : Frag) : List V → Hp → VK → Prop := fun xs H Q => ∃ x n, xs = [x] ∧ LenV K x H n ∧ Q (V.int ↑n) H
abbrev rPl : R2 := rI0 fun i j => V.int (i + j)
abbrev rMd : R2 := rI (fun x j => 0 < j) fun i j => V.int (i % j)
abbrev rDv : R2 := rI CDiv fun i j => V.int (i / j)
abbrev rMu : R2 := rI CMul fun i j => V.int (i * j)
abbrev tGt_ (x : Str) : TE := tDGet (tVar 0) (tC (V.str x))
abbrev tInt_ (i : Nat) : TE := tCB rIn1 (tCons (tVar i) tNil)
def tDraw (K : Frag) (T : List NdefX.NTab) (Wx : WX) : TS :=
  tSeq (tAsg (tGt_ "spot") (gName 2))
    (tSeq (sDPut (tVar 0) (tC (V.str "spot")) (tOp rPl (tVar 2) (tC (V.int 1))))
      (tSeq
        (tIfS (tTest (tOp (rNeD K) (tGt_ "great") (tLst tNil)))
          (tSeq (tAsg (tGt_ "great") (gName 3))
            (tSeq (tAsg (tOp rMd (tInt_ 2) (tCB (rLn K) (tCons (tVar 3) tNil))) (gName 4))
              (tSeq (tAsg (tOp (rIxL K) (tVar 3) (tVar 4)) (gName 5))
                (tIfS (tB (tGt (tVar 5) (tC (V.int 0)))) (tSeq (tAsg (tOp rDv (tVar 5) (tVar 1)) (gSub (tVar 3) (tVar 4) rSetL)) (tRet (tOp rMd (tInt_ 5) (tVar 1)))) tNext)))) tNext)
        (tSeq (tAsg (tGt_ "cells") (gName 3))
          (tRet (tOp rMd (tCB rIn1 (tCons (tCalG K T Wx 2 mixM (tCons (tCalG K T Wx 2 mixM (tCons (tOp rPl (tOp (rIxL K) (tVar 3) (tOp rMd (tInt_ 2) (tC (V.int 64)))) (tOp rMu (tC (V.int 31)) (tOp rDv (tVar 2) (tC (V.int 64))))) (tCons (tVar 2) tNil)))
            (tCons (tOp rPl (tVar 2) (tC (V.int 7))) tNil))) tNil)) (tVar 1))))))
/-- which great cell is next -/
def grAt (s : DS) : Nat := (s.spot % (s.great.length : Int)).toNat
def grC (s : DS) : Int := s.great.getD (grAt s) 0
def smR (s : DS) : Int := mix (mix (s.cells.getD (s.spot % 64).toNat 0 + 31 * (s.spot / 64)) s.spot) (s.spot + 7)
def drawR (l : Int) (s : DS) : Res D :=
  if s.great ≠ [] ∧ 0 < grC s then .ok (.int (grC s % l)) { s with spot := s.spot + 1, great := s.great.set (grAt s) (grC s / l) } else .ok (.int (smR s % l)) { s with spot := s.spot + 1 }
def drawM (ds : List D) : M D := fun s => match ds with
  | [.raw (.ref a), .int l] => if s.at_ = some a ∧ 0 < l ∧ l < 1073741824 ∧ 0 ≤ s.spot ∧ s.spot < 1125899906842624 ∧ s.cells.length = 64 ∧ s.great.length ≤ 1000 then drawR l s else .stuck
  | _ => .stuck
theorem Gr.vol {W : Wd} {B0 H0 B H : Hp} {p : Addr} {o : HO} (g : Gr W B0 H0 B H) (v : W.vol p) : Gr W B0 H0 B (upd H p o) := by
  refine ⟨fun a u z => ⟨(g.kn a u z).1, ?_⟩, g.bb, fun a u n z => ?_, g.nw⟩
  · rw [upd_ne (a := p) (b := a) (fun e => (g.kn a u z).1 (by rw [e]; exact v))]
    exact (g.kn a u z).2
  · rw [upd_ne (a := p) (b := a) (fun e => n (by rw [e]; exact v))]
    exact g.hh a u n z
theorem Wd.ok.upd_dr {W : Wd} {s s' : DS} {H H' : Hp} (w : W.ok s H) (ha : s'.at_ = s.at_) (hd : ∀ p, W.dr = some p → DrwAt p.1 p.2.1 p.2.2 s' H') (ht : NdefX.TabsN W.tb H') : W.ok s' H' := ⟨hd, ht, ha.trans w.at_⟩
theorem tabs_vol {W : Wd} {s : DS} {H : Hp} {p : Addr × Addr × Addr} {x : Addr} {o : HO} (w : W.ok s H) (e : W.dr = some p) (hx : x = p.1 ∨ x = p.2.1 ∨ x = p.2.2) : NdefX.TabsN W.tb (upd H x o) := fun t ht => by
  obtain ⟨ps, h1, h2, h3⟩ := w.tb t ht
  have d := w.dr p e
  have ne : ∀ {b : Addr} {u : HO}, H b = some u → (∀ kvs, u ≠ .dK kvs) → (∀ xs, u ≠ .lst xs) → b ≠ x := fun {b u} hb n1 n2 z => by
    subst z
    rcases hx with z | z | z
    · rw [z, d.m] at hb; cases hb; exact n1 _ rfl
    · rw [z, d.c] at hb; cases hb; exact n2 _ rfl
    · rw [z, d.g] at hb; cases hb; exact n2 _ rfl
  refine ⟨ps, ?_, h2, fun pos cv hc => ?_⟩
  · rw [upd_ne (ne h1 (fun _ z => by cases z) (fun _ z => by cases z))]
    exact h1
  · obtain ⟨c, e1, e2⟩ := h3 pos cv hc
    refine ⟨c, e1, ?_⟩
    rw [upd_ne (ne e2 (fun _ z => by unfold LamX.CodeO at z; cases z) (fun _ z => by unfold LamX.CodeO at z; cases z))]
    exact e2
theorem dp_ints {K : Frag} {H : Hp} : ∀ ns : List Int, DpAll K H (ns.map V.int) (ns.map PyData.int)
  | [] => .nil
  | n :: ns => .cons (.int n) (dp_ints ns)
theorem depth_ints : ∀ ns : List Int, PyData.depthAll (ns.map PyData.int) = 0
  | [] => rfl
  | n :: ns => by rw [List.map_cons, PyData.depthAll, depth_ints ns, PyData.depth]; rfl
theorem eqv_nil (ns : List Int) : PyData.eqv (.list (ns.map PyData.int)) (.list []) = ns.isEmpty := by
  cases ns <;> rfl
theorem atI_nat {α : Type} {xs : List α} {i : Int} {x : α} (h0 : 0 ≤ i) (h : xs[i.toNat]? = some x) : atI xs i = some x := by
  have hl := (List.getElem?_eq_some_iff.mp h).1
  unfold atI ixN
  rw [if_pos h0, if_pos (by omega)]
  exact h
end PV
set_option maxHeartbeats 4000000
/-! _law_draw's reading. -/
namespace PV
open PySem PySem.W PySem.Calls PyProof.Rows L2
variable {G : Gd} {T : List NdefX.NTab}
section
variable {x y z : V}
abbrev kv3 (x y z : V) : List (Key × V) := [(Mcells, x), (Mgreat, y), (Mspot, z)]
theorem val_c : valV (kv3 x y z) Mcells = some x := by simp [valV, kv3, List.find?_cons]
theorem val_g : valV (kv3 x y z) Mgreat = some y := by
  have h : ¬ Mcells = Mgreat := by decide
  simp [valV, kv3, List.find?_cons, h]
theorem val_s : valV (kv3 x y z) Mspot = some z := by
  have h : ¬ Mcells = Mspot := by decide
  have h2 : ¬ Mgreat = Mspot := by decide
  simp [valV, kv3, List.find?_cons, h, h2]
theorem put_s {u : V} : putK (kv3 x y z) Mspot u = kv3 x y u := by
  have h : ¬ Mcells = Mspot := by decide
  have h2 : ¬ Mgreat = Mspot := by decide
  simp [putK, kv3, h, h2]
end
theorem can_ints : ∀ ns : List Int, PyData.canLay0 (.list (ns.map PyData.int)) = true := fun ns => by
  induction ns with
  | nil => rfl
  | cons n ns ih =>
    first
      | exact ih
      | simpa [PyData.canLay0, PyData.canLay0All] using ih
theorem shaped_ints (ns : List Int) : SeqAt.shaped (.list (ns.map PyData.int)) = true := by
  unfold SeqAt.shaped
  rw [can_ints, PyData.depth, depth_ints]
  rfl
theorem mixM_ok {K : Frag} {W : Wd} {B H : Hp} {s : DS} {c n : Int} {Q : VK} {E : XK} (hn : 0 ≤ n ∧ n < 1152921504606846976) (et : W.tb = T) (kn : Kn W B H) (w : W.ok s H) (h : ∀ B' H', Gr W B H B' H' → W.ok s H' → Q (.int (mix c n)) H') : spM K T 2 mixM [.int c, .int n] H Q E := by
  refine ⟨rfl, W, B, s, [.int c, .int n], et, kn, w, .cons (.int c) (.cons (.int n) .nil), ?_⟩
  have e : mixM [.int c, .int n] s = .ok (.int (mix c n)) s := by
    unfold mixM
    exact congrFun (if_pos hn) s
  rw [e]
  intro v B' H' g w r
  cases r
  exact h B' H' g w
theorem draw_read {K : Frag} {Wx : WX} {vs : List V} {H : Hp} {Q : VK} {E : XK} {D : Ends} (hD : D.rt = Q) (h : spM K T 2 drawM vs H Q E) : tDraw K T Wx D (L2.start ["m", "limit", "n", "lot", "here", "cell"] vs) H := by
  subst hD
  obtain ⟨hlen, W, B, s, ds, et, kn, wk, r, a⟩ := h
  unfold drawM at a
  split at a
  case h_2 => exact (show False from a).elim
  rename_i am l
  split at a
  case isFalse => exact (show False from a).elim
  rename_i hc
  obtain ⟨hat, l0, l1, n0, n1, hcl, hgl⟩ := hc
  cases r with
  | cons ra r =>
  cases ra
  cases r with
  | cons rb r =>
  cases rb
  cases r
  obtain ⟨p, hp⟩ : ∃ p, W.dr = some p := by
    have e := wk.at_
    rw [hat] at e
    cases q : W.dr with
    | none => rw [q] at e; cases e
    | some p => exact ⟨p, rfl⟩
  have ep : p.1 = am := by
    have e := wk.at_
    rw [hat, hp] at e
    exact (Option.some.inj e).symm
  obtain ⟨am', ac, ag⟩ := p
  cases ep
  have d := wk.dr _ hp
  have vm : W.vol am' := .inl ⟨_, hp, .inl rfl⟩
  have vg : W.vol ag := .inl ⟨_, hp, .inr (.inr rfl)⟩
  have nmc : ac ≠ am' := fun z => by
    have := d.c
    rw [z, d.m] at this
    cases this
  have nmg : ag ≠ am' := fun z => by
    have := d.g
    rw [z, d.m] at this
    cases this
  -- n = m['spot']
  refine ⟨_, rfl, am', .int s.spot, rfl, .inl ⟨_, Mspot, .inl d.m, rfl, val_s.symm⟩, ?_⟩
  -- m['spot'] = n + 1
  refine ⟨_, rfl, s.spot, 1, rfl, rfl, _, rfl, am', _, rfl, .inl ⟨_, Mspot, d.m, rfl, by show 3 < sizeLine; rw [sizeLine_eq]; omega, rfl⟩, ?_⟩
  rw [put_s]
  generalize hH1 : upd H am' (.dK (kv3 (.ref ac) (.ref ag) (.int (s.spot + 1)))) = H1
  have m1 : H1 am' = some (.dK (kv3 (.ref ac) (.ref ag) (.int (s.spot + 1)))) := by rw [← hH1, upd_same]
  have c1 : H1 ac = some (.lst (s.cells.map V.int)) := by rw [← hH1, upd_ne nmc]; exact d.c
  have g1 : H1 ag = some (.lst (s.great.map V.int)) := by rw [← hH1, upd_ne nmg]; exact d.g
  have gr1 : Gr W B H B H1 := by
    rw [← hH1]
    exact (Gr.refl kn).vol vm
  have w1 : W.ok { s with spot := s.spot + 1 } H1 := by
    refine wk.upd_dr rfl (fun q e => ?_) (by rw [← hH1]; exact tabs_vol wk hp (.inl rfl))
    rw [hp] at e
    cases e
    exact ⟨m1, c1, g1, d.ne⟩
  -- m['great'] != []
  refine ⟨_, rfl, am', .ref ag, rfl, .inl ⟨_, Mgreat, .inl m1, rfl, val_g.symm⟩, by show 0 ≤ sizeLine; omega, fun q hq => ?_⟩
  generalize hH2 : upd H1 q (.lst []) = H2
  have s12 : Sub H1 H2 := by rw [← hH2]; exact sub_new hq
  have m2 := s12 _ _ m1
  have c2 := s12 _ _ c1
  have g2 := s12 _ _ g1
  have w2 := w1.st s12
  have gr2 : Gr W B H B H2 := by
    refine gr1.trans ?_
    rw [← hH2]
    exact Gr.lay gr1.kn hq
  refine ⟨.list (s.great.map PyData.int), .list [], .lst (SqL.of g2) (dp_ints _), .lst (SqL.of (by rw [← hH2, upd_same])) .nil, shaped_ints _, rfl, _, rfl, ?_⟩
  rw [eqv_nil]
  -- the end with the small cells, from any state of the slots
  have small : ∀ (σ : L2.St), σ[0]? = some (some (.ref am')) → σ[1]? = some (some (.int l)) → σ[2]? = some (some (.int s.spot)) → 3 < σ.length → Ans W K B H (.ok (.int (smR s % l)) { s with spot := s.spot + 1 }) D.rt E →
      (tSeq (tAsg (tGt_ "cells") (gName 3)) (tRet (tOp rMd (tCB rIn1 (tCons (tCalG K T Wx 2 mixM (tCons (tCalG K T Wx 2 mixM (tCons (tOp rPl (tOp (rIxL K) (tVar 3) (tOp rMd (tInt_ 2) (tC (V.int 64)))) (tOp rMu (tC (V.int 31)) (tOp rDv (tVar 2) (tC (V.int 64))))) (tCons (tVar 2) tNil)))
            (tCons (tOp rPl (tVar 2) (tC (V.int 7))) tNil))) tNil)) (tVar 1)))) D σ H2 := by
    intro σ h0 h1 h2 hl a
    have t1 : (σ.set 3 (some (V.ref ac)))[1]? = some (some (.int l)) := by rw [List.getElem?_set_ne (by decide)]; exact h1
    have t2 : (σ.set 3 (some (V.ref ac)))[2]? = some (some (.int s.spot)) := by rw [List.getElem?_set_ne (by decide)]; exact h2
    have t3 : (σ.set 3 (some (V.ref ac)))[3]? = some (some (.ref ac)) := by rw [List.getElem?_set_self hl]
    refine ⟨_, h0, am', .ref ac, rfl, .inl ⟨_, Mcells, .inl m2, rfl, val_c.symm⟩, ?_⟩
    have hm : 0 ≤ s.spot % 64 ∧ s.spot % 64 < 64 := ⟨Int.emod_nonneg _ (by decide), Int.emod_lt_of_pos _ (by decide)⟩
    have hcx : (s.cells.map V.int)[(s.spot % 64).toNat]? = some (V.int (s.cells.getD (s.spot % 64).toNat 0)) := by
      rw [List.getElem?_map, List.getD_eq_getElem?_getD]
      have : (s.spot % 64).toNat < s.cells.length := by omega
      rw [List.getElem?_eq_getElem this]
      rfl
    refine ⟨_, t3, _, t2, .inl ⟨_, rfl, s.spot, 64, rfl, rfl, (show (0 : Int) < 64 by decide), ac, _, _, _, rfl, rfl, SqL.of c2, atI_nat hm.1 hcx, ?_⟩⟩
    refine ⟨_, t2, s.spot, 64, rfl, rfl, ⟨by decide, by decide⟩, 31, _, rfl, rfl, .inl (by decide), _, _, rfl, rfl, _, t2, ?_⟩
    refine mixM_ok (W := W) (B := B) (s := { s with spot := s.spot + 1 }) ⟨n0, by omega⟩ et gr2.kn w2 fun B3 H3 gr3 w3 => ?_
    refine ⟨_, t2, s.spot, 7, rfl, rfl, ?_⟩
    refine mixM_ok (W := W) (B := B3) (s := { s with spot := s.spot + 1 }) ⟨by omega, by omega⟩ et gr3.kn w3 fun B4 H4 gr4 w4 => ?_
    refine .inl ⟨_, rfl, _, t1, _, l, rfl, rfl, l0, ?_⟩
    exact a _ B4 H4 (gr2.trans (gr3.trans gr4)) w4 (.int _)
  by_cases he : s.great = []
  · have : (!s.great.isEmpty) = false := by rw [he]; rfl
    rw [this]
    dsimp only
    rw [if_neg (by decide)]
    refine small _ rfl rfl rfl (by show 3 < 6; decide) ?_
    unfold drawR at a
    rw [if_neg (fun z => z.1 he)] at a
    exact a
  · have hne : (!s.great.isEmpty) = true := by
      cases q : s.great with
      | nil => exact absurd q he
      | cons _ _ => rfl
    rw [hne]
    dsimp only
    rw [if_pos rfl]
    have hpos : (0 : Int) < (s.great.length : Int) := by
      cases q : s.great with
      | nil => exact absurd q he
      | cons _ _ => simp
    refine ⟨_, rfl, am', .ref ag, rfl, .inl ⟨_, Mgreat, .inl m2, rfl, val_g.symm⟩, ?_⟩
    refine ⟨_, rfl, .inl ⟨_, rfl, _, rfl, .ref ag, (s.great.map V.int).length, rfl, .inl ⟨_, SqL.of g2, rfl⟩, s.spot, _, rfl, rfl, by rw [List.length_map]; exact hpos, ?_⟩⟩
    rw [List.length_map]
    have hm : 0 ≤ s.spot % (s.great.length : Int) ∧ s.spot % (s.great.length : Int) < s.great.length := ⟨Int.emod_nonneg _ (by omega), Int.emod_lt_of_pos _ hpos⟩
    have hlt : grAt s < s.great.length := by unfold grAt; omega
    have hgx : (s.great.map V.int)[(s.spot % (s.great.length : Int)).toNat]? = some (V.int (grC s)) := by
      rw [List.getElem?_map]
      unfold grC
      rw [List.getD_eq_getElem?_getD]
      show Option.map V.int s.great[grAt s]? = _
      rw [List.getElem?_eq_getElem hlt]
      rfl
    refine ⟨_, rfl, _, rfl, ag, _, _, _, rfl, rfl, SqL.of g2, atI_nat hm.1 hgx, ?_⟩
    refine ⟨_, rfl, grC s, 0, rfl, rfl, _, rfl, ?_⟩
    by_cases hp0 : 0 < grC s
    · dsimp only
      rw [if_pos (decide_eq_true hp0)]
      unfold drawR at a
      rw [if_pos ⟨he, hp0⟩] at a
      have hix : ixN (s.great.map V.int).length (s.spot % (s.great.length : Int)) = some (grAt s) := by
        unfold ixN
        rw [if_pos hm.1, List.length_map, if_pos hm.2]
        rfl
      refine ⟨_, rfl, _, rfl, grC s, l, rfl, rfl, ⟨l0, l1⟩, _, rfl, _, rfl, ag, _, _, _, rfl, rfl, g2, hix, ?_⟩
      refine ⟨_, rfl, .inl ⟨_, rfl, _, rfl, grC s, l, rfl, rfl, l0, ?_⟩⟩
      refine a _ B _ (gr2.vol vg) ?_ (.int _)
      refine w2.upd_dr rfl (fun q e => ?_) (tabs_vol w2 hp (.inr (.inr rfl)))
      rw [hp] at e
      cases e
      refine ⟨?_, ?_, ?_, d.ne⟩
      · rw [upd_ne (Ne.symm nmg)]
        exact m2
      · rw [upd_ne d.ne]
        exact c2
      · rw [upd_same, List.map_set]
    · dsimp only
      rw [if_neg (by rw [decide_eq_false hp0]; decide)]
      unfold drawR at a
      rw [if_neg (fun z => hp0 z.2)] at a
      exact small _ rfl rfl rfl (by show 3 < 6; decide) a
end PV
set_option maxHeartbeats 4000000
/-! _law_folded: sixty-four ints. -/
namespace PV
open PySem PySem.W PySem.Calls PyProof.Rows L2
variable {G : Gd}
def bm_law_folded : MS := (mSeq (fun ls => bnd ((mLc [2] (fun ls => bnd ((mCons (fun _ => ret (.int 64)) (fun _ => ret [])) ls) rng1D) (gNm 2) (fun _ => ret true) (m2 addD (fun _ => ret (.int 17)) (mVar 2))) ls) fun ds => ret (.nx (ls.set 1 (.ow ds)))) (mSeq (fun ls => bnd ((mEnum (mVar 0)) ls) fun ds => loopD (gTupD 2 (gConsD (gNm 2) (gConsD (gNm 3) gNilD))) (mSetIx 1 (m2 modD (fun ls => bnd ((mCons (m2 addD (m2 mulD (m2 ixD (mOwn 1) (m2 modD (fun ls => bnd ((mCons (mVar 2) (fun _ => ret [])) ls) int1D) (fun _ => ret (.int 64)))) (fun _ => ret (.int 48271))) (mVar 3)) (fun _ => ret [])) ls) int1D) (fun _ => ret (.int 2147483647))) (m2 modD (fun ls => bnd ((mCons (mVar 2) (fun _ => ret [])) ls) int1D) (fun _ => ret (.int 64)))) ds ls) (mSeq (fun ls => bnd ((fun ls => bnd ((mCons (fun _ => ret (.int 1)) (mCons (fun _ => ret (.int 64)) (fun _ => ret []))) ls) rng2D) ls) fun ds => loopD (gNm 2) (mSetIx 1 (m2 modD (fun ls => bnd ((mCons (m2 addD (m2 ixD (mOwn 1) (mVar 2)) (m2 mulD (m2 ixD (mOwn 1) (m2 subD (mVar 2) (fun _ => ret (.int 1)))) (fun _ => ret (.int 16807)))) (fun _ => ret [])) ls) int1D) (fun _ => ret (.int 2147483647))) (mVar 2)) ds ls) (mRetOwn 1))))
def m_law_folded : List D → M D := runF 4 bm_law_folded
def fb1 : MS := (mSetIx 1 (m2 modD (fun ls => bnd ((mCons (m2 addD (m2 mulD (m2 ixD (mOwn 1) (m2 modD (fun ls => bnd ((mCons (mVar 2) (fun _ => ret [])) ls) int1D) (fun _ => ret (.int 64)))) (fun _ => ret (.int 48271))) (mVar 3)) (fun _ => ret [])) ls) int1D) (fun _ => ret (.int 2147483647))) (m2 modD (fun ls => bnd ((mCons (mVar 2) (fun _ => ret [])) ls) int1D) (fun _ => ret (.int 64))))
def fb2 : MS := (mSetIx 1 (m2 modD (fun ls => bnd ((mCons (m2 addD (m2 ixD (mOwn 1) (mVar 2)) (m2 mulD (m2 ixD (mOwn 1) (m2 subD (mVar 2) (fun _ => ret (.int 1)))) (fun _ => ret (.int 16807)))) (fun _ => ret [])) ls) int1D) (fun _ => ret (.int 2147483647))) (mVar 2))
theorem atI_ints {cs : List Int} {i : Int} (h0 : 0 ≤ i) (h1 : i < cs.length) : atI (cs.map D.int) i = some (.int (cs.getD i.toNat 0)) := by
  refine atI_nat h0 ?_
  have hl : i.toNat < cs.length := by omega
  rw [List.getElem?_map, List.getElem?_eq_getElem hl, List.getD_eq_getElem?_getD, List.getElem?_eq_getElem hl]
  rfl
theorem ixN_ints {cs : List Int} {i : Int} (h0 : 0 ≤ i) (h1 : i < cs.length) : ixN (cs.map D.int).length i = some i.toNat := by
  unfold ixN
  rw [if_pos h0, List.length_map, if_pos h1]
theorem ixD_ints {cs : List Int} {i : Int} (h0 : 0 ≤ i) (h1 : i < cs.length) : ixD (.lst (cs.map D.int)) (.int i) = ret (.int (cs.getD i.toNat 0)) := by
  show optM (atI (cs.map D.int) i) = _
  rw [atI_ints h0 h1]
  rfl
theorem putIx_ints {cs : List Int} {i v : Int} {ls : List Sl} (h0 : 0 ≤ i) (h1 : i < cs.length) : putIx 1 ls (cs.map D.int) (.int v) (.int i) = ret (.nx (ls.set 1 (.ow ((cs.set i.toNat v).map D.int)))) := by
  unfold putIx
  simp only [ixN_ints h0 h1]
  rw [List.map_set]
/-- the slots: found holds sixty-four ints -/
def Sx (ls : List Sl) : Prop := ∃ (a x y : Sl) (cs : List Int), ls = [a, .ow (cs.map D.int), x, y] ∧ cs.length = 64
theorem fb1_ok {a x y : Sl} {cs : List Int} {n c : Int} (hl : cs.length = 64) (hn : 0 ≤ n) : ∃ cs' : List Int, cs'.length = 64 ∧ fb1 [a, .ow (cs.map D.int), .va (.int n), .va (.int c)] = ret (.nx [a, .ow (cs'.map D.int), .va (.int n), .va (.int c)]) := by
  have h0 : 0 ≤ n % 64 := Int.emod_nonneg _ (by decide)
  have h1 : n % 64 < (cs.length : Int) := by rw [hl]; exact Int.emod_lt_of_pos _ (by decide)
  have e3 : ∀ x, mulD (.int x) (.int 48271) = ret (.int (x * 48271)) := fun x => mulD_of (.inr (by omega))
  have e8 : ∀ x, modD (.int x) (.int 2147483647) = ret (.int (x % 2147483647)) := fun x => rfl
  have e9 : ∀ x, modD (.int x) (.int 64) = ret (.int (x % 64)) := fun x => rfl
  have eb : ∀ x y, addD (.int x) (.int y) = ret (.int (x + y)) := fun x y => rfl
  refine ⟨cs.set (n % 64).toNat ((cs.getD (n % 64).toNat 0 * 48271 + c) % 2147483647), by rw [List.length_set]; exact hl, ?_⟩
  simp only [fb1, mSetIx, onOw, m2, mCons, mVar, mOwn, bnd_ret, List.getElem?_cons_zero, List.getElem?_cons_succ, int1D, e3, e8, e9, eb, ixD_ints h0 h1, putIx_ints h0 h1, List.set]
theorem fb2_ok {a x y : Sl} {cs : List Int} {n : Int} (hl : cs.length = 64) (hn : 1 ≤ n) (hm : n < 64) : ∃ cs' : List Int, cs'.length = 64 ∧ fb2 [a, .ow (cs.map D.int), .va (.int n), y] = ret (.nx [a, .ow (cs'.map D.int), .va (.int n), y]) := by
  have h0 : 0 ≤ n := by omega
  have h1 : n < (cs.length : Int) := by rw [hl]; omega
  have h2 : 0 ≤ n - 1 := by omega
  have h3 : n - 1 < (cs.length : Int) := by rw [hl]; omega
  have e3 : ∀ x, mulD (.int x) (.int 16807) = ret (.int (x * 16807)) := fun x => mulD_of (.inr (by omega))
  have e8 : ∀ x, modD (.int x) (.int 2147483647) = ret (.int (x % 2147483647)) := fun x => rfl
  have eb : ∀ x y, addD (.int x) (.int y) = ret (.int (x + y)) := fun x y => rfl
  have ec : ∀ x y, subD (.int x) (.int y) = ret (.int (x - y)) := fun x y => rfl
  refine ⟨cs.set n.toNat ((cs.getD n.toNat 0 + cs.getD (n - 1).toNat 0 * 16807) % 2147483647), by rw [List.length_set]; exact hl, ?_⟩
  simp only [fb2, mSetIx, onOw, m2, mCons, mVar, mOwn, bnd_ret, List.getElem?_cons_zero, List.getElem?_cons_succ, int1D, e3, e8, eb, ec, ixD_ints h0 h1, ixD_ints h2 h3, putIx_ints h0 h1, List.set]
theorem loop1 : ∀ (ns : List Int) (k : Nat) (ls : List Sl) (s : DS), Sx ls → ∃ ls', Sx ls' ∧ loopD (gTupD 2 (gConsD (gNm 2) (gConsD (gNm 3) gNilD))) fb1 (enumL k (ns.map D.int)) ls s = .ok (.nx ls') s
  | [], k, ls, s, h => ⟨ls, h, rfl⟩
  | n :: ns, k, ls, s, h => by
    obtain ⟨a, x, y, cs, rfl, hl⟩ := h
    obtain ⟨cs', hl', e⟩ := fb1_ok (a := a) (x := x) (y := y) (n := (k : Int)) (c := n) hl (by omega)
    obtain ⟨ls', h2, e2⟩ := loop1 ns (k + 1) [a, .ow (cs'.map D.int), .va (.int k), .va (.int n)] s ⟨_, _, _, cs', rfl, hl'⟩
    refine ⟨ls', h2, ?_⟩
    show bnd (fb1 [a, .ow (cs.map D.int), .va (.int k), .va (.int n)]) _ s = _
    rw [e]
    exact e2
theorem loop2 : ∀ (l : List Int) (ls : List Sl) (s : DS), (∀ n ∈ l, 1 ≤ n ∧ n < 64) → Sx ls → ∃ ls', Sx ls' ∧ loopD (gNm 2) fb2 (l.map D.int) ls s = .ok (.nx ls') s
  | [], ls, s, _, h => ⟨ls, h, rfl⟩
  | n :: l, ls, s, hn, h => by
    obtain ⟨a, x, y, cs, rfl, hl⟩ := h
    obtain ⟨cs', hl', e⟩ := fb2_ok (a := a) (x := x) (y := y) (n := n) hl (hn n (by simp)).1 (hn n (by simp)).2
    obtain ⟨ls', h2, e2⟩ := loop2 l [a, .ow (cs'.map D.int), .va (.int n), y] s (fun m hm => hn m (by simp [hm])) ⟨_, _, _, cs', rfl, hl'⟩
    refine ⟨ls', h2, ?_⟩
    show bnd (fb2 [a, .ow (cs.map D.int), .va (.int n), y]) _ s = _
    rw [e]
    exact e2
theorem mSeq_nx {m m' : MS} {ls ls' : List Sl} {s s' : DS} (h : m ls s = .ok (.nx ls') s') : mSeq m m' ls s = m' ls' s' := by
  unfold mSeq
  rw [bnd_ok h]
theorem fold_ok (ns : List Int) (s : DS) : ∃ cs : List Int, cs.length = 64 ∧ m_law_folded [.scr ns] s = .ok (.lst (cs.map D.int)) s := by
  have a1 : mLc [2] (fun ls => bnd ((mCons (fun _ => ret (.int 64)) (fun _ => ret [])) ls) rng1D) (gNm 2) (fun _ => ret true) (m2 addD (fun _ => ret (.int 17)) (mVar 2)) [.va (.scr ns), .un, .un, .un] = fun s => .ok (((List.range 64).map fun (i : Nat) => (17 + (i : Int))).map D.int) s := by
    funext s
    rfl
  obtain ⟨ls1, h1, e1⟩ := loop1 ns 0 [.va (.scr ns), .ow (((List.range 64).map fun (i : Nat) => (17 + (i : Int))).map D.int), .un, .un] s ⟨_, _, _, _, rfl, by simp⟩
  obtain ⟨ls2, h2, e2⟩ := loop2 ((List.range 63).map fun (i : Nat) => (1 + (i : Int))) ls1 s (fun n hn => by
    obtain ⟨i, hi, rfl⟩ := List.mem_map.mp hn
    have := List.mem_range.mp hi
    omega) h1
  obtain ⟨a, x, y, cs, rfl, hl⟩ := h2
  refine ⟨cs, hl, ?_⟩
  show bnd (bm_law_folded [.va (.scr ns), .un, .un, .un]) endF s = _
  have e : bm_law_folded [.va (.scr ns), .un, .un, .un] s = .ok (.rt (.lst (cs.map D.int))) s := by
    unfold bm_law_folded
    refine (mSeq_nx (ls' := [.va (.scr ns), .ow (((List.range 64).map fun (i : Nat) => (17 + (i : Int))).map D.int), .un, .un]) (s' := s) ?_).trans ?_
    · show bnd (mLc [2] _ (gNm 2) _ _ [.va (.scr ns), .un, .un, .un]) _ s = _
      rw [a1]
      rfl
    refine (mSeq_nx (ls' := ls1) (s' := s) ?_).trans ?_
    · exact e1
    refine (mSeq_nx (ls' := [a, .ow (cs.map D.int), x, y]) (s' := s) ?_).trans rfl
    exact e2
  rw [bnd_ok e]
  rfl
end PV
set_option maxHeartbeats 4000000
/-! _law_begun. -/
namespace PV
open PySem PySem.W PySem.Calls PyProof.Rows L2
variable {G : Gd} {T : List NdefX.NTab}
def grOf (ns : List Int) : List Int := ns.map fun c => if 1000000000000000000 ≤ c then c else 0
def mGr : Mir (List D) := (mLc [2] (mSeqS (mVar 0)) (gNm 2) (fun _ => ret true) (mIf (fun ls => bnd (m2 geD (mVar 2) (m2 powD (fun _ => ret (.int 10)) (fun _ => ret (.int 18))) ls) boD) (mVar 2) (fun _ => ret (.int 0))))
theorem gr_lc : ∀ (ns : List Int) (ls : List Sl) (s : DS), ls.length = 3 → lcD (gNm 2) (fun _ => ret true) (mIf (fun ls => bnd (m2 geD (mVar 2) (m2 powD (fun _ => ret (.int 10)) (fun _ => ret (.int 18))) ls) boD) (mVar 2) (fun _ => ret (.int 0))) (ns.map D.int) ls s = .ok ((grOf ns).map D.int) s
  | [], ls, s, _ => rfl
  | n :: ns, ls, s, h => by
    have ih := gr_lc ns ls s h
    match ls, h with
    | [x, y, z], _ =>
      have inner : mIf (fun ls => bnd (m2 geD (mVar 2) (m2 powD (fun _ => ret (.int 10)) (fun _ => ret (.int 18))) ls) boD) (mVar 2) (fun _ => ret (.int 0)) [x, y, .va (.int n)] = ret (.int (if 1000000000000000000 ≤ n then n else 0)) := by
        have ep : powD (.int 10) (.int 18) = ret (.int 1000000000000000000) := rfl
        have eg : geD (.int n) (.int 1000000000000000000) = ret (.bl (decide (n ≥ 1000000000000000000))) := rfl
        simp only [mIf, m2, mVar, bnd_ret, ep, eg, List.getElem?_cons_zero, List.getElem?_cons_succ, boD]
        by_cases hn : 1000000000000000000 ≤ n
        · rw [if_pos hn, decide_eq_true (show n ≥ 1000000000000000000 from hn)]
          rfl
        · rw [if_neg hn, decide_eq_false (show ¬ n ≥ 1000000000000000000 from hn)]
          rfl
      have e : (nox (mIf (fun ls => bnd (m2 geD (mVar 2) (m2 powD (fun _ => ret (.int 10)) (fun _ => ret (.int 18))) ls) boD) (mVar 2) (fun _ => ret (.int 0)) ([x, y, z].set 2 (Sl.va (D.int n))))) s = .ok (.int (if 1000000000000000000 ≤ n then n else 0)) s := by
        show nox (mIf _ _ _ [x, y, .va (.int n)]) s = _
        rw [inner]
        rfl
      show bnd (nox (mIf _ _ _ ([x, y, z].set 2 (Sl.va (D.int n))))) (fun w => bnd (lcD _ _ _ (ns.map D.int) [x, y, z]) fun ys => ret (w :: ys)) s = _
      rw [bnd_ok e, bnd_ok ih]
      rfl
theorem gr_ok {ns : List Int} {x y : Sl} {s : DS} (h : ns.length ≤ 1000) : mGr [.va (.scr ns), x, y] s = .ok ((grOf ns).map D.int) s := by
  show (if (ns.map D.int).length ≤ sizeLine then lcD _ _ _ (ns.map D.int) _ else stk : M (List D)) s = _
  rw [if_pos (by rw [List.length_map, sizeLine_eq]; omega)]
  exact gr_lc ns _ s rfl
/-- what _law_begun does -/
def spB (K : Frag) (tb : List NdefX.NTab) : Sp := fun vs H Q _ => ∃ (a : Addr) (ns : List Int), vs = [.ref a] ∧ SqL K H a (ns.map V.int) ∧ ns.length ≤ 1000 ∧ (∀ xs, H a ≠ some (.lst xs)) ∧ NdefX.TabsN tb H ∧
  ∀ (am ac ag : Addr) (cs : List Int) (H' : Hp), cs.length = 64 → H am = none → H ac = none → H ag = none → Ext ⟨none, tb⟩ H H' → DrwAt am ac ag ⟨cs, grOf ns, 0, some am⟩ H' → NdefX.TabsN tb H' → Q (.ref am) H'
def tBegun (K : Frag) (T : List NdefX.NTab) (Wx : WX) (tl : TE) : TS := tSeq (tAsg (tDisp [(tC (.str "cells"), tCalG K T Wx 1 m_law_folded (tCons (tVar 0) tNil)), (tC (.str "great"), tLst tNil), (tC (.str "spot"), tC (.int 0))]) (gName 1)) (tSeq (sDPut (tVar 1) (tC (.str "great")) tl) (tRet (tVar 1)))
theorem ints_of {K : Frag} {H : Hp} : ∀ {xs : List V} {cs : List Int}, DvL K H xs (cs.map D.int) → xs = cs.map V.int
  | [], [], _ => rfl
  | _, [], r => by cases r; rfl
  | _, c :: cs, r => by
    cases r with
    | cons a r =>
      cases a
      rw [ints_of r]
      rfl
theorem put_g {x y z u : V} : putK (kv3 x y z) Mgreat u = kv3 x u z := by
  have h : ¬ Mcells = Mgreat := by decide
  have h2 : ¬ Mspot = Mgreat := by decide
  simp [putK, kv3, h, h2]
theorem merge3 {x y z : V} : mergeK [] (kv3 x y z) = kv3 x y z := by
  have h : ¬ Mcells = Mgreat := by decide
  have h1 : ¬ Mcells = Mspot := by decide
  have h2 : ¬ Mgreat = Mspot := by decide
  simp [mergeK, putK, kv3, h, h1, h2]
theorem tabs_dk {tb : List NdefX.NTab} {H : Hp} {x : Addr} {o : HO} {kvs : List (Key × V)} (w : NdefX.TabsN tb H) (e : H x = some (.dK kvs)) : NdefX.TabsN tb (upd H x o) := fun t ht => by
  obtain ⟨ps, h1, h2, h3⟩ := w t ht
  have ne : ∀ {b : Addr} {u : HO}, H b = some u → (∀ kvs, u ≠ .dK kvs) → b ≠ x := fun {b u} hb n z => by
    rw [z, e] at hb
    cases hb
    exact n _ rfl
  refine ⟨ps, ?_, h2, fun pos cv hc => ?_⟩
  · rw [upd_ne (ne h1 (fun _ z => by cases z))]
    exact h1
  · obtain ⟨c, e1, e2⟩ := h3 pos cv hc
    exact ⟨c, e1, by rw [upd_ne (ne e2 (fun _ z => by unfold LamX.CodeO at z; cases z))]; exact e2⟩
theorem begun_read {K : Frag} {Wx : WX} {tb : List NdefX.NTab} {tl : TE} {vs : List V} {H : Hp} {Q : VK} {E : XK} {D : Ends} (hD : D.rt = Q)
    (hl : ∀ (W : Wd) (H0 : Hp) (σ : L2.St) (B H : Hp) (ls : List Sl) (s : DS) (Q : VK), Kn W B H → W.ok s H → Sm (G0 tb) W K H0 B H σ ls → AnsL W K B H (mGr ls s) Q (fun c d H' => Wx c d σ H') → tl σ H Q)
    (h : spB K tb vs H Q E) : tBegun K tb Wx tl D (L2.start ["script", "m", "cell"] vs) H := by
  subst hD
  obtain ⟨a, ns, rfl, hS, hn, hnl, hT, q⟩ := h
  have wk : (⟨none, tb⟩ : Wd).ok ⟨[], [], 0, none⟩ H := ⟨fun p e => (nomatch e), hT, rfl⟩
  have volT : ∀ {b : Addr}, (⟨none, tb⟩ : Wd).vol b → ∀ {H : Hp}, NdefX.TabsN tb H → ∃ ps, H b = some (.tbl ps) := fun {b} v {H} hT => by
    rcases v with ⟨p, e, _⟩ | ⟨t, ht, rfl⟩
    · cases e
    · obtain ⟨ps, e, _⟩ := hT t ht
      exact ⟨ps, e⟩
  generalize hW : (⟨none, tb⟩ : Wd) = W at wk volT q
  generalize hs0 : (⟨[], [], 0, none⟩ : DS) = s0 at wk
  have tabs : ∀ {H : Hp}, W.ok s0 H → NdefX.TabsN tb H := fun {H} w => by have := w.tb; rw [← hW] at this; exact this
  obtain ⟨B, kn, hSB, hBl⟩ : ∃ B, Kn W B H ∧ SqL K B a (ns.map V.int) ∧ ∀ b xs, B b ≠ some (.lst xs) := by
    rcases hS with (e | ⟨o, e⟩) | hK
    · exact absurd e (hnl _)
    · refine ⟨fun b => if b = a then some (.frz o (.lst (ns.map V.int))) else none, fun b u z => ?_, .inl (.inr ⟨o, if_pos rfl⟩), fun b xs z => ?_⟩
      · by_cases hb : b = a
        · subst hb
          dsimp only at z
          rw [if_pos rfl] at z
          cases z
          refine ⟨fun v => ?_, e⟩
          obtain ⟨ps, z⟩ := volT v (tabs wk)
          rw [e] at z
          cases z
        · dsimp only at z
          rw [if_neg hb] at z
          cases z
      · dsimp only at z
        by_cases hb : b = a
        · rw [if_pos hb] at z
          cases z
        · rw [if_neg hb] at z
          cases z
    · exact ⟨fun _ => none, fun _ _ z => (nomatch z), .inr hK, fun _ _ z => (nomatch z)⟩
  intro p hp
  have nvp : ¬ W.vol p := fun v => by
    obtain ⟨ps, z⟩ := volT v (tabs wk)
    rw [hp] at z
    cases z
  have gr1 : Gr W B H B (upd H p (.dK [])) := Gr.lay kn hp
  have w1 := wk.st (sub_new (o := HO.dK []) hp)
  obtain ⟨cs, hcs, ef⟩ := fold_ok ns s0
  refine ⟨_, rfl, rfl, W, B, s0, [.scr ns], by rw [← hW], gr1.kn, w1, .cons (.scr hSB) .nil, ?_⟩
  rw [ef]
  intro v B2 H2 g2 w2 r2
  cases r2 with
  | @lst ac xs _ hac rr =>
  have exs := ints_of rr
  subst exs
  have hac0 : upd H p (.dK []) ac = none := by
    cases e : upd H p (.dK []) ac with
    | none => rfl
    | some o =>
      have z := g2.nw ac o e
      rw [hac] at z
      exact absurd z.symm (hBl ac _)
  have nap : ac ≠ p := fun z => by
    rw [z, upd_same] at hac0
    cases hac0
  have hacH : H ac = none := by
    rw [upd_ne nap] at hac0
    exact hac0
  refine ⟨by show 0 ≤ sizeLine; omega, fun u hu => ?_⟩
  have p2 : H2 p = some (.dK []) := g2.hh p _ nvp upd_same
  have npu : p ≠ u := fun z => by
    rw [← z, p2] at hu
    cases hu
  have c2 : H2 ac = some (.lst (cs.map V.int)) := (g2.kn _ _ hac).2
  have nau : ac ≠ u := fun z => by
    rw [← z, c2] at hu
    cases hu
  have p3 : upd H2 u (.lst []) p = some (.dK []) := by rw [upd_ne npu]; exact p2
  refine ⟨p3, kv3 (.ref ac) (.ref u) (.int 0), rfl, by show 3 ≤ 15; decide, ?_⟩
  rw [merge3]
  have gr3 : Gr W B H B2 (upd H2 u (.lst [])) := (gr1.trans g2).trans (Gr.lay g2.kn hu)
  have w3 := w2.st (sub_new (o := HO.lst []) hu)
  have bp : B2 p = none := by
    have z := g2.nw p _ upd_same
    rw [z]
    cases e : B p with
    | none => rfl
    | some o =>
      have := (kn p o e).2
      rw [hp] at this
      cases this
  generalize hH4 : upd (upd H2 u (.lst [])) p (.dK (kv3 (.ref ac) (.ref u) (.int 0))) = H4
  have gr4 : Gr W B H B2 H4 := by rw [← hH4]; exact gr3.chg nvp hp bp
  have w4 : W.ok s0 H4 := by
    refine ⟨fun q e => ?_, ?_, w3.at_⟩
    · rw [← hW] at e
      cases e
    · have z := tabs_dk (o := .dK (kv3 (.ref ac) (.ref u) (.int 0))) (tabs w3) p3
      rw [hH4] at z
      rw [← hW]
      exact z
  have p4 : H4 p = some (.dK (kv3 (.ref ac) (.ref u) (.int 0))) := by rw [← hH4, upd_same]
  have c4 : H4 ac = some (.lst (cs.map V.int)) := by rw [← hH4, upd_ne nap, upd_ne nau]; exact c2
  have sm : Sm (G0 tb) W K H B2 H4 [some (.ref a), some (.ref p), none] [.va (.scr ns), .va (.raw (.ref p)), .un] := by
    refine ⟨rfl, fun i x e => ?_, fun i j ds es r _ e _ _ => ?_, trivial, by rw [← hW]; rfl⟩
    · match i, e with
      | 0, e => cases e; exact ⟨_, rfl, _, rfl, .scr (g2.bb.l hSB)⟩
      | 1, e => cases e; exact ⟨_, rfl, _, rfl, .raw _⟩
      | 2, e => cases e; exact ⟨_, rfl, trivial⟩
      | n + 3, e => simp at e
    · match i, e with
      | 0, e => cases e
      | 1, e => cases e
      | 2, e => cases e
      | n + 3, e => simp at e
  refine hl W H _ B2 H4 [.va (.scr ns), .va (.raw (.ref p)), .un] s0 _ gr4.kn w4 sm ?_
  rw [gr_ok hn]
  intro ag us B5 H5 g5 w5 hag nvg bg hg5 r5
  have eus := ints_of r5
  subst eus
  have p5 : H5 p = some (.dK (kv3 (.ref ac) (.ref u) (.int 0))) := g5.hh p _ nvp p4
  refine ⟨_, rfl, p, _, rfl, .inl ⟨_, Mgreat, p5, rfl, by show 3 < sizeLine; rw [sizeLine_eq]; omega, rfl⟩, ?_⟩
  rw [put_g]
  refine ⟨_, rfl, ?_⟩
  have nvc : ¬ W.vol ac := (g2.kn _ _ hac).1
  have ngp : ag ≠ p := fun z => by
    rw [z, p4] at hag
    cases hag
  have ncg : ac ≠ ag := fun z => by
    rw [← z, c4] at hag
    cases hag
  have gr6 : Gr W B H B5 (upd H5 p (.dK (kv3 (.ref ac) (.ref ag) (.int 0)))) := (gr4.trans g5).chg nvp hp (by rw [g5.nw p _ p4]; exact bp)
  have hagH : H ag = none := by
    cases e : H ag with
    | none => rfl
    | some o =>
      rw [gr4.hh ag o nvg e] at hag
      cases hag
  exact q p ac ag cs _ hcs hp hacH hagH gr6.hh ⟨upd_same, by rw [upd_ne nap]; exact g5.hh ac _ nvc c4, by rw [upd_ne ngp]; exact hg5, ncg⟩ (tabs_dk (tabs w5) p5)
end PV
set_option maxHeartbeats 4000000
/-! A law's def and its end. -/
namespace PV
open PySem PySem.W PySem.Calls PyProof.Rows L2
variable {G : Gd} {T : List NdefX.NTab}
structure CalS (P : Program) (w : World) (K : Frag) (mg : Str → Option Value) (base : Heap) (x : Str) (k : Nat) (sp : Sp) : Prop where
  ex : ∃ (f : Addr) (fd : FuncData) (ps : List Str), FnG P w K mg base k f fd ps sp ∧ mg x = some (.ref f) ∧ keepIn K (.ref f) = true ∧ Binds K fd ps []
def tCalS (sp : Sp) (Wx : WX) (t : TA) : TE := fun σ H Q => t σ H fun vs H1 => sp vs H1 Q (fun c d H' => Wx c d σ H')
section
variable {X : Cx} {Wx : WX} {e : Expr} {es : List Expr} {pos p : Pos} {k : Nat} {x : Str} {sp : Sp} {t : TA}
theorem pe_calS (C : CalS X.prog X.w X.K X.mg X.base x k sp) (hr : RoomG k X.A) (hg : Gl X x) (tk : Takes X Wx) (ha : PA X (e :: es) t) (hdb : (x == ("__debug__" : Str)) = false := by decide) (he : starEach (e :: es) X.env = (false, eval e X.env) :: starEach es X.env := by rfl) (hpl : (backTo pos (starEach es X.env)).any (·.1) = false := by rfl) :
    PE X (.Call (.Name x p) (e :: es) [] pos) (tCalS sp Wx t) := by
  obtain ⟨f, fd, ps, F, h1, h2, h3⟩ := C.ex
  refine ⟨fun pins s σ H Q I h => ?_⟩
  refine wpAny_Call_Name_kw (ld_glob I hg h1 ?_ hdb)
  refine callWith_K (h₀ := X.base) I.ok.mod.kin h2 (thn (ha.run pos pins s σ H _ I h) fun us s1 ⟨vs, H1, I1, r, q⟩ => ⟨I1.kIn, ?_⟩) he hpl
  exact run_g F hr h3 tk I1 r q
end
/-! ### _law_draw and _law_begun by their texts -/
section
variable {P : Program} {w : World} {K : Frag} {mg : Str → Option Value} {base : Heap} {x : Str} {st : Stmt} {k : Nat} {N ps : List Str} {sp : Sp}
theorem DefF.calS (F : DefF K mg x st) (S : FnScope N ps (defScope st)) (len : ∀ vs H Q E, sp vs H Q E → vs.length = ps.length)
    (hb : ∀ (kV doc pm : Value) (an : Option Addr) (cdv ct : Value) (us : List Value), us.length = ps.length → bindArgs (fnOf x x (defArgs st) (defBody st) (defScope st) .none kV doc pm an cdv ct) ⟨us, []⟩ = pure (ps.zip us))
    (body : ∀ (f : Addr) (cdv : Value) (A : Around) (outer : List Env) (s : Shared) (H : Hp) (vs : List V) (Q : VK) (E : XK), RoomG k (A.deeper (envOfC x (defScope st) s.heap.objs.size f cdv)) → sp vs H Q E →
      ∃ t, PSs (cxOf (L2.CX P w) P w K mg base N x (defScope st) f cdv A outer s H E) (defBody st) t ∧ t { nx := fun _ H' => Q .non H', rt := Q } (L2.start N vs) H) :
    CalS P w K mg base x (k + 1) sp := by
  obtain ⟨f, fd, D, g⟩ := F.ex
  exact ⟨f, fd, ps, fng_of D S len (body f), g, D.kp, D.bindsN hb⟩
theorem CalS.cal {n : Nat} {m : List D → M D} (C : CalS P w K mg base x k (spM K T n m)) : Cal P w K mg base T x k n m := ⟨C.ex⟩
end
/-! ### the law -/
def spLaw (K : Frag) (tb : List NdefX.NTab) (n : Nat) (mr : MS) : Sp := fun vs H Q _ => ∃ (a : Addr) (ns : List Int), vs = [.ref a] ∧ SqL K H a (ns.map V.int) ∧ ns.length ≤ 1000 ∧ (∀ xs, H a ≠ some (.lst xs)) ∧ NdefX.TabsN tb H ∧
  (∀ (am : Addr) (s : DS), s.cells.length = 64 → s.great = grOf ns → s.spot = 0 → s.at_ = some am → ∃ s', bnd (mr (.va (.scr ns) :: .va (.raw (.ref am)) :: List.replicate n .un)) endF s = .ok (.bl true) s') ∧ ∀ H', Q (.bl true) H'
theorem law_read {X : Cx} {E : XK} {tb : List NdefX.NTab} {n : Nat} {mr : MS} {N : List Str} {tr : TS} {vs : List V} {H : Hp} {Q : VK} (hN : N.length = n + 2)
    (ht : ∀ (W : Wd) (B0 H0 : Hp) (σ : L2.St) (B H : Hp) (ls : List Sl) (s : DS) (D : Ends), Gr W B0 H0 B H → W.ok s H → Sm (G0 tb) W X.K H0 B H σ ls → AnsS (G0 tb) W X.K (EW E) B0 H0 (mr ls s) D → tr D σ H)
    (h : spLaw X.K tb n mr vs H Q E) : tSeq (tAsg (tCalS (spB X.K tb) (EW E) (tCons (tVar 0) tNil)) (gName 1)) tr { nx := fun _ H' => Q .non H', rt := Q } (L2.start N vs) H := by
  obtain ⟨a, ns, rfl, hS, hn, hnl, hT, hm, q⟩ := h
  have e0 : (L2.start N [V.ref a])[0]? = some (some (.ref a)) := rfl
  refine ⟨_, e0, a, ns, rfl, hS, hn, hnl, hT, fun am ac ag cs H' hcs h1 h2 h3 ext dr tabs => ?_⟩
  have es : (L2.start N [V.ref a]).set 1 (some (.ref am)) = some (.ref a) :: some (.ref am) :: List.replicate n none := by
    unfold L2.start
    rw [hN]
    show List.set (some (V.ref a) :: List.replicate (n + 2 - 1) none) 1 _ = _
    rw [show n + 2 - 1 = n + 1 from rfl, List.replicate_succ]
    rfl
  show tr _ ((L2.start N [V.ref a]).set 1 (some (.ref am))) H'
  rw [es]
  have notT : ∀ {b : Addr} {o : HO}, H b = some o → (∀ ps, o ≠ .tbl ps) → ¬ (⟨none, tb⟩ : Wd).vol b := fun {b o} hb n v => by
    rcases v with ⟨p, e, _⟩ | ⟨t, ht, rfl⟩
    · cases e
    · obtain ⟨ps, e, _⟩ := hT t ht
      rw [hb] at e
      cases e
      exact n _ rfl
  obtain ⟨B, kn, hSB⟩ : ∃ B, Kn ⟨some (am, ac, ag), tb⟩ B H' ∧ SqL X.K B a (ns.map V.int) := by
    rcases hS with (e | ⟨o, e⟩) | hK
    · exact absurd e (hnl _)
    · refine ⟨fun b => if b = a then some (.frz o (.lst (ns.map V.int))) else none, fun b u z => ?_, .inl (.inr ⟨o, if_pos rfl⟩)⟩
      dsimp only at z
      by_cases hb : b = a
      · subst hb
        rw [if_pos rfl] at z
        cases z
        have nt := notT e (fun _ z => by cases z)
        refine ⟨fun v => ?_, ext b _ nt e⟩
        rcases v with ⟨p, ep, hx⟩ | v
        · cases ep
          rcases hx with rfl | rfl | rfl
          · rw [h1] at e; cases e
          · rw [h2] at e; cases e
          · rw [h3] at e; cases e
        · exact nt (.inr v)
      · rw [if_neg hb] at z
        cases z
    · exact ⟨fun _ => none, fun _ _ z => (nomatch z), .inr hK⟩
  have wk : (⟨some (am, ac, ag), tb⟩ : Wd).ok ⟨cs, grOf ns, 0, some am⟩ H' := ⟨fun p e => by cases e; exact dr, tabs, rfl⟩
  have sm : Sm (G0 tb) ⟨some (am, ac, ag), tb⟩ X.K H' B H' (some (.ref a) :: some (.ref am) :: List.replicate n none) (.va (.scr ns) :: .va (.raw (.ref am)) :: List.replicate n .un) := by
    have un : ∀ {i : Nat} {y : Sl}, (List.replicate n Sl.un)[i]? = some y → y = .un ∧ i < n := fun {i y} z => by
      rw [List.getElem?_replicate] at z
      split at z
      · cases z
        exact ⟨rfl, by assumption⟩
      · cases z
    refine ⟨by simp, fun i y e => ?_, fun i j ds es r _ e _ _ => ?_, trivial, rfl⟩
    · match i, e with
      | 0, e => cases e; exact ⟨_, rfl, _, rfl, .scr hSB⟩
      | 1, e => cases e; exact ⟨_, rfl, _, rfl, .raw _⟩
      | m + 2, e =>
        obtain ⟨rfl, hm⟩ := un (i := m) (y := y) (by simpa using e)
        exact ⟨none, by simp [hm], trivial⟩
    · match i, e with
      | 0, e => cases e
      | 1, e => cases e
      | m + 2, e =>
        obtain ⟨z, _⟩ := un (i := m) (by simpa using e)
        cases z
  obtain ⟨s', ee⟩ := hm am ⟨cs, grOf ns, 0, some am⟩ hcs rfl rfl rfl
  refine ht _ B H' _ B H' _ _ _ (Gr.refl kn) wk sm ?_
  cases e : mr (.va (.scr ns) :: .va (.raw (.ref am)) :: List.replicate n .un) ⟨cs, grOf ns, 0, some am⟩ with
  | stuck => rw [bnd_stk e] at ee; cases ee
  | exc C fs s' => rw [bnd_exc e] at ee; cases ee
  | ok f s2 =>
    rw [bnd_ok e] at ee
    cases f with
    | nx ls => cases ee
    | bk ls => cases ee
    | ct ls => cases ee
    | rt d =>
      cases ee
      intro v B2 H2 g w r
      cases r
      exact q H2
/-! ### the end of the row -/
theorem callerG {k : Nat} (h : Room k callerA) : RoomG k callerA := ⟨h, rfl⟩
theorem law_g {P : Program} {w : World} {K : Frag} {mg mb : Str → Option Value} {k : Nat} {fa a : Addr} {fd : FuncData} {x : Str} {sp : Sp} {s1 : Shared} {vs : List Value} {ns : List Int}
    (KX : K.In s1.heap) (hG : s1.heap.Ns mainGlobals mg) (hB : s1.heap.Ns builtinsNs mb) (hbb : ∀ x : Str, x ≠ "__name__" → mb x = bootBuiltins x) (hL : s1.heap.NoLimit) (hg : s1.gens = #[])
    (ha : s1.heap.get? a = some { cls := .type "list", data := .seq vs.toArray }) (hi : IntsAre vs ns) (hl : ns.length ≤ sizeLine) (hr : Room k callerA)
    (F : ∀ base : Heap, K.In base → base.Ns mainGlobals mg → FnG P w K mg base k fa fd [x] sp) (bd : ∀ (s : Shared) (u : Value), BindsTo s fd ⟨[u], []⟩ [(x, u)])
    (hsp : ∀ H : Hp, (∀ b xs, H b ≠ some (.lst xs)) → SqL K H a (ns.map V.int) → sp [.ref a] H (fun v _ => v = .bl true) fun _ _ _ => False) (hCX : ∀ H e s', L2.CX P w [] H s1 (fun _ _ _ => False) e s' → False) :
    codeAny (model P w) callerA (.call (.ref fa) ⟨[.ref a], []⟩) (fun r s' => r = .ok (.ret (.bool true)) ∧ OldK s1.heap s'.heap ∧ s'.os = s1.os ∧ AllBare s'.gens) s1 := by
  have go : ∀ H : Hp, (∀ b u, H b = some u → b = a ∧ K.lookup a = none ∧ u = .frz { cls := .type "list", data := .seq vs.toArray } (.lst (ns.map V.int))) → SqL K H a (ns.map V.int) → HOk P w H s1.heap →
      codeAny (model P w) callerA (.call (.ref fa) ⟨[.ref a], []⟩) (fun r s' => r = .ok (.ret (.bool true)) ∧ OldK s1.heap s'.heap ∧ s'.os = s1.os ∧ AllBare s'.gens) s1 := fun H only sq hok => by
    have free : ∀ {b : Addr} {o : Obj}, s1.heap.get? b = some o → (b = a → False) → (hidT s1.heap H).get? b = some o := fun {b o} e n => hidT_get e (by
      cases z : H b with
      | none => rfl
      | some u => exact (n (only b u z).1).elim)
    have nsH : ∀ {b : Addr} {m : Str → Option Value}, s1.heap.Ns b m → (hidT s1.heap H).Ns b m := fun {b m} ⟨o, es, ep, e, hd, r⟩ => ⟨o, es, ep, free e (fun z => by
      rw [z, ha] at e
      cases e
      cases hd), hd, r⟩
    have kH : K.In (hidT s1.heap H) := fun b o e => hidT_get (KX b o e) (by
      cases z : H b with
      | none => rfl
      | some u =>
        obtain ⟨rfl, n, _⟩ := only b u z
        rw [n] at e
        cases e)
    have env : Env0 P w K mg (hidT s1.heap H) callerA [] s1 H := {
      frames := rfl
      mod := ⟨kH, nsH hG, ⟨mb, nsH hB, hbb⟩, let ⟨mc, c1, c2⟩ := hL; ⟨mc, nsH c1, c2⟩⟩
      bs := fun b o e => of_hidT e
      bsz := Nat.le_of_eq (hidT_size _ _)
      funs := trivial
      frf := fun b hb => (nomatch (show b ∈ ([] : List Addr) from hb))
      hok := hok
      bare := .of_eq hg }
    refine codeAny_mono ((F _ kH (nsH hG)).run callerA [] s1 H ⟨[.ref a], []⟩ [.ref a] [.ref a] _ _ (callerG hr) env (bd s1 (.ref a)) (.cons rfl .nil) (hsp H (fun b xs z => by
      obtain ⟨_, _, e⟩ := only b _ z
      cases e) sq)) fun r s' z => ?_
    cases r with
    | error e => exact (hCX H e s' z).elim
    | ok fl =>
      cases fl with
      | next => exact False.elim z
      | brk => exact False.elim z
      | cont => exact False.elim z
      | ret u =>
        obtain ⟨v, H', os, bare, un, hok', rv, rfl⟩ := z
        obtain rfl : u = Value.bool true := rv
        refine ⟨rfl, OldK.of_keep fun b o e => ?_, os, bare⟩
        cases z : H b with
        | none => exact un.keep b o e z (fun y => (nomatch (show b ∈ ([] : List Addr) from y))) (by simp)
        | some u =>
          obtain ⟨rfl, _, rfl⟩ := only b u z
          obtain ⟨e1, _⟩ := hok _ _ z
          obtain ⟨e2, _⟩ := hok' _ _ (un.frzs _ _ _ z)
          rw [e] at e1
          cases e1
          exact e2
  have rv := vals_ints hi
  cases hk : K.lookup a with
  | some o =>
    have e := KX a o hk
    rw [ha] at e
    cases e
    exact go (fun _ => none) (fun b u z => (nomatch z)) (.inr ⟨_, vs.toArray, _, hk, rfl, rfl, rfl, by rw [List.size_toArray, hi.length]; exact hl, by simpa using rv⟩) fun b u z => (nomatch z)
  | none =>
    have at_ : ∀ b u, (fun b => if b = a then some (HO.frz { cls := .type "list", data := .seq vs.toArray } (.lst (ns.map V.int))) else none) b = some u → b = a ∧ u = .frz { cls := .type "list", data := .seq vs.toArray } (.lst (ns.map V.int)) := fun b u z => by
      dsimp only at z
      by_cases hb : b = a
      · rw [if_pos hb] at z
        cases z
        exact ⟨hb, rfl⟩
      · rw [if_neg hb] at z
        cases z
    refine go (fun b => if b = a then some (.frz { cls := .type "list", data := .seq vs.toArray } (.lst (ns.map V.int))) else none) (fun b u z => ⟨(at_ b u z).1, hk, (at_ b u z).2⟩) (.inl (.inr ⟨_, if_pos rfl⟩)) fun b u z => ?_
    obtain ⟨rfl, rfl⟩ := at_ b u z
    exact ⟨ha, by rw [List.length_map]; exact hl, vs, _, rv, ha⟩
theorem walk_g {l : OpenLaw} {n k : Nat} {q : Program} {loose : List Str} {XP : (Str → Option Value) → Heap → Prop} {YP : World → Heap → Prop} {d : DefRec} {x : Str}
    (hn : l.most = some n) (hn2 : n ≤ sizeLine) (hdf : d.params.defaults = []) (hr : Room k callerA)
    (F : ∀ (w : World) (mg : Str → Option Value) (fa : Addr) (h : Heap), YP w h → h.Ns mainGlobals mg → mg d.name = some (.ref fa) →
      ∃ (K : Frag) (fd : FuncData) (sp : Sp), K.In h ∧ (∀ (s : Shared) (u : Value), BindsTo s fd ⟨[u], []⟩ [(x, u)]) ∧
        (∀ (H : Hp) (a : Addr) (ns : List Int), ns.length ≤ n → (∀ b xs, H b ≠ some (.lst xs)) → SqL K H a (ns.map V.int) → sp [.ref a] H (fun v _ => v = .bl true) fun _ _ _ => False) ∧
        ∀ base : Heap, K.In base → base.Ns mainGlobals mg → FnG l.prog w K mg base k fa fd [x] sp)
    (hCX : ∀ (w : World) (H : Hp) (s : Shared) (e : Value) (s' : Shared), L2.CX l.prog w [] H s (fun _ _ _ => False) e s' → False) :
    WalkO q loose XP YP l.row.toRowW d [] (fun f vs => PySem.call f vs) := by
  refine Att.attach_call hn hdf fun w s0 s1 mg mb fa o pm cd doc a vs ns G Y ho hd hcd hmg hobj hints hlen hg => ?_
  obtain ⟨K, fd, sp, KX, bd, hsp, hF⟩ := F w mg fa _ Y G.T.g hmg
  exact law_g KX G.T.g G.T.b G.T.builtins G.T.nolimit hg hobj hints (Nat.le_trans hlen hn2) hr hF bd (fun H hO hS => hsp H a ns hlen hO hS) fun H e s' => hCX w H s1 e s'
/-! ### .. with tables of code objects -/
theorem law_t {P : Program} {w : World} {K : Frag} {mg mb : Str → Option Value} {k : Nat} {fa a : Addr} {fd : FuncData} {x : Str} {sp : Sp} {s1 : Shared} {vs : List Value} {ns : List Int} {cs : List (Addr × Addr)}
    (KX : K.In s1.heap) (hG : s1.heap.Ns mainGlobals mg) (hB : s1.heap.Ns builtinsNs mb) (hbb : ∀ x : Str, x ≠ "__name__" → mb x = bootBuiltins x) (hL : s1.heap.NoLimit) (hg : s1.gens = #[])
    (hT : ∀ p ∈ cs, s1.heap.get? p.2 = some ({ cls := .none, data := .fields #[] } : Obj)) (nT : ∀ p ∈ cs, K.lookup p.2 = none) (hC : ∀ p ∈ cs, codeHdIn K p.1 p.2 = true)
    (hbm : ∃ (bm : Addr) (ob : Obj), mg "__builtins__" = some (.ref bm) ∧ bm ≠ builtinsNs ∧ s1.heap.get? bm = some ob ∧ ob.cls = .type "module" ∧ ob.dict = some builtinsNs ∧ ob.data = .plain)
    (ha : s1.heap.get? a = some { cls := .type "list", data := .seq vs.toArray }) (hi : IntsAre vs ns) (hl : ns.length ≤ sizeLine) (hr : Room k callerA)
    (F : ∀ base : Heap, K.In base → base.Ns mainGlobals mg → (∀ p ∈ cs, LamX.TabB base mg p.1 p.2) → FnG P w K mg base k fa fd [x] sp) (bd : ∀ (s : Shared) (u : Value), BindsTo s fd ⟨[u], []⟩ [(x, u)])
    (hsp : ∀ H : Hp, (∀ b xs, H b ≠ some (.lst xs)) → (∀ p ∈ cs, H p.2 = some (.tbl #[])) → SqL K H a (ns.map V.int) → sp [.ref a] H (fun v _ => v = .bl true) fun _ _ _ => False) (hCX : ∀ H e s', L2.CX P w [] H s1 (fun _ _ _ => False) e s' → False) :
    codeAny (model P w) callerA (.call (.ref fa) ⟨[.ref a], []⟩) (fun r s' => r = .ok (.ret (.bool true)) ∧ OldK s1.heap s'.heap ∧ s'.os = s1.os ∧ AllBare s'.gens) s1 := by
  have tab : ∀ b : Addr, b ∈ cs.map (·.2) → s1.heap.get? b = some ({ cls := .none, data := .fields #[] } : Obj) ∧ K.lookup b = none := fun b hb => by
    obtain ⟨p, hp, rfl⟩ := List.mem_map.mp hb
    exact ⟨hT p hp, nT p hp⟩
  have na : a ∉ cs.map (·.2) := fun z => by
    have y := (tab a z).1
    rw [ha] at y
    cases y
  have go : ∀ H : Hp, (∀ b u, H b = some u → (b = a ∧ K.lookup a = none ∧ u = .frz { cls := .type "list", data := .seq vs.toArray } (.lst (ns.map V.int))) ∨ (b ∈ cs.map (·.2) ∧ u = .tbl #[])) → (∀ p ∈ cs, H p.2 = some (.tbl #[])) → SqL K H a (ns.map V.int) → HOk P w H s1.heap →
      codeAny (model P w) callerA (.call (.ref fa) ⟨[.ref a], []⟩) (fun r s' => r = .ok (.ret (.bool true)) ∧ OldK s1.heap s'.heap ∧ s'.os = s1.os ∧ AllBare s'.gens) s1 := fun H only hH sq hok => by
    have free : ∀ {b : Addr} {o : Obj}, s1.heap.get? b = some o → (∀ us n, o.data ≠ .seq us n) → o.data ≠ .fields #[] → H b = none := fun {b o} e n1 n2 => by
      cases z : H b with
      | none => rfl
      | some u =>
        rcases only b u z with ⟨rfl, _⟩ | ⟨hb, _⟩
        · rw [ha] at e
          cases e
          exact (n1 _ _ rfl).elim
        · rw [(tab b hb).1] at e
          cases e
          exact (n2 rfl).elim
    have nsH : ∀ {b : Addr} {m : Str → Option Value}, s1.heap.Ns b m → (hidT s1.heap H).Ns b m := fun {b m} ⟨o, es, ep, e, hd, r⟩ => ⟨o, es, ep, hidT_get e (free e (fun us n z => by rw [hd] at z; cases z) fun z => by rw [hd] at z; cases z), hd, r⟩
    have kH : K.In (hidT s1.heap H) := fun b o e => hidT_get (KX b o e) (by
      cases z : H b with
      | none => rfl
      | some u =>
        rcases only b u z with ⟨rfl, n, _⟩ | ⟨hb, _⟩
        · rw [n] at e
          cases e
        · rw [(tab b hb).2] at e
          cases e)
    have env : Env0 P w K mg (hidT s1.heap H) callerA [] s1 H := {
      frames := rfl
      mod := ⟨kH, nsH hG, ⟨mb, nsH hB, hbb⟩, let ⟨mc, c1, c2⟩ := hL; ⟨mc, nsH c1, c2⟩⟩
      bs := fun b o e => of_hidT e
      bsz := Nat.le_of_eq (hidT_size _ _)
      funs := trivial
      frf := fun b hb => (nomatch (show b ∈ ([] : List Addr) from hb))
      hok := hok
      bare := .of_eq hg }
    have TB : ∀ p ∈ cs, LamX.TabB (hidT s1.heap H) mg p.1 p.2 := fun p hp => by
      refine ⟨codeHd_of_K kH (hC p hp), ?_, fun z => ?_⟩
      · obtain ⟨bm, ob, b1, b2, b3, b4, b5, b6⟩ := hbm
        refine ⟨bm, ob, b1, b2, fun y => ?_, fun y => ?_, hidT_get b3 (free b3 (fun us n z => by rw [b6] at z; cases z) fun z => by rw [b6] at z; cases z), b4, b5, b6⟩
        · obtain ⟨o, es, ep, e, hd, _⟩ := hG
          rw [y, e] at b3
          cases b3
          rw [hd] at b6
          cases b6
        · rw [y, hT p hp] at b3
          cases b3
          cases b6
      · obtain ⟨o, es, ep, e, hd, _⟩ := hG
        rw [z, hT p hp] at e
        cases e
        cases hd
    refine codeAny_mono ((F _ kH (nsH hG) TB).run callerA [] s1 H ⟨[.ref a], []⟩ [.ref a] [.ref a] _ _ (callerG hr) env (bd s1 (.ref a)) (.cons rfl .nil) (hsp H (fun b xs z => by
      rcases only b _ z with ⟨_, _, e⟩ | ⟨_, e⟩ <;> cases e) hH sq)) fun r s' z => ?_
    cases r with
    | error e => exact (hCX H e s' z).elim
    | ok fl =>
      cases fl with
      | next => exact False.elim z
      | brk => exact False.elim z
      | cont => exact False.elim z
      | ret u =>
        obtain ⟨v, H', os, bare, un, hok', rv, rfl⟩ := z
        obtain rfl : u = Value.bool true := rv
        have key : ∀ b o, b ∉ cs.map (·.2) → s1.heap.get? b = some o → s'.heap.get? b = some o := fun b o nb e => by
          cases z : H b with
          | none => exact un.keep b o e z (fun y => (nomatch (show b ∈ ([] : List Addr) from y))) (by simp)
          | some u =>
            rcases only b u z with ⟨rfl, _, rfl⟩ | ⟨hb, _⟩
            · obtain ⟨e1, _⟩ := hok _ _ z
              obtain ⟨e2, _⟩ := hok' _ _ (un.frzs _ _ _ z)
              rw [e] at e1
              cases e1
              exact e2
            · exact absurd hb nb
        have more : ∀ p ∈ cs, ∃ m : Array Value, s'.heap.get? p.2 = some ({ cls := .none, data := .fields m } : Obj) := fun p hp => by
          obtain ⟨m, z⟩ := un.tbls p.2 #[] (hH p hp)
          exact ⟨_, hok' p.2 _ z⟩
        refine ⟨rfl, ⟨fun b o e => ?_, fun b o e => ?_⟩, os, bare⟩
        · by_cases hb : b ∈ cs.map (·.2)
          · obtain ⟨p, hp, rfl⟩ := List.mem_map.mp hb
            obtain ⟨m, hm⟩ := more p hp
            rw [hT p hp] at e
            cases e
            exact .inr (.inl ⟨((codeHd_of_K KX (hC p hp)).tab (hT p hp)).isCodeTable, rfl, #[], m, rfl, by rw [Array.empty_append]; exact hm⟩)
          · exact .inl (key b o hb e)
        · by_cases hb : b ∈ cs.map (·.2)
          · obtain ⟨p, hp, rfl⟩ := List.mem_map.mp hb
            obtain ⟨m, hm⟩ := more p hp
            exact ⟨_, hm⟩
          · exact ⟨o, key b o hb e⟩
  have rv := vals_ints hi
  have in_ : ∀ p ∈ cs, p.2 ∈ cs.map (·.2) := fun p hp => List.mem_map.mpr ⟨p, hp, rfl⟩
  cases hk : K.lookup a with
  | some o =>
    have e := KX a o hk
    rw [ha] at e
    cases e
    have at_ : ∀ b u, (fun b => if b ∈ cs.map (·.2) then some (HO.tbl #[]) else none) b = some u → b ∈ cs.map (·.2) ∧ u = .tbl #[] := fun b u z => by
      dsimp only at z
      split at z
      · cases z
        exact ⟨by assumption, rfl⟩
      · cases z
    exact go (fun b => if b ∈ cs.map (·.2) then some (.tbl #[]) else none) (fun b u z => .inr (at_ b u z)) (fun p hp => if_pos (in_ p hp)) (.inr ⟨_, vs.toArray, _, hk, rfl, rfl, rfl, by rw [List.size_toArray, hi.length]; exact hl, by simpa using rv⟩) fun b u z => by
      obtain ⟨hb, rfl⟩ := at_ b u z
      exact (tab b hb).1
  | none =>
    have at_ : ∀ b u, (fun b => if b = a then some (HO.frz { cls := .type "list", data := .seq vs.toArray } (.lst (ns.map V.int))) else if b ∈ cs.map (·.2) then some (HO.tbl #[]) else none) b = some u → (b = a ∧ u = .frz { cls := .type "list", data := .seq vs.toArray } (.lst (ns.map V.int))) ∨ (b ∈ cs.map (·.2) ∧ u = .tbl #[]) := fun b u z => by
      dsimp only at z
      split at z
      · cases z
        exact .inl ⟨by assumption, rfl⟩
      · split at z
        · cases z
          exact .inr ⟨by assumption, rfl⟩
        · cases z
    refine go (fun b => if b = a then some (.frz { cls := .type "list", data := .seq vs.toArray } (.lst (ns.map V.int))) else if b ∈ cs.map (·.2) then some (.tbl #[]) else none) (fun b u z => (at_ b u z).imp (fun y => ⟨y.1, hk, y.2⟩) id) (fun p hp => ?_) (.inl (.inr ⟨_, if_pos rfl⟩)) fun b u z => ?_
    · exact (if_neg fun z => na (by rw [← z]; exact in_ p hp)).trans (if_pos (in_ p hp))
    · rcases at_ b u z with ⟨rfl, rfl⟩ | ⟨hb, rfl⟩
      · exact ⟨ha, by rw [List.length_map]; exact hl, vs, _, rv, ha⟩
      · exact (tab b hb).1
theorem walk_t {l : OpenLaw} {n k : Nat} {q : Program} {loose : List Str} {XP : (Str → Option Value) → Heap → Prop} {YP : World → Heap → Prop} {d : DefRec} {x : Str}
    (hn : l.most = some n) (hn2 : n ≤ sizeLine) (hdf : d.params.defaults = []) (hr : Room k callerA)
    (F : ∀ (w : World) (mg : Str → Option Value) (fa : Addr) (h : Heap), YP w h → h.Ns mainGlobals mg → mg d.name = some (.ref fa) →
      ∃ (K : Frag) (fd : FuncData) (sp : Sp) (cs : List (Addr × Addr)), K.In h ∧ (∀ p ∈ cs, h.get? p.2 = some ({ cls := .none, data := .fields #[] } : Obj)) ∧ (∀ p ∈ cs, K.lookup p.2 = none) ∧ (∀ p ∈ cs, codeHdIn K p.1 p.2 = true) ∧ (∀ (s : Shared) (u : Value), BindsTo s fd ⟨[u], []⟩ [(x, u)]) ∧
        (∀ (H : Hp) (a : Addr) (ns : List Int), ns.length ≤ n → (∀ b xs, H b ≠ some (.lst xs)) → (∀ p ∈ cs, H p.2 = some (.tbl #[])) → SqL K H a (ns.map V.int) → sp [.ref a] H (fun v _ => v = .bl true) fun _ _ _ => False) ∧
        ∀ base : Heap, K.In base → base.Ns mainGlobals mg → (∀ p ∈ cs, LamX.TabB base mg p.1 p.2) → FnG l.prog w K mg base k fa fd [x] sp)
    (hCX : ∀ (w : World) (H : Hp) (s : Shared) (e : Value) (s' : Shared), L2.CX l.prog w [] H s (fun _ _ _ => False) e s' → False) :
    WalkO q loose XP YP l.row.toRowW d [] (fun f vs => PySem.call f vs) := by
  refine Att.attach_call hn hdf fun w s0 s1 mg mb fa o pm cd doc a vs ns G Y ho hd hcd hmg hobj hints hlen hg => ?_
  obtain ⟨K, fd, sp, cs, KX, hT, nT, hC, bd, hsp, hF⟩ := F w mg fa _ Y G.T.g hmg
  exact law_t KX G.T.g G.T.b G.T.builtins G.T.nolimit hg hT nT hC G.T.bmain hobj hints (Nat.le_trans hlen hn2) hr hF bd (fun H hO hH hS => hsp H a ns hlen hO hH hS) fun H e s' => hCX w H s1 e s'
end PV
set_option maxHeartbeats 4000000
/-! The head: what it must tell of own exception classes. -/
namespace PV
open PySem PySem.W PySem.Calls PyProof.Rows L2
variable {G : Gd}
abbrev bmVE : List Value := [.type "ValueError", .type "Exception", .type "BaseException", .type "object"]
abbrev bmOE : List Value := [.type "OverflowError", .type "ArithmeticError", .type "Exception", .type "BaseException", .type "object"]
/-- the class at C, over ValueError (ve) or OverflowError -/
def xcB (K : Frag) (C : Addr) (ve : Bool) : Bool :=
  excInitIn K C (if ve then bmVE else bmOE) (if ve then "ValueError.__new__" else "OverflowError.__new__") && (hasDictIn K C && (decide (findIn K (.ref C) "__setattr__" = some (some (.builtin "object.__setattr__"))) &&
    (decide (ks_superIn K C C "__init__" = some (some (.builtin (if ve then "ValueError.__init__" else "OverflowError.__init__")))) && (decide (subIn K (.ref C) (.type (if ve then "ValueError" else "OverflowError")) = some true) && (decide (subIn K (.ref C) (.ref C) = some true) &&
      (decide (nsIn K cStatics "thirdparty.any" = some none) && (decide (subIn K (.ref C) (.type "BaseException") = some true) && (decide (typeIn K (.ref C) = some (.type "type")) && keepIn K (.ref C)))))))))
theorem xc_of {K : Frag} {C : Addr} {B newId initId : String} {bmB : List Value} (fb : ExcBaseFacts B newId initId bmB) (kx : KxsFacts B initId) (st : ∀ self, refuseLoop self "__setattr__" bmB = pure ()) (ob : bmB.contains (.type "object") = true)
    (h1 : excInitIn K C bmB newId = true) (h2 : hasDictIn K C = true) (sa : findIn K (.ref C) "__setattr__" = some (some (.builtin "object.__setattr__"))) (sup : ks_superIn K C C "__init__" = some (some (.builtin initId))) (subB : subIn K (.ref C) (.type B) = some true)
    (subC : subIn K (.ref C) (.ref C) = some true) (opq : nsIn K cStatics "thirdparty.any" = some none) (exC : subIn K (.ref C) (.type "BaseException") = some true) (tyC : typeIn K (.ref C) = some (.type "type")) (kC : keepIn K (.ref C) = true) : XC K C B newId initId bmB := by
  refine ⟨fb, kx, st, ob, ?_, sa, sup, subB, subC, opq, exC, tyC, kC⟩
  obtain ⟨cd0, hcd0, hh⟩ := any_some h2
  unfold excInitIn at h1
  split at h1
  · rename_i dd cd sl ho
    split at h1
    · rename_i C' bm k0 k1 k2 k3 n k5 hm hs
      simp only [Bool.and_eq_true, beq_iff_eq, Bool.not_eq_true'] at h1
      obtain ⟨⟨⟨rfl, rfl⟩, hdel⟩, ht⟩ := h1
      have hc : clsIn K C' = some cd := by unfold clsIn; rw [ho]
      have hh : cd.hasDict = true := by
        rw [hc] at hcd0
        cases hcd0
        exact hh
      obtain ⟨nm, bs, mro, ns, qn, hd, sn, sub, ab, col, del⟩ := cd
      dsimp only at hm hdel hh
      subst hm hdel hh
      obtain ⟨l⟩ := sl
      simp only at hs
      subst hs
      exact ⟨nm, qn, ns, bs, bm, sn, sub, ab, col, dd, k0, k1, k2, k3, k5, ho, ht⟩
    · cases h1
  · cases h1
theorem xcB_ok {K : Frag} {C : Addr} {ve : Bool} (h : xcB K C ve = true) : ∃ B newId initId bmB, XC K C B newId initId bmB := by
  unfold xcB at h
  simp only [Bool.and_eq_true, decide_eq_true_eq] at h
  obtain ⟨h1, h2, h3, h4, h5, h6, h7, h8, h9, h10⟩ := h
  cases ve with
  | true => exact ⟨_, _, _, _, xc_of F.excBase_ValueError kxs_ValueError (fun self => F.store_ValueError.passes self) (by decide +kernel) h1 h2 h3 h4 h5 h6 h7 h8 h9 h10⟩
  | false => exact ⟨_, _, _, _, xc_of F.excBase_OverflowError kxs_OverflowError (fun self => F.store_OverflowError.passes self) (by decide +kernel) h1 h2 h3 h4 h5 h6 h7 h8 h9 h10⟩
/-! ### its __init__ -/
abbrev FnI : Type := Option (Str × Str × Arguments × FuncBody × Scope × Addr × List Str × Addr)
def obsI (K : Frag) (f : Addr) : FnI := match K.lookup f with
  | some ⟨_, _, .func fd, _⟩ => some (fd.name, fd.qualname, fd.params, fd.body, fd.scope, fd.globals, fd.closure.map (·.1), fd.builtins)
  | _ => none
def iniB (K : Frag) (C f : Addr) (qual file : Str) : Bool := decide (findIn K (.ref C) "__init__" = some (some (.ref f))) && (decide (typeIn K (.ref f) = some (.type "function")) && (match K.lookup f with
  | some ⟨_, _, .func fd, _⟩ => (match fd.code, fd.closure with
    | .ref cda, [(_, cc)] => codeIn K (.ref cda) qual && ((match K.lookup cda with
      | some ⟨_, _, .fields vs, _⟩ => (match (vs[2]? : Option Value) with
        | some (Value.str fl _) => file == fl
        | _ => false)
      | _ => false) && ((match K.lookup cc with
      | some ⟨_, _, .cell (some (.ref C')), _⟩ => decide (C' = C)
      | _ => false) && decide (fd.defaults = .none)))
    | _, _ => false)
  | _ => false))
theorem ini_ok {K : Frag} {P : Program} {C f : Addr} {qual : Str} {params : Arguments} {body : List Stmt} {scope : Scope} (e : obsI K f = (some (("__init__" : Str), qual, params, .stmts body, scope, mainGlobals, [("__class__" : Str)], builtinsNs) : FnI)) (h : iniB K C f qual P.main.file = true) :
    ∃ fd, XF K P C f qual params body scope fd ∧ findIn K (.ref C) "__init__" = some (some (.ref f)) ∧ ∃ kV doc pm an cdv ct cc, fd = ksFn "__init__" qual params body scope .none kV doc pm an cdv ct cc := by
  unfold iniB at h
  simp only [Bool.and_eq_true, decide_eq_true_eq] at h
  obtain ⟨h1, h2, h3⟩ := h
  unfold obsI at e
  cases q : K.lookup f with
  | none => rw [q] at h3; cases h3
  | some o =>
    obtain ⟨oc, od, dt, osl⟩ := o
    rw [q] at h3 e
    cases dt with
    | func fd =>
      obtain ⟨n1, n2, n3, n4, n5, n6, n7, n8, n9, n10, n11, n12, n13, n14, n15⟩ := fd
      have e2 : (some (n1, n2, n3, n4, n5, n6, n7.map (·.1), n15) : FnI) = some (("__init__" : Str), qual, params, FuncBody.stmts body, scope, mainGlobals, [("__class__" : Str)], builtinsNs) := e
      simp only [Option.some.injEq, Prod.mk.injEq] at e2
      obtain ⟨y1, y2, y3, y4, y5, y6, y7, y8⟩ := e2
      subst y1 y2 y3 y4 y5 y6 y8
      dsimp only at h3
      split at h3
      · rename_i cda nm cc
        simp only [Bool.and_eq_true, decide_eq_true_eq] at h3
        obtain ⟨k1, k2, k3, k4⟩ := h3
        have en : nm = ("__class__" : Str) := by
          have := y7
          simp at this
          exact this
        subst en
        subst k4
        split at k2
        · rename_i oc2 od2 vs sl2 lca
          split at k2
          · rename_i fl tf hv
            split at k3
            · rename_i oc3 od3 C' sl3 lcc
              have k3 := of_decide_eq_true k3
              subst k3
              exact ⟨_, ⟨⟨oc, od, n9, n10, n11, n12, cda, n14, osl, cc, _, vs, fl, tf, _, rfl, q, k1, lca, rfl, hv, k2, lcc, rfl⟩, h2⟩, h1, n9, n10, n11, n12, _, n14, cc, rfl⟩
            · cases k3
          · cases k2
        · cases k2
      · cases h3
    | _ => cases h3
/-! ### tables for isinstance and fields -/
def excCB (K : Frag) (C : Addr) : Bool := xfB K C && (decide (findIn K (.ref C) "__class__" = some (some (.builtin "object.__class__"))) && (decide (specialIn K (.builtin "object.__class__") "__get__" = some (some (.builtin "getset_descriptor.__get__"))) &&
  (decide (takesIn K (.builtin "object.__class__") = some true) && decide (mroIn K C (.type "object") = some true))))
theorem excCB_ok {K : Frag} {C : Addr} (h : excCB K C = true) : XfC K C ∧ ExcC K C := by
  unfold excCB at h
  simp only [Bool.and_eq_true, decide_eq_true_eq] at h
  obtain ⟨h1, h2, h3, h4, h5⟩ := h
  have x := xfB_ok h1
  exact ⟨x, ⟨x.ga, x.gg, x.exC, x.hdC, h2, h3, h4, h5⟩⟩
/-- rows (class, asked class, answer) -/
def clV : V → Option Value
  | .ref C => some (.ref C)
  | .ty n => some (.type n)
  | _ => none
theorem clV_ok {c : V} {u : Value} (h : clV c = some u) : ClsV c u := by
  cases c <;> first | (cases h; exact .own _) | (cases h; exact .ty _) | cases h
def isTab (rows : List (Addr × V × Bool)) : IsT := fun C c => (rows.find? fun r => decide (r.1 = C) && decide (r.2.1 = c)).map (·.2.2)
def isTabB (K : Frag) (rows : List (Addr × V × Bool)) : Bool := rows.all fun r => excCB K r.1 && (match clV r.2.1 with
  | some u => decide (kitOne K (.ref r.1) u = some r.2.2)
  | none => false)
theorem isTab_ok {K : Frag} {rows : List (Addr × V × Bool)} (h : isTabB K rows = true) : IsOk K (isTab rows) := by
  refine ⟨fun C c b e => ?_⟩
  unfold isTab at e
  cases q : rows.find? fun r => decide (r.1 = C) && decide (r.2.1 = c) with
  | none => rw [q] at e; cases e
  | some r =>
    rw [q] at e
    cases e
    have hm := List.mem_of_find?_eq_some q
    have hp := List.find?_some q
    simp only [Bool.and_eq_true, decide_eq_true_eq] at hp
    obtain ⟨rfl, rfl⟩ := hp
    have z := List.all_eq_true.mp h r hm
    obtain ⟨z1, z2⟩ := Bool.and_eq_true_iff.mp z
    refine ⟨(excCB_ok z1).2, ?_⟩
    cases e2 : clV r.2.1 with
    | none => rw [e2] at z2; cases z2
    | some u =>
      rw [e2] at z2
      exact ⟨u, clV_ok e2, of_decide_eq_true z2⟩
def atTab (rows : List (Addr × Str)) : Addr → Str → Bool := fun C f => rows.any fun r => decide (r.1 = C) && decide (r.2 = f)
def atTabB (K : Frag) (rows : List (Addr × Str)) : Bool := rows.all fun r => excCB K r.1 && decide (findIn K (.ref r.1) r.2 = some none)
theorem atTab_ok {K : Frag} {rows : List (Addr × Str)} (h : atTabB K rows = true) : AtOk K (atTab rows) := by
  refine ⟨fun C f e => ?_⟩
  obtain ⟨r, hm, hp⟩ := List.any_eq_true.mp e
  simp only [Bool.and_eq_true, decide_eq_true_eq] at hp
  obtain ⟨rfl, rfl⟩ := hp
  obtain ⟨z1, z2⟩ := Bool.and_eq_true_iff.mp (List.all_eq_true.mp h r hm)
  exact ⟨(excCB_ok z1).1, of_decide_eq_true z2⟩
/-! ### the Hook -/
structure IniD where
  cls : Str
  qual : Str
  params : Arguments
  body : List Stmt
  scope : Scope
def IniD.at_ (K : Frag) (d : IniD) : Addr := He.fAd K (d.cls, some "__init__")
def IniD.val (d : IniD) : FnI := some ("__init__", d.qual, d.params, .stmts d.body, d.scope, mainGlobals, ["__class__"], builtinsNs)
/-- what the names reach, and the interpreter's own statics -/
def asP (g : Addr → Option Obj) (n : Nat) : List Addr := List.cons sysModules (List.cons cStatics (He.asD g n))
/-- the code tables of the defs tf: empty at the head's end, not in K -/
structure TabF (h : Heap) (K : Frag) (p : He.Defn) : Prop where
  cd : codeHdIn K (He.cT K p).1 (He.cT K p).2 = true
  nk : K.lookup (He.cT K p).2 = none
  mt : h.get? (He.cT K p).2 = some ({ cls := .none, data := .fields #[] } : Obj)
structure SaysP (fa : List He.Fa) (fn : List He.DefD) (ini : List IniD) (tf : List He.Defn) (ex : Frag → Bool) (h : Heap) (K : Frag) : Prop where
  d : He.SaysD fa fn K
  more : ex K = true
  tabs : ∀ p ∈ tf, TabF h K p
  i : ini.map (fun d => obsI K (d.at_ K)) = ini.map IniD.val
abbrev AlP : Type := (He.AlD × Bool) × List FnI
def obsP (n : Nat) (fa : List He.Fa) (fn : List He.DefD) (ini : List IniD) (tf : List He.Defn) (ex : Frag → Bool) (g : Addr → Option Obj) : AlP :=
  ((He.obsD fa fn (He.frT g (asP g n)), ex (He.frT g (asP g n)) && He.tabsB g tf (He.frT g (asP g n))), ini.map fun d => obsI (He.frT g (asP g n)) (d.at_ (He.frT g (asP g n))))
theorem tabsB_of {h : Heap} {as : List Addr} {tf : List He.Defn} (e : He.tabsB h.get? tf (He.frT h.get? as) = true) : ∀ p ∈ tf, TabF h (He.frT h.get? as) p := fun p hp => by
  obtain ⟨a, b⟩ := Bool.and_eq_true_iff.mp (List.all_eq_true.mp e p hp)
  split at b
  · rename_i o q
    exact ⟨a, He.frT_none q b, by rw [q, He.emptyTab_eq b]⟩
  · cases b
theorem saysP_of {n : Nat} {fa : List He.Fa} {fn : List He.DefD} {ini : List IniD} {tf : List He.Defn} {ex : Frag → Bool} {h : Heap} (e : obsP n fa fn ini tf ex h.get? = ((He.valD fn, true), ini.map IniD.val)) : SaysP fa fn ini tf ex h (He.frT h.get? (asP h.get? n)) := by
  unfold obsP at e
  simp only [Prod.mk.injEq] at e
  obtain ⟨⟨e1, e2⟩, e3⟩ := e
  obtain ⟨e2, e4⟩ := Bool.and_eq_true_iff.mp e2
  exact ⟨e1, e2, tabsB_of e4, e3⟩
def hookP (n : Nat) (fa : List He.Fa) (fn : List He.DefD) (ini : List IniD) (tf : List He.Defn) (ex : Frag → Bool) : Hook where
  α := AlP
  obs := fun s => obsP n fa fn ini tf ex s.heap.get?
  val := fun _ => ((He.valD fn, true), ini.map IniD.val)
  says := fun _ h => ∃ K : Frag, K.In h ∧ SaysP fa fn ini tf ex h K
  of := fun w h e => ⟨_, He.frT_in, saysP_of e⟩
  keeps := fun w h h' ⟨K, hK, c⟩ k => ⟨K, Frag.In.keeps hK k, ⟨c.d, c.more, fun p hp => ⟨(c.tabs p hp).cd, (c.tabs p hp).nk, k _ _ (c.tabs p hp).mt⟩, c.i⟩⟩
theorem obsP_eq {n : Nat} {fa : List He.Fa} {fn : List He.DefD} {ini : List IniD} {tf : List He.Defn} {ex : Frag → Bool} {g : Addr → Option Obj} {s : Shared} (h : ∀ a, g a = s.heap.get? a) : obsP n fa fn ini tf ex g = (hookP n fa fn ini tf ex).obs s := by
  have e : g = s.heap.get? := funext h
  subst e
  rfl
theorem SaysP.ini {fa : List He.Fa} {fn : List He.DefD} {ini : List IniD} {tf : List He.Defn} {ex : Frag → Bool} {h : Heap} {K : Frag} (c : SaysP fa fn ini tf ex h K) {d : IniD} (hd : d ∈ ini) : obsI K (d.at_ K) = d.val := by
  obtain ⟨i, hi, rfl⟩ := List.mem_iff_getElem.mp hd
  have e := congrArg (fun l => l[i]?) c.i
  simp only [List.getElem?_map, List.getElem?_eq_getElem hi, Option.map_some, Option.some.injEq] at e
  exact e
end PV
set_option maxHeartbeats 4000000
/-! Draws, plainly. -/
namespace PV
open PySem PySem.W PySem.Calls PyProof.Rows L2
structure DOk (am : Addr) (s : DS) : Prop where
  at_ : s.at_ = some am
  s0 : 0 ≤ s.spot
  cl : s.cells.length = 64
  gl : s.great.length ≤ 1000
theorem draw_ok {am : Addr} {l : Int} {s : DS} (h : DOk am s) (hs : s.spot < 1125899906842624) (h0 : 0 < l) (hl : l < 1073741824) :
    ∃ r s', drawM [.raw (.ref am), .int l] s = .ok (.int r) s' ∧ 0 ≤ r ∧ r < l ∧ DOk am s' ∧ s'.spot = s.spot + 1 := by
  have e : drawM [.raw (.ref am), .int l] s = drawR l s := if_pos ⟨h.at_, h0, hl, h.s0, hs, h.cl, h.gl⟩
  have s0 := h.s0
  rw [e]
  unfold drawR
  split
  · exact ⟨_, _, rfl, Int.emod_nonneg _ (by omega), Int.emod_lt_of_pos _ h0, ⟨h.at_, by show 0 ≤ s.spot + 1; omega, h.cl, by simpa using h.gl⟩, rfl⟩
  · exact ⟨_, _, rfl, Int.emod_nonneg _ (by omega), Int.emod_lt_of_pos _ h0, ⟨h.at_, by show 0 ≤ s.spot + 1; omega, h.cl, h.gl⟩, rfl⟩
theorem grOf_len (ns : List Int) : (grOf ns).length = ns.length := by simp [grOf]
theorem dok_start {am : Addr} {s : DS} {ns : List Int} (h1 : s.cells.length = 64) (h2 : s.great = grOf ns) (h3 : s.spot = 0) (h4 : s.at_ = some am) (hn : ns.length ≤ 1000) : DOk am s :=
  ⟨h4, by omega, h1, by rw [h2, grOf_len]; exact hn⟩
end PV
set_option maxHeartbeats 0
namespace PV
open PySem PySem.W PySem.Calls PyProof.Rows L2
def compOf (s : Stmt) : Expr := match s with
  | .Assign _ e _ => e
  | _ => .Constant .none 0 ⟨0, 0, 0, 0⟩
end PV
namespace PV.Law
open PySem PySem.W PySem.Calls PyProof.Rows L2 PV
abbrev PP : Program := PySem.Challenge.pw_labelroads_k30_exceptions_of_the_first_p
def top (i : Nat) : Stmt := PP.main.body.getD i (.Pass ⟨0, 0, 0, 0⟩)
abbrev TB (K : Frag) : List NdefX.NTab := [tb1 (He.cT K ("need_net", none)).2 "need_net.<locals>.<lambda>"]
def clsBody (s : Stmt) : List Stmt := match s with
  | .ClassDef (body := b) .. => b
  | _ => []
def ini (i : Nat) : Stmt := (clsBody (top i)).getD 0 (.Pass ⟨0, 0, 0, 0⟩)
abbrev a_NetError : Addr := 24
abbrev a_BadNet : Addr := 46
abbrev a_BadNumber : Addr := 67
abbrev a_BadRoad : Addr := 88
abbrev a_BadHead : Addr := 109
abbrev a_BadFailed : Addr := 130
abbrev a_BadParcel : Addr := 151
abbrev a_BadChoices : Addr := 172
abbrev a_BadShape : Addr := 193
abbrev a_BadGoal : Addr := 214
abbrev a_BadPaper : Addr := 235
abbrev a_TooGreat : Addr := 256
def isRows : List (Addr × V × Bool) := [(46, V.ref 172, false), (46, V.ref 130, false), (46, V.ref 214, false), (46, V.ref 109, false), (46, V.ref 46, true), (46, V.ref 67, false), (46, V.ref 235, false), (46, V.ref 151, false), (46, V.ref 88, false), (46, V.ref 193, false), (46, V.ref 24, true), (46, V.ref 256, false), (67, V.ref 172, false), (67, V.ref 130, false), (67, V.ref 214, false), (67, V.ref 109, false), (67, V.ref 46, false), (67, V.ref 67, true), (67, V.ref 235, false), (67, V.ref 151, false), (67, V.ref 88, false), (67, V.ref 193, false), (67, V.ref 24, true), (67, V.ref 256, false), (88, V.ref 172, false), (88, V.ref 130, false), (88, V.ref 214, false), (88, V.ref 109, false), (88, V.ref 46, false), (88, V.ref 67, false), (88, V.ref 235, false), (88, V.ref 151, false), (88, V.ref 88, true), (88, V.ref 193, false), (88, V.ref 24, true), (88, V.ref 256, false), (109, V.ref 172, false), (109, V.ref 130, false), (109, V.ref 214, false), (109, V.ref 109, true), (109, V.ref 46, false), (109, V.ref 67, false), (109, V.ref 235, false), (109, V.ref 151, false), (109, V.ref 88, false), (109, V.ref 193, false), (109, V.ref 24, true), (109, V.ref 256, false), (130, V.ref 172, false), (130, V.ref 130, true), (130, V.ref 214, false), (130, V.ref 109, false), (130, V.ref 46, false), (130, V.ref 67, false), (130, V.ref 235, false), (130, V.ref 151, false), (130, V.ref 88, false), (130, V.ref 193, false), (130, V.ref 24, true), (130, V.ref 256, false), (151, V.ref 172, false), (151, V.ref 130, false), (151, V.ref 214, false), (151, V.ref 109, false), (151, V.ref 46, false), (151, V.ref 67, false), (151, V.ref 235, false), (151, V.ref 151, true), (151, V.ref 88, false), (151, V.ref 193, false), (151, V.ref 24, true), (151, V.ref 256, false), (172, V.ref 172, true), (172, V.ref 130, false), (172, V.ref 214, false), (172, V.ref 109, false), (172, V.ref 46, false), (172, V.ref 67, false), (172, V.ref 235, false), (172, V.ref 151, false), (172, V.ref 88, false), (172, V.ref 193, false), (172, V.ref 24, true), (172, V.ref 256, false), (193, V.ref 172, false), (193, V.ref 130, false), (193, V.ref 214, false), (193, V.ref 109, false), (193, V.ref 46, false), (193, V.ref 67, false), (193, V.ref 235, false), (193, V.ref 151, false), (193, V.ref 88, false), (193, V.ref 193, true), (193, V.ref 24, true), (193, V.ref 256, false), (214, V.ref 172, false), (214, V.ref 130, false), (214, V.ref 214, true), (214, V.ref 109, false), (214, V.ref 46, false), (214, V.ref 67, false), (214, V.ref 235, false), (214, V.ref 151, false), (214, V.ref 88, false), (214, V.ref 193, false), (214, V.ref 24, true), (214, V.ref 256, false), (235, V.ref 172, false), (235, V.ref 130, false), (235, V.ref 214, false), (235, V.ref 109, false), (235, V.ref 46, false), (235, V.ref 67, false), (235, V.ref 235, true), (235, V.ref 151, false), (235, V.ref 88, false), (235, V.ref 193, false), (235, V.ref 24, true), (235, V.ref 256, false), (256, V.ref 172, false), (256, V.ref 130, false), (256, V.ref 214, false), (256, V.ref 109, false), (256, V.ref 46, false), (256, V.ref 67, false), (256, V.ref 235, false), (256, V.ref 151, false), (256, V.ref 88, false), (256, V.ref 193, false), (256, V.ref 24, false), (256, V.ref 256, true), (46, V.ty "OverflowError", false), (46, V.ty "ValueError", true), (67, V.ty "OverflowError", false), (67, V.ty "ValueError", true), (88, V.ty "OverflowError", false), (88, V.ty "ValueError", true), (109, V.ty "OverflowError", false), (109, V.ty "ValueError", true), (130, V.ty "OverflowError", false), (130, V.ty "ValueError", true), (151, V.ty "OverflowError", false), (151, V.ty "ValueError", true), (172, V.ty "OverflowError", false), (172, V.ty "ValueError", true), (193, V.ty "OverflowError", false), (193, V.ty "ValueError", true), (214, V.ty "OverflowError", false), (214, V.ty "ValueError", true), (235, V.ty "OverflowError", false), (235, V.ty "ValueError", true), (256, V.ty "OverflowError", true), (256, V.ty "ValueError", false)]
def atRows : List (Addr × Str) := [(46, "place"), (67, "value"), (88, "value"), (109, "value"), (130, "value"), (151, "value"), (172, "place"), (193, "value"), (214, "value"), (235, "word"), (256, "most")]
abbrev isT : IsT := isTab isRows
abbrev atT : Addr → Str → Bool := atTab atRows
structure Tells (w : World) (K : Frag) (mg : Str → Option Value) (base : Heap) : Prop where
  g_OverflowError : mg "OverflowError" = none
  g_ValueError : mg "ValueError" = none
  g_all : mg "all" = none
  g_any : mg "any" = none
  g_bool : mg "bool" = none
  g_enumerate : mg "enumerate" = none
  g_int : mg "int" = none
  g_isinstance : mg "isinstance" = none
  g_len : mg "len" = none
  g_range : mg "range" = none
  g_repr : mg "repr" = none
  g_str : mg "str" = none
  g_super : mg "super" = none
  g_tuple : mg "tuple" = none
  g_NetError : mg "NetError" = some (.ref a_NetError)
  g_BadNet : mg "BadNet" = some (.ref a_BadNet)
  g_BadNumber : mg "BadNumber" = some (.ref a_BadNumber)
  g_BadRoad : mg "BadRoad" = some (.ref a_BadRoad)
  g_BadHead : mg "BadHead" = some (.ref a_BadHead)
  g_BadFailed : mg "BadFailed" = some (.ref a_BadFailed)
  g_BadParcel : mg "BadParcel" = some (.ref a_BadParcel)
  g_BadChoices : mg "BadChoices" = some (.ref a_BadChoices)
  g_BadShape : mg "BadShape" = some (.ref a_BadShape)
  g_BadGoal : mg "BadGoal" = some (.ref a_BadGoal)
  g_BadPaper : mg "BadPaper" = some (.ref a_BadPaper)
  g_TooGreat : mg "TooGreat" = some (.ref a_TooGreat)
  k_ALL : ∃ t, mg "ALL" = some (.str "all" t)
  k_ANY : ∃ t, mg "ANY" = some (.str "any" t)
  k_HOME : ∃ t, mg "HOME" = some (.str "home" t)
  k_LETTERS : ∃ t, mg "LETTERS" = some (.str "abcdefghijklmnopqrstuvwxyz" t)
  k_MOST_CHOICES : ∃ t, mg "MOST_CHOICES" = some (.int 3 t)
  k_MOST_GROUPS : ∃ t, mg "MOST_GROUPS" = some (.int 3 t)
  k_MOST_HOUSES : ∃ t, mg "MOST_HOUSES" = some (.int 8 t)
  k_MOST_LABELS : ∃ t, mg "MOST_LABELS" = some (.int 4 t)
  k_MOST_LETTERS : ∃ t, mg "MOST_LETTERS" = some (.int 8 t)
  k_MOST_ROADS : ∃ t, mg "MOST_ROADS" = some (.int 10 t)
  k_MOST_WORD : ∃ t, mg "MOST_WORD" = some (.int 3 t)
  tb_need_net : LamX.TabB base mg (He.cT K ("need_net", none)).1 (He.cT K ("need_net", none)).2
  hu_need_net : ∀ p ∈ TB K, p.1 = (He.cT K ("need_net", none)).2 → p = tb1 (He.cT K ("need_net", none)).2 "need_net.<locals>.<lambda>"
  sm : ∃ o, K.lookup sysModules = some o
  is : IsOk K isT
  at_ : AtOk K atT
  x_BadNet : ExC PP w K mg base "BadNet" a_BadNet ["place"] ["place"]
  x_BadShape : ExC PP w K mg base "BadShape" a_BadShape ["value"] ["value"]
  x_BadChoices : ExC PP w K mg base "BadChoices" a_BadChoices ["place"] ["place"]
  x_BadParcel : ExC PP w K mg base "BadParcel" a_BadParcel ["value"] ["value"]
  x_BadFailed : ExC PP w K mg base "BadFailed" a_BadFailed ["value"] ["value"]
  x_BadHead : ExC PP w K mg base "BadHead" a_BadHead ["value"] ["value"]
  x_BadRoad : ExC PP w K mg base "BadRoad" a_BadRoad ["value"] ["value"]
  x_BadNumber : ExC PP w K mg base "BadNumber" a_BadNumber ["value"] ["value"]
  x_TooGreat : ExC PP w K mg base "TooGreat" a_TooGreat ["most"] ["most"]
  x_BadPaper : ExC PP w K mg base "BadPaper" a_BadPaper ["word"] ["word"]
  x_BadGoal : ExC PP w K mg base "BadGoal" a_BadGoal ["value"] ["value"]
section
variable {w : World} {K : Frag} {mg : Str → Option Value} {base : Heap}
def bm_is_whole_s0 : MS := (mRet (mAnd (fun ls => bnd ((mCons (mVar 0) (mCons (fun _ => ret (.raw (.ty "int"))) (fun _ => ret []))) ls) (isiD isT)) (mNot (fun ls => bnd ((mCons (mVar 0) (mCons (fun _ => ret (.raw (.ty "bool"))) (fun _ => ret []))) ls) (isiD isT)))))
def bm_is_whole : MS := bm_is_whole_s0
def m_is_whole : List D → M D := runF 1 bm_is_whole
theorem ok_is_whole (T : Tells w K mg base) (F : DefF K mg "is_whole" (top 25)) : Cal PP w K mg base (TB K) "is_whole" 1 1 m_is_whole := by
  have S : FnScope ["value"] ["value"] (defScope (top 25)) := ⟨rfl, rfl, rfl, by decide +kernel, rfl, by decide +kernel, by decide +kernel⟩
  exact F.cal (N := ["value"]) (ps := ["value"]) S (by decide) (by intro _ _ _ _ _ _ us hl; exact match us, hl with | [_], _ => rfl) fun f cdv A outer s H E hr => (sss_one (ss_ret ((se_and (se_callB (c_isi T.is) rfl T.g_isinstance PyProof.Rows.Boot.«isinstance» (sao_cons (SE.o ((se_var (i := 0)))) (sao_cons (SE.o ((se_bltn (v := .ty "int") rfl T.g_int PyProof.Rows.Boot.«int» rfl))) sao_nil))) (se_one (se_not (se_callB (c_isi T.is) rfl T.g_isinstance PyProof.Rows.Boot.«isinstance» (sao_cons (SE.o ((se_var (i := 0)))) (sao_cons (SE.o ((se_bltn (v := .ty "bool") rfl T.g_bool PyProof.Rows.Boot.«bool» rfl))) sao_nil)))))))))
def bm_is_among_s0 : MS := (mRet (mAnd (fun ls => bnd ((mCons (mVar 0) (fun _ => ret [])) ls) (callD 1 (m_is_whole))) (mChain leD leD (mVar 1) (mVar 0) (mVar 2))))
def bm_is_among : MS := bm_is_among_s0
def m_is_among : List D → M D := runF 3 bm_is_among
theorem ok_is_among (T : Tells w K mg base) (F : DefF K mg "is_among" (top 26)) (C_is_whole : Cal PP w K mg base (TB K) "is_whole" 1 1 (m_is_whole)) : Cal PP w K mg base (TB K) "is_among" 2 3 m_is_among := by
  have S : FnScope ["value", "least", "most"] ["value", "least", "most"] (defScope (top 26)) := ⟨rfl, rfl, rfl, by decide +kernel, rfl, by decide +kernel, by decide +kernel⟩
  exact F.cal (N := ["value", "least", "most"]) (ps := ["value", "least", "most"]) S (by decide) (by intro _ _ _ _ _ _ us hl; exact match us, hl with | [_, _, _], _ => rfl) fun f cdv A outer s H E hr => (sss_one (ss_ret ((se_and (se_callC C_is_whole (hr.mono (by decide)) rfl (takes_of rfl rfl rfl rfl) (sa_cons ((se_var (i := 0))) sa_nil)) (se_one (se_chain o_le o_le (SE.o ((se_var (i := 1)))) (SE.o ((se_var (i := 0)))) (SE.o ((se_var (i := 2))))))))))
def bm_is_tuple_s0 : MS := (mRet (mAnd (fun ls => bnd ((mCons (mVar 0) (mCons (fun _ => ret (.raw (.ty "tuple"))) (fun _ => ret []))) ls) (isiD isT)) (mChain leD leD (mVar 1) (fun ls => bnd ((mCons (mVar 0) (fun _ => ret [])) ls) lenD) (mVar 2))))
def bm_is_tuple : MS := bm_is_tuple_s0
def m_is_tuple : List D → M D := runF 3 bm_is_tuple
theorem ok_is_tuple (T : Tells w K mg base) (F : DefF K mg "is_tuple" (top 27)) : Cal PP w K mg base (TB K) "is_tuple" 1 3 m_is_tuple := by
  have S : FnScope ["value", "least", "most"] ["value", "least", "most"] (defScope (top 27)) := ⟨rfl, rfl, rfl, by decide +kernel, rfl, by decide +kernel, by decide +kernel⟩
  exact F.cal (N := ["value", "least", "most"]) (ps := ["value", "least", "most"]) S (by decide) (by intro _ _ _ _ _ _ us hl; exact match us, hl with | [_, _, _], _ => rfl) fun f cdv A outer s H E hr => (sss_one (ss_ret ((se_and (se_callB (c_isi T.is) rfl T.g_isinstance PyProof.Rows.Boot.«isinstance» (sao_cons (SE.o ((se_var (i := 0)))) (sao_cons (SE.o ((se_bltn (v := .ty "tuple") rfl T.g_tuple PyProof.Rows.Boot.«tuple» rfl))) sao_nil))) (se_one (se_chain o_le o_le (SE.o ((se_var (i := 1)))) (SE.o ((se_callB c_len rfl T.g_len PyProof.Rows.Boot.«len» (sao_cons (SE.o ((se_var (i := 0)))) sao_nil)))) (SE.o ((se_var (i := 2))))))))))
def bm_is_word_s0 : MS := (mRet (mAnd (fun ls => bnd ((mCons (mVar 0) (mCons (fun _ => ret (.raw (.ty "str"))) (fun _ => ret []))) ls) (isiD isT)) (mAnd (mChain leD leD (fun _ => ret (.int 1)) (fun ls => bnd ((mCons (mVar 0) (fun _ => ret [])) ls) lenD) (fun _ => ret (.int 8))) (fun ls => bnd ((mCons (mL (mLc [1] (fun ls => bnd ((mVar 0) ls) seqT) (gNm 1) (fun _ => ret true) (m2 inD (mVar 1) (fun _ => ret (.str "abcdefghijklmnopqrstuvwxyz"))))) (fun _ => ret [])) ls) allD))))
def bm_is_word : MS := bm_is_word_s0
def m_is_word : List D → M D := runF 2 bm_is_word
theorem ok_is_word (T : Tells w K mg base) (F : DefF K mg "is_word" (top 28)) : Cal PP w K mg base (TB K) "is_word" 1 1 m_is_word := by
  have S : FnScope ["value", "letter"] ["value"] (defScope (top 28)) := ⟨rfl, rfl, rfl, by decide +kernel, rfl, by decide +kernel, by decide +kernel⟩
  exact F.cal (N := ["value", "letter"]) (ps := ["value"]) S (by decide) (by intro _ _ _ _ _ _ us hl; exact match us, hl with | [_], _ => rfl) fun f cdv A outer s H E hr => (sss_one (ss_ret ((se_and (se_callB (c_isi T.is) rfl T.g_isinstance PyProof.Rows.Boot.«isinstance» (sao_cons (SE.o ((se_var (i := 0)))) (sao_cons (SE.o ((se_bltn (v := .ty "str") rfl T.g_str PyProof.Rows.Boot.«str» rfl))) sao_nil))) (se_and (se_chain o_le o_le (SE.o ((se_int))) (SE.o ((se_callB c_len rfl T.g_len PyProof.Rows.Boot.«len» (sao_cons (SE.o ((se_var (i := 0)))) sao_nil)))) (SE.o ((se_gint rfl T.k_MOST_LETTERS)))) (se_one (se_callB (c_all rfl) rfl T.g_all PyProof.Rows.Boot.«all» (sao_cons (SE.o ((SL.se (sl_lc (own := [("letter", 1)]) (is := [1]) rfl S.nd (si_seqT (SE.o ((se_var (i := 0))))) (blkI ["value", "letter"] (defScope (top 28)) ⟨rfl, by decide +kernel, by decide +kernel, by decide +kernel, by decide +kernel⟩) (fun s H C cl fp => (sg_name (i := 1) S.nd)) (fun s H C cl fp => sts_nil) (fun s H C cl fp => (se_cmp (o_in hr.room) (SE.o ((se_var (i := 1)))) (SE.o ((se_gstr rfl T.k_LETTERS))))))))) sao_nil))))))))
def bm_is_road_pair_s0 : MS := (mRet (mAnd (fun ls => bnd ((mCons (mVar 0) (mCons (fun _ => ret (.int 2)) (mCons (fun _ => ret (.int 2)) (fun _ => ret [])))) ls) (callD 3 (m_is_tuple))) (fun ls => bnd ((mCons (mL (mLc [1] (mSeqI (mVar 0)) (gNm 1) (fun _ => ret true) (fun ls => bnd ((mCons (mVar 1) (mCons (fun _ => ret (.int 0)) (mCons (m2 subD (fun _ => ret (.int 8)) (fun _ => ret (.int 1))) (fun _ => ret [])))) ls) (callD 3 (m_is_among))))) (fun _ => ret [])) ls) allD)))
def bm_is_road_pair : MS := bm_is_road_pair_s0
def m_is_road_pair : List D → M D := runF 2 bm_is_road_pair
theorem ok_is_road_pair (T : Tells w K mg base) (F : DefF K mg "is_road_pair" (top 29)) (C_is_tuple : Cal PP w K mg base (TB K) "is_tuple" 1 3 (m_is_tuple)) (C_is_among : Cal PP w K mg base (TB K) "is_among" 2 3 (m_is_among)) : Cal PP w K mg base (TB K) "is_road_pair" 3 1 m_is_road_pair := by
  have S : FnScope ["value", "house"] ["value"] (defScope (top 29)) := ⟨rfl, rfl, rfl, by decide +kernel, rfl, by decide +kernel, by decide +kernel⟩
  exact F.cal (N := ["value", "house"]) (ps := ["value"]) S (by decide) (by intro _ _ _ _ _ _ us hl; exact match us, hl with | [_], _ => rfl) fun f cdv A outer s H E hr => (sss_one (ss_ret ((se_and (se_callC C_is_tuple (hr.mono (by decide)) rfl (takes_of rfl rfl rfl rfl) (sa_cons ((se_var (i := 0))) (sa_cons ((se_int)) (sa_cons ((se_int)) sa_nil)))) (se_one (se_callB (c_all rfl) rfl T.g_all PyProof.Rows.Boot.«all» (sao_cons (SE.o ((SL.se (sl_lc (own := [("house", 1)]) (is := [1]) rfl S.nd (si_seqO (SE.o ((se_var (i := 0))))) (blkI ["value", "house"] (defScope (top 29)) ⟨rfl, by decide +kernel, by decide +kernel, by decide +kernel, by decide +kernel⟩) (fun s H C cl fp => (sg_name (i := 1) S.nd)) (fun s H C cl fp => sts_nil) (fun s H C cl fp => (se_callC C_is_among (hr.mono (by decide)) rfl takes0 (sa_cons ((se_var (i := 1))) (sa_cons ((se_int)) (sa_cons ((se_op o_sub (SE.o ((se_gint rfl T.k_MOST_HOUSES))) (SE.o ((se_int))))) sa_nil))))))))) sao_nil)))))))
def bm_is_label_s0 : MS := (mRet (mAnd (fun ls => bnd ((mCons (mVar 1) (mCons (fun _ => ret (.raw (.ty "str"))) (fun _ => ret []))) ls) (isiD isT)) (m2 inD (mVar 1) (mVar 0))))
def bm_is_label : MS := bm_is_label_s0
def m_is_label : List D → M D := runF 2 bm_is_label
theorem ok_is_label (T : Tells w K mg base) (F : DefF K mg "is_label" (top 30)) : Cal PP w K mg base (TB K) "is_label" 1 2 m_is_label := by
  have S : FnScope ["labels", "value"] ["labels", "value"] (defScope (top 30)) := ⟨rfl, rfl, rfl, by decide +kernel, rfl, by decide +kernel, by decide +kernel⟩
  exact F.cal (N := ["labels", "value"]) (ps := ["labels", "value"]) S (by decide) (by intro _ _ _ _ _ _ us hl; exact match us, hl with | [_, _], _ => rfl) fun f cdv A outer s H E hr => (sss_one (ss_ret ((se_and (se_callB (c_isi T.is) rfl T.g_isinstance PyProof.Rows.Boot.«isinstance» (sao_cons (SE.o ((se_var (i := 1)))) (sao_cons (SE.o ((se_bltn (v := .ty "str") rfl T.g_str PyProof.Rows.Boot.«str» rfl))) sao_nil))) (se_one (se_cmp (o_in hr.room) (SE.o ((se_var (i := 1)))) (SE.o ((se_var (i := 0))))))))))
def bm_are_labels_s0 : MS := (mRet (mAnd (fun ls => bnd ((mCons (mVar 1) (mCons (fun _ => ret (.int 0)) (mCons (mVar 2) (fun _ => ret [])))) ls) (callD 3 (m_is_tuple))) (fun ls => bnd ((mCons (mL (mLc [3] (mSeqI (mVar 1)) (gNm 3) (fun _ => ret true) (fun ls => bnd ((mCons (mVar 0) (mCons (mVar 3) (fun _ => ret []))) ls) (callD 2 (m_is_label))))) (fun _ => ret [])) ls) allD)))
def bm_are_labels : MS := bm_are_labels_s0
def m_are_labels : List D → M D := runF 4 bm_are_labels
theorem ok_are_labels (T : Tells w K mg base) (F : DefF K mg "are_labels" (top 31)) (C_is_tuple : Cal PP w K mg base (TB K) "is_tuple" 1 3 (m_is_tuple)) (C_is_label : Cal PP w K mg base (TB K) "is_label" 1 2 (m_is_label)) : Cal PP w K mg base (TB K) "are_labels" 2 3 m_are_labels := by
  have S : FnScope ["labels", "value", "most", "one"] ["labels", "value", "most"] (defScope (top 31)) := ⟨rfl, rfl, rfl, by decide +kernel, rfl, by decide +kernel, by decide +kernel⟩
  exact F.cal (N := ["labels", "value", "most", "one"]) (ps := ["labels", "value", "most"]) S (by decide) (by intro _ _ _ _ _ _ us hl; exact match us, hl with | [_, _, _], _ => rfl) fun f cdv A outer s H E hr => (sss_one (ss_ret ((se_and (se_callC C_is_tuple (hr.mono (by decide)) rfl (takes_of rfl rfl rfl rfl) (sa_cons ((se_var (i := 1))) (sa_cons ((se_int)) (sa_cons ((se_var (i := 2))) sa_nil)))) (se_one (se_callB (c_all rfl) rfl T.g_all PyProof.Rows.Boot.«all» (sao_cons (SE.o ((SL.se (sl_lc (own := [("one", 3)]) (is := [3]) rfl S.nd (si_seqO (SE.o ((se_var (i := 1))))) (blkI ["labels", "value", "most", "one"] (defScope (top 31)) ⟨rfl, by decide +kernel, by decide +kernel, by decide +kernel, by decide +kernel⟩) (fun s H C cl fp => (sg_name (i := 3) S.nd)) (fun s H C cl fp => sts_nil) (fun s H C cl fp => (se_callC C_is_label (hr.mono (by decide)) rfl takes0 (sa_cons ((se_var (i := 0))) (sa_cons ((se_var (i := 3))) sa_nil)))))))) sao_nil)))))))
def bm_is_key_s0 : MS := (mIfS (nOr (nNot (fun ls => bnd ((fun ls => bnd ((mCons (mVar 2) (mCons (fun _ => ret (.int 2)) (mCons (fun _ => ret (.int 2)) (fun _ => ret [])))) ls) (callD 3 (m_is_tuple))) ls) truD)) (nNot (fun ls => bnd ((fun ls => bnd ((mCons (m2 ixD (mVar 2) (fun _ => ret (.int 0))) (mCons (fun _ => ret (.int 0)) (mCons (m2 subD (fun ls => bnd ((mCons (mVar 0) (fun _ => ret [])) ls) lenD) (fun _ => ret (.int 1))) (fun _ => ret [])))) ls) (callD 3 (m_is_among))) ls) truD))) (mRet (fun _ => ret (.bl false))) mNil)
def bm_is_key_s1 : MS := (mRet (fun ls => bnd ((mCons (fun ls => bnd ((mStar (mVar 1) (mCons (fun _ => ret (.str "")) (fun _ => ret []))) ls) tupD) (mCons (m2 ixD (mVar 2) (fun _ => ret (.int 1))) (fun _ => ret []))) ls) (callD 2 (m_is_label))))
def bm_is_key : MS := (mSeq bm_is_key_s0 bm_is_key_s1)
def m_is_key : List D → M D := runF 3 bm_is_key
theorem ok_is_key (T : Tells w K mg base) (F : DefF K mg "is_key" (top 32)) (C_is_tuple : Cal PP w K mg base (TB K) "is_tuple" 1 3 (m_is_tuple)) (C_is_among : Cal PP w K mg base (TB K) "is_among" 2 3 (m_is_among)) (C_is_label : Cal PP w K mg base (TB K) "is_label" 1 2 (m_is_label)) : Cal PP w K mg base (TB K) "is_key" 3 3 m_is_key := by
  have S : FnScope ["roads", "labels", "value"] ["roads", "labels", "value"] (defScope (top 32)) := ⟨rfl, rfl, rfl, by decide +kernel, rfl, by decide +kernel, by decide +kernel⟩
  exact F.cal (N := ["roads", "labels", "value"]) (ps := ["roads", "labels", "value"]) S (by decide) (by intro _ _ _ _ _ _ us hl; exact match us, hl with | [_, _, _], _ => rfl) fun f cdv A outer s H E hr => (sss_cons (ss_if (STw.st (stw_or (st_not (st_val (SE.o ((se_callC C_is_tuple (hr.mono (by decide)) rfl (takes_of rfl rfl rfl rfl) (sa_cons ((se_var (i := 2))) (sa_cons ((se_int)) (sa_cons ((se_int)) sa_nil)))))))) (stw_or1 (st_not (st_val (SE.o ((se_callC C_is_among (hr.mono (by decide)) rfl (takes_of rfl rfl rfl rfl) (sa_cons ((se_ix (SE.o ((se_var (i := 2)))) (SE.o ((se_int))))) (sa_cons ((se_int)) (sa_cons ((se_op o_sub (SE.o ((se_callB c_len rfl T.g_len PyProof.Rows.Boot.«len» (sao_cons (SE.o ((se_var (i := 0)))) sao_nil)))) (SE.o ((se_int))))) sa_nil))))))))))) (sss_one (ss_ret ((se_bl)))) sss_nil) (sss_one (ss_ret ((se_callC C_is_label (hr.mono (by decide)) rfl (takes_of rfl rfl rfl rfl) (sa_cons ((se_tup (sa_star (SE.o ((se_var (i := 1)))) (sa_cons ((se_str)) sa_nil)))) (sa_cons ((se_ix (SE.o ((se_var (i := 2)))) (SE.o ((se_int))))) sa_nil)))))))
def bm_is_choice_s0 : MS := (mIfS (nOr (nNot (fun ls => bnd ((fun ls => bnd ((mCons (mVar 3) (mCons (fun _ => ret (.int 2)) (mCons (fun _ => ret (.int 2)) (fun _ => ret [])))) ls) (callD 3 (m_is_tuple))) ls) truD)) (nNot (fun ls => bnd ((fun ls => bnd ((mCons (m2 ixD (mVar 3) (fun _ => ret (.int 0))) (mCons (fun _ => ret (.int 0)) (mCons (m2 subD (fun ls => bnd ((mCons (mVar 0) (fun _ => ret [])) ls) lenD) (fun _ => ret (.int 1))) (fun _ => ret [])))) ls) (callD 3 (m_is_among))) ls) truD))) (mRet (fun _ => ret (.bl false))) mNil)
def bm_is_choice_s1 : MS := (mRet (mAnd (m2 eqD (m2 ixD (m2 ixD (mVar 0) (m2 ixD (mVar 3) (fun _ => ret (.int 0)))) (fun _ => ret (.int 0))) (m2 ixD (m2 ixD (mVar 0) (mVar 2)) (fun _ => ret (.int 1)))) (fun ls => bnd ((mCons (mVar 1) (mCons (m2 ixD (mVar 3) (fun _ => ret (.int 1))) (mCons (fun _ => ret (.int 3)) (fun _ => ret [])))) ls) (callD 3 (m_are_labels)))))
def bm_is_choice : MS := (mSeq bm_is_choice_s0 bm_is_choice_s1)
def m_is_choice : List D → M D := runF 4 bm_is_choice
theorem ok_is_choice (T : Tells w K mg base) (F : DefF K mg "is_choice" (top 33)) (C_is_tuple : Cal PP w K mg base (TB K) "is_tuple" 1 3 (m_is_tuple)) (C_is_among : Cal PP w K mg base (TB K) "is_among" 2 3 (m_is_among)) (C_are_labels : Cal PP w K mg base (TB K) "are_labels" 2 3 (m_are_labels)) : Cal PP w K mg base (TB K) "is_choice" 3 4 m_is_choice := by
  have S : FnScope ["roads", "labels", "road", "value"] ["roads", "labels", "road", "value"] (defScope (top 33)) := ⟨rfl, rfl, rfl, by decide +kernel, rfl, by decide +kernel, by decide +kernel⟩
  exact F.cal (N := ["roads", "labels", "road", "value"]) (ps := ["roads", "labels", "road", "value"]) S (by decide) (by intro _ _ _ _ _ _ us hl; exact match us, hl with | [_, _, _, _], _ => rfl) fun f cdv A outer s H E hr => (sss_cons (ss_if (STw.st (stw_or (st_not (st_val (SE.o ((se_callC C_is_tuple (hr.mono (by decide)) rfl (takes_of rfl rfl rfl rfl) (sa_cons ((se_var (i := 3))) (sa_cons ((se_int)) (sa_cons ((se_int)) sa_nil)))))))) (stw_or1 (st_not (st_val (SE.o ((se_callC C_is_among (hr.mono (by decide)) rfl (takes_of rfl rfl rfl rfl) (sa_cons ((se_ix (SE.o ((se_var (i := 3)))) (SE.o ((se_int))))) (sa_cons ((se_int)) (sa_cons ((se_op o_sub (SE.o ((se_callB c_len rfl T.g_len PyProof.Rows.Boot.«len» (sao_cons (SE.o ((se_var (i := 0)))) sao_nil)))) (SE.o ((se_int))))) sa_nil))))))))))) (sss_one (ss_ret ((se_bl)))) sss_nil) (sss_one (ss_ret ((se_and (se_cmp (o_eq hr.room) (SE.o ((se_ix (SE.o ((se_ix (SE.o ((se_var (i := 0)))) (SE.o ((se_ix (SE.o ((se_var (i := 3)))) (SE.o ((se_int))))))))) (SE.o ((se_int)))))) (SE.o ((se_ix (SE.o ((se_ix (SE.o ((se_var (i := 0)))) (SE.o ((se_var (i := 2))))))) (SE.o ((se_int))))))) (se_one (se_callC C_are_labels (hr.mono (by decide)) rfl (takes_of rfl rfl rfl rfl) (sa_cons ((se_var (i := 1))) (sa_cons ((se_ix (SE.o ((se_var (i := 3)))) (SE.o ((se_int))))) (sa_cons ((se_gint rfl T.k_MOST_WORD)) sa_nil))))))))))
def bm_is_group_s0 : MS := (mIfS (nOr (nNot (fun ls => bnd ((fun ls => bnd ((mCons (mVar 3) (mCons (fun _ => ret (.int 1)) (mCons (fun _ => ret (.int 3)) (fun _ => ret [])))) ls) (callD 3 (m_is_tuple))) ls) truD)) (nNot (fun ls => bnd ((fun ls => bnd ((mCons (mL (mLc [4] (mSeqI (mVar 3)) (gNm 4) (fun _ => ret true) (fun ls => bnd ((mCons (mVar 0) (mCons (mVar 1) (mCons (mVar 2) (mCons (mVar 4) (fun _ => ret []))))) ls) (callD 4 (m_is_choice))))) (fun _ => ret [])) ls) allD) ls) truD))) (mRet (fun _ => ret (.bl false))) mNil)
def bm_is_group_s1 : MS := (mRet (mNot (fun ls => bnd ((mCons (mL (mLc [5, 4] (mEnumA (mVar 3)) (gTupD 2 (gConsD (gNm 5) (gConsD (gNm 4) gNilD))) (fun _ => ret true) (m2 inD (mVar 4) (mSl (mVar 3) (fun _ => ret none) (fun ls => bnd ((mVar 5) ls) intD))))) (fun _ => ret [])) ls) anyD)))
def bm_is_group : MS := (mSeq bm_is_group_s0 bm_is_group_s1)
def m_is_group : List D → M D := runF 6 bm_is_group
theorem ok_is_group (T : Tells w K mg base) (F : DefF K mg "is_group" (top 34)) (C_is_tuple : Cal PP w K mg base (TB K) "is_tuple" 1 3 (m_is_tuple)) (C_is_choice : Cal PP w K mg base (TB K) "is_choice" 3 4 (m_is_choice)) : Cal PP w K mg base (TB K) "is_group" 4 4 m_is_group := by
  have S : FnScope ["roads", "labels", "road", "value", "one", "place"] ["roads", "labels", "road", "value"] (defScope (top 34)) := ⟨rfl, rfl, rfl, by decide +kernel, rfl, by decide +kernel, by decide +kernel⟩
  exact F.cal (N := ["roads", "labels", "road", "value", "one", "place"]) (ps := ["roads", "labels", "road", "value"]) S (by decide) (by intro _ _ _ _ _ _ us hl; exact match us, hl with | [_, _, _, _], _ => rfl) fun f cdv A outer s H E hr => (sss_cons (ss_if (STw.st (stw_or (st_not (st_val (SE.o ((se_callC C_is_tuple (hr.mono (by decide)) rfl (takes_of rfl rfl rfl rfl) (sa_cons ((se_var (i := 3))) (sa_cons ((se_int)) (sa_cons ((se_gint rfl T.k_MOST_CHOICES)) sa_nil)))))))) (stw_or1 (st_not (st_val (SE.o ((se_callB (c_all rfl) rfl T.g_all PyProof.Rows.Boot.«all» (sao_cons (SE.o ((SL.se (sl_lc (own := [("one", 4)]) (is := [4]) rfl S.nd (si_seqO (SE.o ((se_var (i := 3))))) (blkI ["roads", "labels", "road", "value", "one", "place"] (defScope (top 34)) ⟨rfl, by decide +kernel, by decide +kernel, by decide +kernel, by decide +kernel⟩) (fun s H C cl fp => (sg_name (i := 4) S.nd)) (fun s H C cl fp => sts_nil) (fun s H C cl fp => (se_callC C_is_choice (hr.mono (by decide)) rfl takes0 (sa_cons ((se_var (i := 0))) (sa_cons ((se_var (i := 1))) (sa_cons ((se_var (i := 2))) (sa_cons ((se_var (i := 4))) sa_nil)))))))))) sao_nil))))))))) (sss_one (ss_ret ((se_bl)))) sss_nil) (sss_one (ss_ret ((se_not (se_callB (c_any rfl) rfl T.g_any PyProof.Rows.Boot.«any» (sao_cons (SE.o ((SL.se (sl_lc (own := [("place", 5), ("one", 4)]) (is := [5, 4]) rfl S.nd (si_enumA rfl T.g_enumerate ((se_var (i := 3)))) (blkI ["roads", "labels", "road", "value", "one", "place"] (defScope (top 34)) ⟨rfl, by decide +kernel, by decide +kernel, by decide +kernel, by decide +kernel⟩) (fun s H C cl fp => (sg_tup rfl (sgs_cons (sg_name (i := 5) S.nd) (sgs_cons (sg_name (i := 4) S.nd) sgs_nil)))) (fun s H C cl fp => sts_nil) (fun s H C cl fp => (se_cmp (o_in hr.room) (SE.o ((se_var (i := 4)))) (SE.o ((se_sl (SE.o ((se_var (i := 3)))) sp_none (sp_some ((se_var (i := 5))))))))))))) sao_nil)))))))
def bm_is_row_s0 : MS := (mIfS (nOr (nNot (fun ls => bnd ((fun ls => bnd ((mCons (mVar 2) (mCons (fun _ => ret (.int 2)) (mCons (fun _ => ret (.int 2)) (fun _ => ret [])))) ls) (callD 3 (m_is_tuple))) ls) truD)) (nNot (fun ls => bnd ((fun ls => bnd ((mCons (mVar 0) (mCons (mVar 1) (mCons (m2 ixD (mVar 2) (fun _ => ret (.int 0))) (fun _ => ret [])))) ls) (callD 3 (m_is_key))) ls) truD))) (mRet (fun _ => ret (.bl false))) mNil)
def bm_is_row_s1 : MS := (mIfS (fun ls => bnd ((fun ls => bnd ((mCons (m2 ixD (mVar 2) (fun _ => ret (.int 1))) (mCons (fun _ => ret (.raw (.ty "str"))) (fun _ => ret []))) ls) (isiD isT)) ls) truD) (mRet (m2 eqD (m2 ixD (mVar 2) (fun _ => ret (.int 1))) (fun _ => ret (.str "home")))) mNil)
def bm_is_row_s2 : MS := (mRet (mAnd (fun ls => bnd ((mCons (m2 ixD (mVar 2) (fun _ => ret (.int 1))) (mCons (fun _ => ret (.int 1)) (mCons (fun _ => ret (.int 3)) (fun _ => ret [])))) ls) (callD 3 (m_is_tuple))) (fun ls => bnd ((mCons (mL (mLc [3] (mSeqI (m2 ixD (mVar 2) (fun _ => ret (.int 1)))) (gNm 3) (fun _ => ret true) (fun ls => bnd ((mCons (mVar 0) (mCons (mVar 1) (mCons (m2 ixD (m2 ixD (mVar 2) (fun _ => ret (.int 0))) (fun _ => ret (.int 0))) (mCons (mVar 3) (fun _ => ret []))))) ls) (callD 4 (m_is_group))))) (fun _ => ret [])) ls) allD)))
def bm_is_row : MS := (mSeq bm_is_row_s0 (mSeq bm_is_row_s1 bm_is_row_s2))
def m_is_row : List D → M D := runF 4 bm_is_row
theorem ok_is_row (T : Tells w K mg base) (F : DefF K mg "is_row" (top 35)) (C_is_tuple : Cal PP w K mg base (TB K) "is_tuple" 1 3 (m_is_tuple)) (C_is_key : Cal PP w K mg base (TB K) "is_key" 3 3 (m_is_key)) (C_is_group : Cal PP w K mg base (TB K) "is_group" 4 4 (m_is_group)) : Cal PP w K mg base (TB K) "is_row" 5 3 m_is_row := by
  have S : FnScope ["roads", "labels", "value", "one"] ["roads", "labels", "value"] (defScope (top 35)) := ⟨rfl, rfl, rfl, by decide +kernel, rfl, by decide +kernel, by decide +kernel⟩
  exact F.cal (N := ["roads", "labels", "value", "one"]) (ps := ["roads", "labels", "value"]) S (by decide) (by intro _ _ _ _ _ _ us hl; exact match us, hl with | [_, _, _], _ => rfl) fun f cdv A outer s H E hr => (sss_cons (ss_if (STw.st (stw_or (st_not (st_val (SE.o ((se_callC C_is_tuple (hr.mono (by decide)) rfl (takes_of rfl rfl rfl rfl) (sa_cons ((se_var (i := 2))) (sa_cons ((se_int)) (sa_cons ((se_int)) sa_nil)))))))) (stw_or1 (st_not (st_val (SE.o ((se_callC C_is_key (hr.mono (by decide)) rfl (takes_of rfl rfl rfl rfl) (sa_cons ((se_var (i := 0))) (sa_cons ((se_var (i := 1))) (sa_cons ((se_ix (SE.o ((se_var (i := 2)))) (SE.o ((se_int))))) sa_nil))))))))))) (sss_one (ss_ret ((se_bl)))) sss_nil) (sss_cons (ss_if (st_val (SE.o ((se_callB (c_isi T.is) rfl T.g_isinstance PyProof.Rows.Boot.«isinstance» (sao_cons (SE.o ((se_ix (SE.o ((se_var (i := 2)))) (SE.o ((se_int)))))) (sao_cons (SE.o ((se_bltn (v := .ty "str") rfl T.g_str PyProof.Rows.Boot.«str» rfl))) sao_nil)))))) (sss_one (ss_ret ((se_cmp (o_eq hr.room) (SE.o ((se_ix (SE.o ((se_var (i := 2)))) (SE.o ((se_int)))))) (SE.o ((se_gstr rfl T.k_HOME))))))) sss_nil) (sss_one (ss_ret ((se_and (se_callC C_is_tuple (hr.mono (by decide)) rfl (takes_of rfl rfl rfl rfl) (sa_cons ((se_ix (SE.o ((se_var (i := 2)))) (SE.o ((se_int))))) (sa_cons ((se_int)) (sa_cons ((se_gint rfl T.k_MOST_GROUPS)) sa_nil)))) (se_one (se_callB (c_all rfl) rfl T.g_all PyProof.Rows.Boot.«all» (sao_cons (SE.o ((SL.se (sl_lc (own := [("one", 3)]) (is := [3]) rfl S.nd (si_seqO (SE.o ((se_ix (SE.o ((se_var (i := 2)))) (SE.o ((se_int))))))) (blkI ["roads", "labels", "value", "one"] (defScope (top 35)) ⟨rfl, by decide +kernel, by decide +kernel, by decide +kernel, by decide +kernel⟩) (fun s H C cl fp => (sg_name (i := 3) S.nd)) (fun s H C cl fp => sts_nil) (fun s H C cl fp => (se_callC C_is_group (hr.mono (by decide)) rfl takes0 (sa_cons ((se_var (i := 0))) (sa_cons ((se_var (i := 1))) (sa_cons ((se_ix (SE.o ((se_ix (SE.o ((se_var (i := 2)))) (SE.o ((se_int)))))) (SE.o ((se_int))))) (sa_cons ((se_var (i := 3))) sa_nil)))))))))) sao_nil)))))))))
def bm_need_items_s0 (call : List D → M D) : MS := (mIfS (nNot (fun ls => bnd ((fun ls => bnd ((mCons (mVar 1) (mCons (fun _ => ret (.int 0)) (mCons (mVar 2) (fun _ => ret [])))) ls) (callD 3 (m_is_tuple))) ls) truD)) (fun ls => bnd ((mCons (fun ls => bnd ((mCons (mVar 0) (fun _ => ret [])) ls) tupD) (fun _ => ret [])) ls) fun ds => bnd (mkD a_BadNet ["place"] ds) rzD) mNil)
def lb_need_items_0_s0 (call : List D → M D) : MS := (mIfS (nNot (fun ls => bnd ((mAct 3 call (mCons (mSl (mVar 1) (fun _ => ret none) (fun ls => bnd ((mVar 4) ls) intD)) (mCons (mVar 5) (fun _ => ret [])))) ls) truD)) (fun ls => bnd ((mCons (fun ls => bnd ((mCons (mVar 0) (mCons (mVar 4) (fun _ => ret []))) ls) tupD) (fun _ => ret [])) ls) fun ds => bnd (mkD a_BadNet ["place"] ds) rzD) mNil)
def lb_need_items_0 (call : List D → M D) : MS := (lb_need_items_0_s0 call)
def bm_need_items_s1 (call : List D → M D) : MS := (fun ls => bnd ((mEnumA (mVar 1)) ls) fun ds => loopD (gTupD 2 (gConsD (gNm 4) (gConsD (gNm 5) gNilD))) (lb_need_items_0 call) ds ls)
def bm_need_items (call : List D → M D) : MS := (mSeq (bm_need_items_s0 call) (bm_need_items_s1 call))
theorem ok_need_items (T : Tells w K mg base) (F : DefF K mg "need_items" (top 36)) (C_is_tuple : Cal PP w K mg base (TB K) "is_tuple" 1 3 (m_is_tuple)) : CalL PP w K mg base (TB K) "need_items" 2 ["word", "value", "most", "is_right", "place", "item"] ["word", "value", "most"] "is_right" (defScope (top 36)) bm_need_items := by
  have S : FnScope ["word", "value", "most", "is_right", "place", "item"] ["word", "value", "most", "is_right"] (defScope (top 36)) := ⟨rfl, rfl, rfl, by decide +kernel, rfl, by decide +kernel, by decide +kernel⟩
  exact F.calL (N := ["word", "value", "most", "is_right", "place", "item"]) (psg := ["word", "value", "most"]) (a := "is_right") S (by intro _ _ _ _ _ _ us hl; exact match us, hl with | [_, _, _, _], _ => rfl) fun g q f c B0 call cdv A outer s H E hr act => (sss_cons (ss_if (st_not (st_val (SE.o ((se_callC C_is_tuple (hr.mono (by decide)) rfl (takes_of rfl rfl rfl rfl) (sa_cons ((se_var (i := 1))) (sa_cons ((se_int)) (sa_cons ((se_var (i := 2))) sa_nil)))))))) (sss_one (SX.ss (T.x_BadNet.rz rfl hr.room (takes_of rfl rfl rfl rfl) rfl rfl (sa_cons ((se_tup (sa_cons ((se_var (i := 0))) sa_nil))) sa_nil)))) sss_nil) (sss_one (ss_for (passes_of rfl) rfl (si_enumA rfl T.g_enumerate ((se_var (i := 1)))) (sg_tup rfl (sgs_cons (sg_name (i := 4) S.nd) (sgs_cons (sg_name (i := 5) S.nd) sgs_nil))) (sss_one (ss_if (st_not (st_val (SE.o ((act.z1 (takes_of rfl rfl rfl rfl) (sa_cons ((se_sl (SE.o ((se_var (i := 1)))) sp_none (sp_some ((se_var (i := 4)))))) (sa_cons ((se_var (i := 5))) sa_nil))))))) (sss_one (SX.ss (T.x_BadNet.rz rfl hr.room (takes_of rfl rfl rfl rfl) rfl rfl (sa_cons ((se_tup (sa_cons ((se_var (i := 0))) (sa_cons ((se_var (i := 4))) sa_nil)))) sa_nil)))) sss_nil)))))
def bm_need_net_s0 : MS := (mIfS (nNot (fun ls => bnd ((fun ls => bnd ((mCons (mVar 0) (mCons (fun _ => ret (.int 3)) (mCons (fun _ => ret (.int 3)) (fun _ => ret [])))) ls) (callD 3 (m_is_tuple))) ls) truD)) (fun ls => bnd ((mCons (fun ls => bnd ((fun _ => ret []) ls) tupD) (fun _ => ret [])) ls) fun ds => bnd (mkD a_BadNet ["place"] ds) rzD) mNil)
def bm_need_net_s1 : MS := (fun ls => bnd ((mVar 0) ls) fun d => nxO ((gTupD 3 (gConsD (gNm 1) (gConsD (gNm 2) (gConsD (gNm 3) gNilD)))) d ls))
def bm_need_net_s2 : MS := (mIfS (nNot (fun ls => bnd ((fun ls => bnd ((mCons (mVar 1) (mCons (fun _ => ret (.int 1)) (mCons (fun _ => ret (.int 10)) (fun _ => ret [])))) ls) (callD 3 (m_is_tuple))) ls) truD)) (fun ls => bnd ((mCons (fun ls => bnd ((mCons (fun _ => ret (.str "roads")) (fun _ => ret [])) ls) tupD) (fun _ => ret [])) ls) fun ds => bnd (mkD a_BadNet ["place"] ds) rzD) mNil)
def lam_need_net_0 : Mir D := (fun ls => bnd ((mCons (mVar 1) (fun _ => ret [])) ls) (callD 1 (m_is_road_pair)))
def bm_need_net_s3 : MS := (fun ls => bnd ((fun ls => bnd ((mCons (fun _ => ret (.str "roads")) (mCons (mVar 1) (mCons (fun _ => ret (.int 10)) (fun _ => ret [])))) ls) (runL 6 3 bm_need_items (lamD 2 (capS [] ls) lam_need_net_0))) ls) fun _ => ret (.nx ls))
def bm_need_net_s4 : MS := (mIfS (nNot (fun ls => bnd ((fun ls => bnd ((mCons (mVar 2) (mCons (fun _ => ret (.int 1)) (mCons (fun _ => ret (.int 4)) (fun _ => ret [])))) ls) (callD 3 (m_is_tuple))) ls) truD)) (fun ls => bnd ((mCons (fun ls => bnd ((mCons (fun _ => ret (.str "labels")) (fun _ => ret [])) ls) tupD) (fun _ => ret [])) ls) fun ds => bnd (mkD a_BadNet ["place"] ds) rzD) mNil)
def lam_need_net_1 : Mir D := (mAnd (fun ls => bnd ((mCons (mVar 1) (fun _ => ret [])) ls) (callD 1 (m_is_word))) (mAnd (m2 ninD (mVar 1) (fun ls => bnd ((mCons (fun _ => ret (.str "any")) (mCons (fun _ => ret (.str "all")) (fun _ => ret []))) ls) tupD)) (m2 ninD (mVar 1) (mVar 0))))
def bm_need_net_s5 : MS := (fun ls => bnd ((fun ls => bnd ((mCons (fun _ => ret (.str "labels")) (mCons (mVar 2) (mCons (fun _ => ret (.int 4)) (fun _ => ret [])))) ls) (runL 6 3 bm_need_items (lamD 2 (capS [] ls) lam_need_net_1))) ls) fun _ => ret (.nx ls))
def lam_need_net_2 : Mir D := (mAnd (fun ls => bnd ((mCons (mVar 2) (mCons (mVar 3) (mCons (mVar 1) (fun _ => ret [])))) ls) (callD 3 (m_is_row))) (mOr (m2 eqD (mVar 0) (fun ls => bnd ((fun _ => ret []) ls) tupD)) (m2 ltD (m2 ixD (m2 ixD (mVar 0) (fun ls => bnd ((fun _ => ret (.int 1)) ls) negD)) (fun _ => ret (.int 0))) (m2 ixD (mVar 1) (fun _ => ret (.int 0))))))
def bm_need_net_s6 : MS := (fun ls => bnd ((fun ls => bnd ((mCons (fun _ => ret (.str "rows")) (mCons (mVar 3) (mCons (m2 mulD (fun ls => bnd ((mCons (mVar 1) (fun _ => ret [])) ls) lenD) (m2 addD (fun ls => bnd ((mCons (mVar 2) (fun _ => ret [])) ls) lenD) (fun _ => ret (.int 1)))) (fun _ => ret [])))) ls) (runL 6 3 bm_need_items (lamD 2 (capS [(1, "roads"), (2, "labels")] ls) lam_need_net_2))) ls) fun _ => ret (.nx ls))
def bm_need_net : MS := (mSeq bm_need_net_s0 (mSeq bm_need_net_s1 (mSeq bm_need_net_s2 (mSeq bm_need_net_s3 (mSeq bm_need_net_s4 (mSeq bm_need_net_s5 (mSeq bm_need_net_s6 (mRet (mVar 0)))))))))
def m_need_net : List D → M D := runF 4 bm_need_net
theorem ok_need_net (T : Tells w K mg base) (F : DefL K mg "need_net" (top 37)) (C_is_tuple : Cal PP w K mg base (TB K) "is_tuple" 1 3 (m_is_tuple)) (C_need_items : CalL PP w K mg base (TB K) "need_items" 2 ["word", "value", "most", "is_right", "place", "item"] ["word", "value", "most"] "is_right" (defScope (top 36)) bm_need_items) (C_is_road_pair : Cal PP w K mg base (TB K) "is_road_pair" 3 1 (m_is_road_pair)) (C_is_word : Cal PP w K mg base (TB K) "is_word" 1 1 (m_is_word)) (C_is_row : Cal PP w K mg base (TB K) "is_row" 5 3 (m_is_row)) : Cal PP w K mg base (TB K) "need_net" 8 1 m_need_net := by
  have S : FnScope ["net", "roads", "labels", "rows"] ["net"] (defScope (top 37)) := ⟨rfl, rfl, rfl, by decide +kernel, rfl, by decide +kernel, by decide +kernel⟩
  exact F.cal (N := ["net", "roads", "labels", "rows"]) (ps := ["net"]) S (by decide) (by intro _ _ _ _ _ _ us hl; exact match us, hl with | [_], _ => rfl) fun f cdv A outer s H E hcd hr => (sss_cons (ss_if (st_not (st_val (SE.o ((se_callC C_is_tuple (hr.mono (by decide)) rfl (takes_of rfl rfl rfl rfl) (sa_cons ((se_var (i := 0))) (sa_cons ((se_int)) (sa_cons ((se_int)) sa_nil)))))))) (sss_one (SX.ss (T.x_BadNet.rz rfl hr.room (takes_of rfl rfl rfl rfl) rfl rfl (sa_cons ((se_tup sa_nil)) sa_nil)))) sss_nil) (sss_cons (ss_asg ((se_var (i := 0))) (sg_tup rfl (sgs_cons (sg_name (i := 1) S.nd) (sgs_cons (sg_name (i := 2) S.nd) (sgs_cons (sg_name (i := 3) S.nd) sgs_nil))))) (sss_cons (ss_if (st_not (st_val (SE.o ((se_callC C_is_tuple (hr.mono (by decide)) rfl (takes_of rfl rfl rfl rfl) (sa_cons ((se_var (i := 1))) (sa_cons ((se_int)) (sa_cons ((se_gint rfl T.k_MOST_ROADS)) sa_nil)))))))) (sss_one (SX.ss (T.x_BadNet.rz rfl hr.room (takes_of rfl rfl rfl rfl) rfl rfl (sa_cons ((se_tup (sa_cons ((se_str)) sa_nil))) sa_nil)))) sss_nil) (sss_cons (ss_expr (by exact se_lamC (Ng := ["word", "value", "most", "is_right", "place", "item"]) (psg := ["word", "value", "most"]) (mlam := lam_need_net_0) (k := 3) (ps := ["ahead", "one"]) (cap := []) C_need_items (hr.mono (by decide)) (by decide) rfl (takes_of rfl rfl rfl rfl) (by exact lamP_by (by kernel_rfl)) (by kernel_rfl) (sal_cons (se_str) (sal_cons (se_var (i := 1)) (sal_cons (se_gint rfl T.k_MOST_ROADS) (sal_lam T.tb_need_net hcd rfl (List.mem_of_getElem? (i := 0) rfl) T.hu_need_net rfl (LamP.free (by exact lamP_by (ps := ["ahead", "one"]) (by kernel_rfl))))))) (by intro _ _ _ _ us hl; exact match us, hl with | [_, _], _ => rfl) (fun A outer s H E f c hr => by exact (se_callC C_is_road_pair (hr.mono (by decide)) rfl (takes_of rfl rfl rfl rfl) (sa_cons ((se_var (i := 1))) sa_nil))))) (sss_cons (ss_if (st_not (st_val (SE.o ((se_callC C_is_tuple (hr.mono (by decide)) rfl (takes_of rfl rfl rfl rfl) (sa_cons ((se_var (i := 2))) (sa_cons ((se_int)) (sa_cons ((se_gint rfl T.k_MOST_LABELS)) sa_nil)))))))) (sss_one (SX.ss (T.x_BadNet.rz rfl hr.room (takes_of rfl rfl rfl rfl) rfl rfl (sa_cons ((se_tup (sa_cons ((se_str)) sa_nil))) sa_nil)))) sss_nil) (sss_cons (ss_expr (by exact se_lamC (Ng := ["word", "value", "most", "is_right", "place", "item"]) (psg := ["word", "value", "most"]) (mlam := lam_need_net_1) (k := 1) (ps := ["ahead", "one"]) (cap := []) C_need_items (hr.mono (by decide)) (by decide) rfl (takes_of rfl rfl rfl rfl) (by exact lamP_by (by kernel_rfl)) (by kernel_rfl) (sal_cons (se_str) (sal_cons (se_var (i := 2)) (sal_cons (se_gint rfl T.k_MOST_LABELS) (sal_lam T.tb_need_net hcd rfl (List.mem_of_getElem? (i := 0) rfl) T.hu_need_net rfl (LamP.free (by exact lamP_by (ps := ["ahead", "one"]) (by kernel_rfl))))))) (by intro _ _ _ _ us hl; exact match us, hl with | [_, _], _ => rfl) (fun A outer s H E f c hr => by exact (se_and (se_callC C_is_word (hr.mono (by decide)) rfl (takes_of rfl rfl rfl rfl) (sa_cons ((se_var (i := 1))) sa_nil)) (se_and (se_cmp (o_nin hr.room) (SE.o ((se_var (i := 1)))) (SE.o ((se_tup (sa_cons ((se_gstr rfl T.k_ANY)) (sa_cons ((se_gstr rfl T.k_ALL)) sa_nil)))))) (se_one (se_cmp (o_nin hr.room) (SE.o ((se_var (i := 1)))) (SE.o ((se_var (i := 0))))))))))) (sss_cons (ss_expr (by exact se_lamC (Ng := ["word", "value", "most", "is_right", "place", "item"]) (psg := ["word", "value", "most"]) (mlam := lam_need_net_2) (k := 5) (ps := ["ahead", "one"]) (cap := [(1, "roads"), (2, "labels")]) C_need_items (hr.mono (by decide)) (by decide) rfl (takes_of rfl rfl rfl rfl) (by exact lamP_by (by kernel_rfl)) (by kernel_rfl) (sal_cons (se_str) (sal_cons (se_var (i := 3)) (sal_cons (se_op o_mul (SE.o ((se_callB c_len rfl T.g_len PyProof.Rows.Boot.«len» (sao_cons (SE.o ((se_var (i := 1)))) sao_nil)))) (SE.o ((se_op o_add (SE.o ((se_callB c_len rfl T.g_len PyProof.Rows.Boot.«len» (sao_cons (SE.o ((se_var (i := 2)))) sao_nil)))) (SE.o ((se_int))))))) (sal_lam T.tb_need_net hcd rfl (List.mem_of_getElem? (i := 0) rfl) T.hu_need_net rfl (LamP.free (by exact lamP_by (ps := ["ahead", "one"]) (by kernel_rfl))))))) (by intro _ _ _ _ us hl; exact match us, hl with | [_, _], _ => rfl) (fun A outer s H E f c hr => by exact (se_and (se_callC C_is_row (hr.mono (by decide)) rfl (takes_of rfl rfl rfl rfl) (sa_cons ((se_var (i := 2))) (sa_cons ((se_var (i := 3))) (sa_cons ((se_var (i := 1))) sa_nil)))) (se_one (se_or (se_cmp (o_eq hr.room) (SE.o ((se_var (i := 0)))) (SE.o ((se_tup sa_nil)))) (se_one (se_cmp o_lt (SE.o ((se_ix (SE.o ((se_ix (SE.o ((se_var (i := 0)))) (SE.o ((se_neg (se_int))))))) (SE.o ((se_int)))))) (SE.o ((se_ix (SE.o ((se_var (i := 1)))) (SE.o ((se_int)))))))))))))) (sss_one (ss_ret ((se_var (i := 0))))))))))))
theorem ok_law_mixed (T : Tells w K mg base) (F : DefF K mg "_law_mixed" (top 39)) : Cal PP w K mg base (TB K) "_law_mixed" 1 2 m_law_mixed := by
  have S : FnScope ["cell", "n", "blend"] ["cell", "n"] (defScope (top 39)) := ⟨rfl, rfl, rfl, by decide +kernel, rfl, by decide +kernel, by decide +kernel⟩
  exact F.cal (N := ["cell", "n", "blend"]) (ps := ["cell", "n"]) S (by decide) (by intro _ _ _ _ _ _ us hl; exact match us, hl with | [_, _], _ => rfl) fun f cdv A outer s H E hr => (sss_cons (ss_set (i := 2) S.nd ((se_op o_add (SE.o ((se_op o_add (SE.o ((se_op o_mod (SE.o ((se_callTy c_int rfl T.g_int PyProof.Rows.Boot.«int» (sao_cons (SE.o ((se_op o_mul (SE.o ((se_op o_mul (SE.o ((se_var (i := 0)))) (SE.o ((se_op o_add (SE.o ((se_int))) (SE.o ((se_op o_mul (SE.o ((se_int))) (SE.o ((se_var (i := 1))))))))))))) (SE.o ((se_int)))))) sao_nil)))) (SE.o ((se_int)))))) (SE.o ((se_op o_mul (SE.o ((se_op o_mul (SE.o ((se_int))) (SE.o ((se_var (i := 1))))))) (SE.o ((se_var (i := 1)))))))))) (SE.o ((se_op o_mul (SE.o ((se_int))) (SE.o ((se_var (i := 1)))))))))) (sss_one (ss_ret ((se_op o_fdiv (SE.o ((se_op o_mod (SE.o ((se_callTy c_int rfl T.g_int PyProof.Rows.Boot.«int» (sao_cons (SE.o ((se_op o_mul (SE.o ((se_var (i := 2)))) (SE.o ((se_int)))))) sao_nil)))) (SE.o ((se_int)))))) (SE.o ((se_int))))))))
theorem ok_law_folded (T : Tells w K mg base) (F : DefF K mg "_law_folded" (top 40)) : Cal PP w K mg base (TB K) "_law_folded" 2 1 m_law_folded := by
  have S : FnScope ["script", "found", "n", "cell"] ["script"] (defScope (top 40)) := ⟨rfl, rfl, rfl, by decide +kernel, rfl, by decide +kernel, by decide +kernel⟩
  exact F.cal (N := ["script", "found", "n", "cell"]) (ps := ["script"]) S (by decide) (by intro _ _ _ _ _ _ us hl; exact match us, hl with | [_], _ => rfl) fun f cdv A outer s H E hr => (sss_cons (ss_setLcO (i := 1) rfl S.nd rfl (own := [("n", 2)]) (is := [2]) (si_range1 rfl T.g_range (sa_cons ((se_int)) sa_nil)) (blkI ["script", "found", "n", "cell"] (defScope (top 40)) ⟨rfl, by decide +kernel, by decide +kernel, by decide +kernel, by decide +kernel⟩) (fun s H C cl fp => (sg_name (i := 2) S.nd)) (fun s H C cl fp => sts_nil) (fun s H C cl fp => (se_op o_add (SE.o ((se_int))) (SE.o ((se_var (i := 2))))))) (sss_cons (ss_for (passes_of rfl) rfl (si_enum rfl T.g_enumerate ((se_var (i := 0)))) (sg_tup rfl (sgs_cons (sg_name (i := 2) S.nd) (sgs_cons (sg_name (i := 3) S.nd) sgs_nil))) (sss_one (ss_setIx (i := 1) ((se_op o_mod (SE.o ((se_callTy c_int rfl T.g_int PyProof.Rows.Boot.«int» (sao_cons (SE.o ((se_op o_add (SE.o ((se_op o_mul (SE.o ((se_ix (so_own (i := 1)) (SE.o ((se_op o_mod (SE.o ((se_callTy c_int rfl T.g_int PyProof.Rows.Boot.«int» (sao_cons (SE.o ((se_var (i := 2)))) sao_nil)))) (SE.o ((se_int))))))))) (SE.o ((se_int)))))) (SE.o ((se_var (i := 3))))))) sao_nil)))) (SE.o ((se_int))))) ((se_op o_mod (SE.o ((se_callTy c_int rfl T.g_int PyProof.Rows.Boot.«int» (sao_cons (SE.o ((se_var (i := 2)))) sao_nil)))) (SE.o ((se_int)))))))) (sss_cons (ss_for (passes_of rfl) rfl (si_range2 rfl T.g_range (sa_cons ((se_int)) (sa_cons ((se_int)) sa_nil))) (sg_name (i := 2) S.nd) (sss_one (ss_setIx (i := 1) ((se_op o_mod (SE.o ((se_callTy c_int rfl T.g_int PyProof.Rows.Boot.«int» (sao_cons (SE.o ((se_op o_add (SE.o ((se_ix (so_own (i := 1)) (SE.o ((se_var (i := 2))))))) (SE.o ((se_op o_mul (SE.o ((se_ix (so_own (i := 1)) (SE.o ((se_op o_sub (SE.o ((se_var (i := 2)))) (SE.o ((se_int))))))))) (SE.o ((se_int))))))))) sao_nil)))) (SE.o ((se_int))))) ((se_var (i := 2)))))) (sss_one (ss_retOwn (i := 1))))))
theorem ok_draw (T : Tells w K mg base) (F : DefF K mg "_law_draw" (top 41)) (C : Cal PP w K mg base (TB K) "_law_mixed" 1 2 mixM) : Cal PP w K mg base (TB K) "_law_draw" 2 2 drawM := by
  have S : FnScope ["m", "limit", "n", "lot", "here", "cell"] ["m", "limit"] (defScope (top 41)) := ⟨rfl, rfl, rfl, by decide +kernel, rfl, by decide +kernel, by decide +kernel⟩
  refine CalS.cal (F.calS (N := ["m", "limit", "n", "lot", "here", "cell"]) (ps := ["m", "limit"]) S (fun vs H Q E h => h.1) (by intro _ _ _ _ _ _ us hl; exact match us, hl with | [_, _], _ => rfl) fun f cdv A outer s H vs Q E hr h => ?_)
  have hu : (A.deeper (envOfC "_law_draw" (defScope (top 41)) s.heap.objs.size f cdv)).units + 64 < cLine := by have := hr.room.un; omega
  have hu1 : (A.deeper (envOfC "_law_draw" (defScope (top 41)) s.heap.objs.size f cdv)).units + 1 < cLine := by have := hr.room.un; omega
  refine ⟨_, pss_cons (ps_set (i := 2) S.nd rfl (Or.inl rfl) (pe_dget hu1 (pv 0) pe_str (fun _ _ => rfl)))
    (pss_cons (ps_dput hu1 (pv 0) pe_str (pe_op op_add (pv 2) pe_int) rfl)
    (pss_cons (ps_if (pt_cmpR (op_neD hu) (pe_dget hu1 (pv 0) pe_str (fun _ _ => rfl)) (pe_lst pa_nil) (nomark _))
      (pss_cons (ps_set (i := 3) S.nd rfl (Or.inl rfl) (pe_dget hu1 (pv 0) pe_str (fun _ _ => rfl)))
      (pss_cons (ps_set (i := 4) S.nd rfl (Or.inl rfl) (pe_op op_mod (pe_callTy call_int1 rfl T.g_int PyProof.Rows.Boot.«int» (pa_cons (pv 2) pa_nil)) (pe_callB call_len rfl T.g_len PyProof.Rows.Boot.«len» (pa_cons (pv 3) pa_nil))))
      (pss_cons (ps_set (i := 5) S.nd rfl (Or.inl rfl) (pe_ix ix_list (pv 3) (pv 4) (fun _ _ => rfl)))
      (pss_one (ps_if (pt_cmp (pc_gt (pv 5) pe_int)) (pss_cons (ps_asg (pe_op op_fdiv (pv 5) (pv 1)) (pg_sub (pv 3) (pv 4) set_list)) (pss_one (ps_ret (pe_op op_mod (pe_callTy call_int1 rfl T.g_int PyProof.Rows.Boot.«int» (pa_cons (pv 5) pa_nil)) (pv 1))))) pss_nil)))))
      pss_nil)
    (pss_cons (ps_set (i := 3) S.nd rfl (Or.inl rfl) (pe_dget hu1 (pv 0) pe_str (fun _ _ => rfl)))
    (pss_one (ps_ret (pe_op op_mod (pe_callTy call_int1 rfl T.g_int PyProof.Rows.Boot.«int» (pa_cons (pe_calG C hr rfl (takes_of rfl rfl rfl rfl) (pa_cons (pe_calG C hr rfl (takes_of rfl rfl rfl rfl) (pa_cons
       (pe_op op_add (pe_ix ix_list (pv 3) (pe_op op_mod (pe_callTy call_int1 rfl T.g_int PyProof.Rows.Boot.«int» (pa_cons (pv 2) pa_nil)) pe_int) (fun _ _ => rfl)) (pe_op op_mul pe_int (pe_op op_fdiv (pv 2) pe_int))) (pa_cons (pv 2) pa_nil))) (pa_cons (pe_op op_add (pv 2) pe_int) pa_nil))) pa_nil)) (pv 1))))))), ?_⟩
  exact draw_read (K := K) (T := TB K) (Wx := EW E) rfl h
theorem ok_begun (T : Tells w K mg base) (F : DefF K mg "_law_begun" (top 42)) (C : Cal PP w K mg base (TB K) "_law_folded" 2 1 m_law_folded) : CalS PP w K mg base "_law_begun" 3 (spB K (TB K)) := by
  have S : FnScope ["script", "m", "cell"] ["script"] (defScope (top 42)) := ⟨rfl, rfl, rfl, by decide +kernel, rfl, by decide +kernel, by decide +kernel⟩
  refine F.calS (N := ["script", "m", "cell"]) (ps := ["script"]) S (fun vs H Q E h => by obtain ⟨a, ns, rfl, _⟩ := h; rfl) (by intro _ _ _ _ _ _ us hl; exact match us, hl with | [_], _ => rfl) fun f cdv A outer s H vs Q E hr h => ?_
  have hu1 : (A.deeper (envOfC "_law_begun" (defScope (top 42)) s.heap.objs.size f cdv)).units + 1 < cLine := by have := hr.room.un; omega
  have W : SL (G0 (TB K)) (cxOf (L2.CX PP w) PP w K mg base ["script", "m", "cell"] "_law_begun" (defScope (top 42)) f cdv A outer s H E) (EW E) (compOf ((defBody (top 42)).getD 1 (.Pass ⟨0, 0, 0, 0⟩))) mGr := (sl_lc (own := [("cell", 2)]) (is := [2]) rfl S.nd (si_scr ((se_var (i := 0)))) (blkI ["script", "m", "cell"] (defScope (top 42)) ⟨rfl, by decide +kernel, by decide +kernel, by decide +kernel, by decide +kernel⟩) (fun s H C cl fp => (sg_name (i := 2) S.nd)) (fun s H C cl fp => sts_nil) (fun s H C cl fp => (se_if (st_cmp o_ge (SE.o ((se_var (i := 2)))) (SE.o ((se_op o_pow (SE.o ((se_int))) (SE.o ((se_int))))))) (se_var (i := 2)) (se_int))))
  obtain ⟨tl, pl, hl⟩ := W.ex
  refine ⟨_, pss_cons (ps_set (i := 1) S.nd rfl (Or.inl rfl) (pe_disp (pps_cons pe_str (pe_calG C hr rfl (takes_of rfl rfl rfl rfl) (pa_cons (pv 0) pa_nil)) (pps_cons pe_str (pe_lst pa_nil) (pps_cons pe_str pe_int pps_nil))) rfl rfl (by simp) (by decide)))
    (pss_cons (ps_dput hu1 (pv 1) pe_str pl rfl) (pss_one (ps_ret (pv 1)))), ?_⟩
  exact begun_read (K := K) (Wx := EW E) rfl hl h
def bm_law_each_right_s0 : MS := (fun ls => bnd ((mL (fun ls => bnd ((mCons (fun ls => bnd ((mCons (mVar 0) (fun _ => ret [])) ls) (mkD a_BadNet ["place"])) (mCons (fun ls => bnd ((mCons (mVar 0) (fun _ => ret [])) ls) (mkD a_BadNumber ["value"])) (mCons (fun ls => bnd ((mCons (mVar 0) (fun _ => ret [])) ls) (mkD a_BadRoad ["value"])) (mCons (fun ls => bnd ((mCons (mVar 0) (fun _ => ret [])) ls) (mkD a_BadHead ["value"])) (mCons (fun ls => bnd ((mCons (mVar 0) (fun _ => ret [])) ls) (mkD a_BadFailed ["value"])) (mCons (fun ls => bnd ((mCons (mVar 0) (fun _ => ret [])) ls) (mkD a_BadParcel ["value"])) (mCons (fun ls => bnd ((mCons (mVar 0) (fun _ => ret [])) ls) (mkD a_BadChoices ["place"])) (mCons (fun ls => bnd ((mCons (mVar 0) (fun _ => ret [])) ls) (mkD a_BadShape ["value"])) (fun _ => ret []))))))))) ls) lstD)) ls) fun d => ret (.nx (ls.set 1 (.va d))))
def bm_law_each_right_s1 : MS := (fun ls => bnd ((mL (fun ls => bnd ((mVar 1) ls) fun x => bnd ((mL (fun ls => bnd ((mCons (fun ls => bnd ((mCons (mVar 0) (fun _ => ret [])) ls) (mkD a_BadGoal ["value"])) (mCons (fun ls => bnd ((mCons (mVar 0) (fun _ => ret [])) ls) (mkD a_BadPaper ["word"])) (mCons (fun ls => bnd ((mCons (mVar 0) (fun _ => ret [])) ls) (mkD a_TooGreat ["most"])) (fun _ => ret [])))) ls) lstD)) ls) fun y => catD x y)) ls) fun d => ret (.nx (ls.set 1 (.va d))))
def bm_law_each_right_s2 : MS := (fun ls => bnd ((mL (fun ls => bnd ((mCons (fun ls => bnd ((m2 ixD (mVar 1) (fun _ => ret (.int 0))) ls) (atD atT "place")) (mCons (fun ls => bnd ((m2 ixD (mVar 1) (fun _ => ret (.int 6))) ls) (atD atT "place")) (mCons (fun ls => bnd ((m2 ixD (mVar 1) (fun _ => ret (.int 9))) ls) (atD atT "word")) (mCons (fun ls => bnd ((m2 ixD (mVar 1) (fun _ => ret (.int 10))) ls) (atD atT "most")) (mCons (fun ls => bnd ((fun ls => bnd ((mCons (mVar 0) (fun _ => ret [])) ls) (mkD a_BadNet ["place"])) ls) (atD atT "place")) (mCons (fun ls => bnd ((fun ls => bnd ((mCons (mVar 0) (fun _ => ret [])) ls) (mkD a_BadNumber ["value"])) ls) (atD atT "value")) (fun _ => ret []))))))) ls) lstD)) ls) fun d => ret (.nx (ls.set 2 (.va d))))
def bm_law_each_right_s3 : MS := (fun ls => bnd ((mL (fun ls => bnd ((mL (fun ls => bnd ((mVar 2) ls) fun x => bnd ((mL (mLc [7] (mSeqI (fun ls => bnd ((mCons (fun _ => ret (.int 1)) (mCons (fun _ => ret (.int 2)) (mCons (fun _ => ret (.int 3)) (mCons (fun _ => ret (.int 4)) (mCons (fun _ => ret (.int 5)) (mCons (fun _ => ret (.int 7)) (mCons (fun _ => ret (.int 8)) (fun _ => ret [])))))))) ls) tupD)) (gNm 7) (fun _ => ret true) (fun ls => bnd ((m2 ixD (mVar 1) (mVar 7)) ls) (atD atT "value")))) ls) fun y => catD x y)) ls) fun x => bnd ((mL (fun ls => bnd ((mCons (fun ls => bnd ((fun ls => bnd ((mCons (mVar 0) (fun _ => ret [])) ls) (mkD a_BadRoad ["value"])) ls) (atD atT "value")) (mCons (fun ls => bnd ((fun ls => bnd ((mCons (mVar 0) (fun _ => ret [])) ls) (mkD a_BadHead ["value"])) ls) (atD atT "value")) (fun _ => ret []))) ls) lstD)) ls) fun y => catD x y)) ls) fun d => ret (.nx (ls.set 2 (.va d))))
def bm_law_each_right_s4 : MS := (fun ls => bnd ((mL (fun ls => bnd ((mVar 2) ls) fun x => bnd ((mL (fun ls => bnd ((mCons (fun ls => bnd ((fun ls => bnd ((mCons (mVar 0) (fun _ => ret [])) ls) (mkD a_BadFailed ["value"])) ls) (atD atT "value")) (mCons (fun ls => bnd ((fun ls => bnd ((mCons (mVar 0) (fun _ => ret [])) ls) (mkD a_BadParcel ["value"])) ls) (atD atT "value")) (mCons (fun ls => bnd ((fun ls => bnd ((mCons (mVar 0) (fun _ => ret [])) ls) (mkD a_BadChoices ["place"])) ls) (atD atT "place")) (fun _ => ret [])))) ls) lstD)) ls) fun y => catD x y)) ls) fun d => ret (.nx (ls.set 2 (.va d))))
def bm_law_each_right_s5 : MS := (fun ls => bnd ((mL (fun ls => bnd ((mVar 2) ls) fun x => bnd ((mL (fun ls => bnd ((mCons (fun ls => bnd ((fun ls => bnd ((mCons (mVar 0) (fun _ => ret [])) ls) (mkD a_BadShape ["value"])) ls) (atD atT "value")) (mCons (fun ls => bnd ((fun ls => bnd ((mCons (mVar 0) (fun _ => ret [])) ls) (mkD a_BadGoal ["value"])) ls) (atD atT "value")) (mCons (fun ls => bnd ((fun ls => bnd ((mCons (mVar 0) (fun _ => ret [])) ls) (mkD a_BadPaper ["word"])) ls) (atD atT "word")) (mCons (fun ls => bnd ((fun ls => bnd ((mCons (mVar 0) (fun _ => ret [])) ls) (mkD a_TooGreat ["most"])) ls) (atD atT "most")) (fun _ => ret []))))) ls) lstD)) ls) fun y => catD x y)) ls) fun d => ret (.nx (ls.set 2 (.va d))))
def bm_law_each_right_s6 : MS := (mIfS (fun ls => bnd (m2 neD (mL (mLc [4] (mSeqI (mVar 2)) (gNm 4) (fun ls => bnd (m2 neD (fun ls => bnd ((mCons (mVar 4) (fun _ => ret [])) ls) reprD) (fun ls => bnd ((mCons (mVar 0) (fun _ => ret [])) ls) reprD) ls) boD) (mVar 4))) (mL (fun ls => bnd ((fun _ => ret []) ls) lstD)) ls) boD) (mRet (fun _ => ret (.bl false))) mNil)
def lb_law_each_right_0_s0 : MS := (fun ls => bnd ((fun ls => bnd ((mCons (fun ls => bnd ((mCons (mVar 4) (mCons (fun _ => ret (.raw (.ref a_BadNet))) (fun _ => ret []))) ls) (isiD isT)) (mCons (fun ls => bnd ((mCons (mVar 4) (mCons (fun _ => ret (.raw (.ref a_BadNumber))) (fun _ => ret []))) ls) (isiD isT)) (mCons (fun ls => bnd ((mCons (mVar 4) (mCons (fun _ => ret (.raw (.ref a_BadRoad))) (fun _ => ret []))) ls) (isiD isT)) (fun _ => ret [])))) ls) lstD) ls) fun ds => ret (.nx (ls.set 5 (.ow ds))))
def lb_law_each_right_0_s1 : MS := (fun ls => bnd ((fun ls => bnd ((mOwn 5) ls) fun x => bnd ((mL (fun ls => bnd ((mCons (fun ls => bnd ((mCons (mVar 4) (mCons (fun _ => ret (.raw (.ref a_BadHead))) (fun _ => ret []))) ls) (isiD isT)) (mCons (fun ls => bnd ((mCons (mVar 4) (mCons (fun _ => ret (.raw (.ref a_BadFailed))) (fun _ => ret []))) ls) (isiD isT)) (mCons (fun ls => bnd ((mCons (mVar 4) (mCons (fun _ => ret (.raw (.ref a_BadParcel))) (fun _ => ret []))) ls) (isiD isT)) (fun _ => ret [])))) ls) lstD)) ls) fun y => catD x y) ls) fun ds => ret (.nx (ls.set 5 (.ow ds))))
def lb_law_each_right_0_s2 : MS := (mApp 5 (fun ls => bnd ((mCons (mVar 4) (mCons (fun _ => ret (.raw (.ref a_BadChoices))) (fun _ => ret []))) ls) (isiD isT)))
def lb_law_each_right_0_s3 : MS := (fun ls => bnd ((fun ls => bnd ((mOwn 5) ls) fun x => bnd ((mL (fun ls => bnd ((mCons (fun ls => bnd ((mCons (mVar 4) (mCons (fun _ => ret (.raw (.ref a_BadShape))) (fun _ => ret []))) ls) (isiD isT)) (mCons (fun ls => bnd ((mCons (mVar 4) (mCons (fun _ => ret (.raw (.ref a_BadGoal))) (fun _ => ret []))) ls) (isiD isT)) (mCons (fun ls => bnd ((mCons (mVar 4) (mCons (fun _ => ret (.raw (.ref a_BadPaper))) (fun _ => ret []))) ls) (isiD isT)) (fun _ => ret [])))) ls) lstD)) ls) fun y => catD x y) ls) fun ds => ret (.nx (ls.set 5 (.ow ds))))
def lb_law_each_right_0_s4 : MS := (mIfS (fun ls => bnd (m2 neD (mL (fun ls => bnd ((mOwn 5) ls) fun x => bnd ((mL (fun ls => bnd ((mCons (fun ls => bnd ((mCons (mVar 4) (mCons (fun _ => ret (.raw (.ref a_TooGreat))) (fun _ => ret []))) ls) (isiD isT)) (fun _ => ret [])) ls) lstD)) ls) fun y => catD x y)) (mL (mLc [7] (fun ls => bnd ((mCons (fun _ => ret (.int 11)) (fun _ => ret [])) ls) rng1D) (gNm 7) (fun _ => ret true) (m2 eqD (mVar 7) (mVar 3)))) ls) boD) (mRet (fun _ => ret (.bl false))) mNil)
def lb_law_each_right_0_s5 : MS := (fun ls => bnd ((mL (fun ls => bnd ((mCons (fun ls => bnd ((mCons (mVar 4) (mCons (fun _ => ret (.raw (.ref a_NetError))) (fun _ => ret []))) ls) (isiD isT)) (mCons (fun ls => bnd ((mCons (mVar 4) (mCons (fun _ => ret (.raw (.ty "ValueError"))) (fun _ => ret []))) ls) (isiD isT)) (mCons (fun ls => bnd ((mCons (mVar 4) (mCons (fun _ => ret (.raw (.ty "OverflowError"))) (fun _ => ret []))) ls) (isiD isT)) (fun _ => ret [])))) ls) lstD)) ls) fun d => ret (.nx (ls.set 6 (.va d))))
def lb_law_each_right_0_s6 : MS := (mIfS (fun ls => bnd (m2 neD (mVar 6) (mL (fun ls => bnd ((mCons (m2 ltD (mVar 3) (fun _ => ret (.int 10))) (mCons (m2 ltD (mVar 3) (fun _ => ret (.int 10))) (mCons (m2 eqD (mVar 3) (fun _ => ret (.int 10))) (fun _ => ret [])))) ls) lstD)) ls) boD) (mRet (fun _ => ret (.bl false))) mNil)
def lb_law_each_right_0 : MS := (mSeq lb_law_each_right_0_s0 (mSeq lb_law_each_right_0_s1 (mSeq lb_law_each_right_0_s2 (mSeq lb_law_each_right_0_s3 (mSeq lb_law_each_right_0_s4 (mSeq lb_law_each_right_0_s5 lb_law_each_right_0_s6))))))
def bm_law_each_right_s7 : MS := (fun ls => bnd ((mEnumA (mVar 1)) ls) fun ds => loopD (gTupD 2 (gConsD (gNm 3) (gConsD (gNm 4) gNilD))) lb_law_each_right_0 ds ls)
def bm_law_each_right : MS := (mSeq bm_law_each_right_s0 (mSeq bm_law_each_right_s1 (mSeq bm_law_each_right_s2 (mSeq bm_law_each_right_s3 (mSeq bm_law_each_right_s4 (mSeq bm_law_each_right_s5 (mSeq bm_law_each_right_s6 (mSeq bm_law_each_right_s7 (mRet (fun _ => ret (.bl true)))))))))))
def m_law_each_right : List D → M D := runF 8 bm_law_each_right
theorem ok_law_each_right (T : Tells w K mg base) (F : DefF K mg "_law_each_right" (top 43)) : Cal PP w K mg base (TB K) "_law_each_right" 3 1 m_law_each_right := by
  have S : FnScope ["q", "pack", "heard", "at", "one", "known", "kinds_so", "k"] ["q"] (defScope (top 43)) := ⟨rfl, rfl, rfl, by decide +kernel, rfl, by decide +kernel, by decide +kernel⟩
  exact F.cal (N := ["q", "pack", "heard", "at", "one", "known", "kinds_so", "k"]) (ps := ["q"]) S (by decide) (by intro _ _ _ _ _ _ us hl; exact match us, hl with | [_], _ => rfl) fun f cdv A outer s H E hr => (sss_cons (ss_set (i := 1) S.nd ((SL.se (sl_lst (sa_cons ((T.x_BadNet.a hr.room (takes_of rfl rfl rfl rfl) rfl (sa_cons ((se_var (i := 0))) sa_nil))) (sa_cons ((T.x_BadNumber.a hr.room (takes_of rfl rfl rfl rfl) rfl (sa_cons ((se_var (i := 0))) sa_nil))) (sa_cons ((T.x_BadRoad.a hr.room (takes_of rfl rfl rfl rfl) rfl (sa_cons ((se_var (i := 0))) sa_nil))) (sa_cons ((T.x_BadHead.a hr.room (takes_of rfl rfl rfl rfl) rfl (sa_cons ((se_var (i := 0))) sa_nil))) (sa_cons ((T.x_BadFailed.a hr.room (takes_of rfl rfl rfl rfl) rfl (sa_cons ((se_var (i := 0))) sa_nil))) (sa_cons ((T.x_BadParcel.a hr.room (takes_of rfl rfl rfl rfl) rfl (sa_cons ((se_var (i := 0))) sa_nil))) (sa_cons ((T.x_BadChoices.a hr.room (takes_of rfl rfl rfl rfl) rfl (sa_cons ((se_var (i := 0))) sa_nil))) (sa_cons ((T.x_BadShape.a hr.room (takes_of rfl rfl rfl rfl) rfl (sa_cons ((se_var (i := 0))) sa_nil))) sa_nil)))))))))))) (sss_cons (ss_set (i := 1) S.nd ((SL.se (sl_cat (SE.o ((se_var (i := 1)))) (SE.o ((SL.se (sl_lst (sa_cons ((T.x_BadGoal.a hr.room (takes_of rfl rfl rfl rfl) rfl (sa_cons ((se_var (i := 0))) sa_nil))) (sa_cons ((T.x_BadPaper.a hr.room (takes_of rfl rfl rfl rfl) rfl (sa_cons ((se_var (i := 0))) sa_nil))) (sa_cons ((T.x_TooGreat.a hr.room (takes_of rfl rfl rfl rfl) rfl (sa_cons ((se_var (i := 0))) sa_nil))) sa_nil))))))))))) (sss_cons (ss_set (i := 2) S.nd ((SL.se (sl_lst (sa_cons ((se_attr T.at_ (se_ix (SE.o ((se_var (i := 1)))) (SE.o ((se_int)))))) (sa_cons ((se_attr T.at_ (se_ix (SE.o ((se_var (i := 1)))) (SE.o ((se_int)))))) (sa_cons ((se_attr T.at_ (se_ix (SE.o ((se_var (i := 1)))) (SE.o ((se_int)))))) (sa_cons ((se_attr T.at_ (se_ix (SE.o ((se_var (i := 1)))) (SE.o ((se_int)))))) (sa_cons ((se_attr T.at_ (T.x_BadNet.kw hr.room (takes_of rfl rfl rfl rfl) rfl (sk_cons ((se_var (i := 0))) sk_nil)))) (sa_cons ((se_attr T.at_ (T.x_BadNumber.kw hr.room (takes_of rfl rfl rfl rfl) rfl (sk_cons ((se_var (i := 0))) sk_nil)))) sa_nil)))))))))) (sss_cons (ss_set (i := 2) S.nd ((SL.se (sl_cat (SE.o ((SL.se (sl_cat (SE.o ((se_var (i := 2)))) (SE.o ((SL.se (sl_lc (own := [("k", 7)]) (is := [7]) rfl S.nd (si_seqO (SE.o ((se_tup (sa_cons ((se_int)) (sa_cons ((se_int)) (sa_cons ((se_int)) (sa_cons ((se_int)) (sa_cons ((se_int)) (sa_cons ((se_int)) (sa_cons ((se_int)) sa_nil))))))))))) (blkI ["q", "pack", "heard", "at", "one", "known", "kinds_so", "k"] (defScope (top 43)) ⟨rfl, by decide +kernel, by decide +kernel, by decide +kernel, by decide +kernel⟩) (fun s H C cl fp => (sg_name (i := 7) S.nd)) (fun s H C cl fp => sts_nil) (fun s H C cl fp => (se_attr T.at_ (se_ix (SE.o ((se_var (i := 1)))) (SE.o ((se_var (i := 7))))))))))))))) (SE.o ((SL.se (sl_lst (sa_cons ((se_attr T.at_ (T.x_BadRoad.kw hr.room (takes_of rfl rfl rfl rfl) rfl (sk_cons ((se_var (i := 0))) sk_nil)))) (sa_cons ((se_attr T.at_ (T.x_BadHead.kw hr.room (takes_of rfl rfl rfl rfl) rfl (sk_cons ((se_var (i := 0))) sk_nil)))) sa_nil)))))))))) (sss_cons (ss_set (i := 2) S.nd ((SL.se (sl_cat (SE.o ((se_var (i := 2)))) (SE.o ((SL.se (sl_lst (sa_cons ((se_attr T.at_ (T.x_BadFailed.kw hr.room (takes_of rfl rfl rfl rfl) rfl (sk_cons ((se_var (i := 0))) sk_nil)))) (sa_cons ((se_attr T.at_ (T.x_BadParcel.kw hr.room (takes_of rfl rfl rfl rfl) rfl (sk_cons ((se_var (i := 0))) sk_nil)))) (sa_cons ((se_attr T.at_ (T.x_BadChoices.kw hr.room (takes_of rfl rfl rfl rfl) rfl (sk_cons ((se_var (i := 0))) sk_nil)))) sa_nil))))))))))) (sss_cons (ss_set (i := 2) S.nd ((SL.se (sl_cat (SE.o ((se_var (i := 2)))) (SE.o ((SL.se (sl_lst (sa_cons ((se_attr T.at_ (T.x_BadShape.kw hr.room (takes_of rfl rfl rfl rfl) rfl (sk_cons ((se_var (i := 0))) sk_nil)))) (sa_cons ((se_attr T.at_ (T.x_BadGoal.kw hr.room (takes_of rfl rfl rfl rfl) rfl (sk_cons ((se_var (i := 0))) sk_nil)))) (sa_cons ((se_attr T.at_ (T.x_BadPaper.kw hr.room (takes_of rfl rfl rfl rfl) rfl (sk_cons ((se_var (i := 0))) sk_nil)))) (sa_cons ((se_attr T.at_ (T.x_TooGreat.kw hr.room (takes_of rfl rfl rfl rfl) rfl (sk_cons ((se_var (i := 0))) sk_nil)))) sa_nil)))))))))))) (sss_cons (ss_if (st_cmp (o_ne hr.room) (SE.o ((SL.se (sl_lc (own := [("one", 4)]) (is := [4]) rfl S.nd (si_seqO (SE.o ((se_var (i := 2))))) (blkI ["q", "pack", "heard", "at", "one", "known", "kinds_so", "k"] (defScope (top 43)) ⟨rfl, by decide +kernel, by decide +kernel, by decide +kernel, by decide +kernel⟩) (fun s H C cl fp => (sg_name (i := 4) S.nd)) (fun s H C cl fp => (sts_one (st_cmp (o_ne hr.room) (SE.o ((se_callB (c_repr hr T.sm) rfl T.g_repr PyProof.Rows.Boot.«repr» (sao_cons (SE.o ((se_var (i := 4)))) sao_nil)))) (SE.o ((se_callB (c_repr hr T.sm) rfl T.g_repr PyProof.Rows.Boot.«repr» (sao_cons (SE.o ((se_var (i := 0)))) sao_nil))))))) (fun s H C cl fp => (se_var (i := 4))))))) (SE.o ((SL.se (sl_lst sa_nil))))) (sss_one (ss_ret ((se_bl)))) sss_nil) (sss_cons (ss_for (passes_of rfl) rfl (si_enumA rfl T.g_enumerate ((se_var (i := 1)))) (sg_tup rfl (sgs_cons (sg_name (i := 3) S.nd) (sgs_cons (sg_name (i := 4) S.nd) sgs_nil))) (sss_cons (ss_setL (i := 5) S.nd (sl_lst (sa_cons ((se_callB (c_isi T.is) rfl T.g_isinstance PyProof.Rows.Boot.«isinstance» (sao_cons (SE.o ((se_var (i := 4)))) (sao_cons (SE.o ((se_glob (v := .ref a_BadNet) rfl T.g_BadNet rfl (fun _ => .raw _)))) sao_nil)))) (sa_cons ((se_callB (c_isi T.is) rfl T.g_isinstance PyProof.Rows.Boot.«isinstance» (sao_cons (SE.o ((se_var (i := 4)))) (sao_cons (SE.o ((se_glob (v := .ref a_BadNumber) rfl T.g_BadNumber rfl (fun _ => .raw _)))) sao_nil)))) (sa_cons ((se_callB (c_isi T.is) rfl T.g_isinstance PyProof.Rows.Boot.«isinstance» (sao_cons (SE.o ((se_var (i := 4)))) (sao_cons (SE.o ((se_glob (v := .ref a_BadRoad) rfl T.g_BadRoad rfl (fun _ => .raw _)))) sao_nil)))) sa_nil))))) (sss_cons (ss_setL (i := 5) S.nd (sl_cat (so_own (i := 5)) (SE.o ((SL.se (sl_lst (sa_cons ((se_callB (c_isi T.is) rfl T.g_isinstance PyProof.Rows.Boot.«isinstance» (sao_cons (SE.o ((se_var (i := 4)))) (sao_cons (SE.o ((se_glob (v := .ref a_BadHead) rfl T.g_BadHead rfl (fun _ => .raw _)))) sao_nil)))) (sa_cons ((se_callB (c_isi T.is) rfl T.g_isinstance PyProof.Rows.Boot.«isinstance» (sao_cons (SE.o ((se_var (i := 4)))) (sao_cons (SE.o ((se_glob (v := .ref a_BadFailed) rfl T.g_BadFailed rfl (fun _ => .raw _)))) sao_nil)))) (sa_cons ((se_callB (c_isi T.is) rfl T.g_isinstance PyProof.Rows.Boot.«isinstance» (sao_cons (SE.o ((se_var (i := 4)))) (sao_cons (SE.o ((se_glob (v := .ref a_BadParcel) rfl T.g_BadParcel rfl (fun _ => .raw _)))) sao_nil)))) sa_nil))))))))) (sss_cons (ss_append (i := 5) ((se_callB (c_isi T.is) rfl T.g_isinstance PyProof.Rows.Boot.«isinstance» (sao_cons (SE.o ((se_var (i := 4)))) (sao_cons (SE.o ((se_glob (v := .ref a_BadChoices) rfl T.g_BadChoices rfl (fun _ => .raw _)))) sao_nil))))) (sss_cons (ss_setL (i := 5) S.nd (sl_cat (so_own (i := 5)) (SE.o ((SL.se (sl_lst (sa_cons ((se_callB (c_isi T.is) rfl T.g_isinstance PyProof.Rows.Boot.«isinstance» (sao_cons (SE.o ((se_var (i := 4)))) (sao_cons (SE.o ((se_glob (v := .ref a_BadShape) rfl T.g_BadShape rfl (fun _ => .raw _)))) sao_nil)))) (sa_cons ((se_callB (c_isi T.is) rfl T.g_isinstance PyProof.Rows.Boot.«isinstance» (sao_cons (SE.o ((se_var (i := 4)))) (sao_cons (SE.o ((se_glob (v := .ref a_BadGoal) rfl T.g_BadGoal rfl (fun _ => .raw _)))) sao_nil)))) (sa_cons ((se_callB (c_isi T.is) rfl T.g_isinstance PyProof.Rows.Boot.«isinstance» (sao_cons (SE.o ((se_var (i := 4)))) (sao_cons (SE.o ((se_glob (v := .ref a_BadPaper) rfl T.g_BadPaper rfl (fun _ => .raw _)))) sao_nil)))) sa_nil))))))))) (sss_cons (ss_if (st_cmp (o_ne hr.room) (SE.o ((SL.se (sl_cat (so_own (i := 5)) (SE.o ((SL.se (sl_lst (sa_cons ((se_callB (c_isi T.is) rfl T.g_isinstance PyProof.Rows.Boot.«isinstance» (sao_cons (SE.o ((se_var (i := 4)))) (sao_cons (SE.o ((se_glob (v := .ref a_TooGreat) rfl T.g_TooGreat rfl (fun _ => .raw _)))) sao_nil)))) sa_nil))))))))) (SE.o ((SL.se (sl_lc (own := [("k", 7)]) (is := [7]) rfl S.nd (si_range1 rfl T.g_range (sa_cons ((se_int)) sa_nil)) (blkI ["q", "pack", "heard", "at", "one", "known", "kinds_so", "k"] (defScope (top 43)) ⟨rfl, by decide +kernel, by decide +kernel, by decide +kernel, by decide +kernel⟩) (fun s H C cl fp => (sg_name (i := 7) S.nd)) (fun s H C cl fp => sts_nil) (fun s H C cl fp => (se_cmp (o_eq hr.room) (SE.o ((se_var (i := 7)))) (SE.o ((se_var (i := 3))))))))))) (sss_one (ss_ret ((se_bl)))) sss_nil) (sss_cons (ss_set (i := 6) S.nd ((SL.se (sl_lst (sa_cons ((se_callB (c_isi T.is) rfl T.g_isinstance PyProof.Rows.Boot.«isinstance» (sao_cons (SE.o ((se_var (i := 4)))) (sao_cons (SE.o ((se_glob (v := .ref a_NetError) rfl T.g_NetError rfl (fun _ => .raw _)))) sao_nil)))) (sa_cons ((se_callB (c_isi T.is) rfl T.g_isinstance PyProof.Rows.Boot.«isinstance» (sao_cons (SE.o ((se_var (i := 4)))) (sao_cons (SE.o ((se_bltn (v := .ty "ValueError") rfl T.g_ValueError PyProof.Rows.Boot.«ValueError» rfl))) sao_nil)))) (sa_cons ((se_callB (c_isi T.is) rfl T.g_isinstance PyProof.Rows.Boot.«isinstance» (sao_cons (SE.o ((se_var (i := 4)))) (sao_cons (SE.o ((se_bltn (v := .ty "OverflowError") rfl T.g_OverflowError PyProof.Rows.Boot.«OverflowError» rfl))) sao_nil)))) sa_nil))))))) (sss_one (ss_if (st_cmp (o_ne hr.room) (SE.o ((se_var (i := 6)))) (SE.o ((SL.se (sl_lst (sa_cons ((se_cmp o_lt (SE.o ((se_var (i := 3)))) (SE.o ((se_int))))) (sa_cons ((se_cmp o_lt (SE.o ((se_var (i := 3)))) (SE.o ((se_int))))) (sa_cons ((se_cmp (o_eq hr.room) (SE.o ((se_var (i := 3)))) (SE.o ((se_int))))) sa_nil)))))))) (sss_one (ss_ret ((se_bl)))) sss_nil))))))))) (sss_one (ss_ret ((se_bl))))))))))))
def lb_law_0_s0 : MS := (mIfS (nNot (fun ls => bnd ((fun ls => bnd ((mCons (m2 ixD (mL (fun ls => bnd ((mCons (fun _ => ret .non) (mCons (fun _ => ret (.int 0)) (mCons (fun _ => ret (.int 7)) (mCons (fun ls => bnd ((mCons (fun _ => ret (.int 1)) (mCons (fun _ => ret (.int 2)) (fun _ => ret []))) ls) tupD) (mCons (fun _ => ret (.str "x")) (mCons (mL (fun ls => bnd ((mCons (fun _ => ret (.int 3)) (fun _ => ret [])) ls) lstD)) (mCons (fun _ => ret (.dct [])) (mCons (m2 powD (fun _ => ret (.int 10)) (fun _ => ret (.int 40))) (fun _ => ret []))))))))) ls) lstD)) (fun ls => bnd ((mCons (mVar 1) (mCons (fun _ => ret (.int 8)) (fun _ => ret []))) ls) (callD 2 (drawM)))) (fun _ => ret [])) ls) (callD 1 (m_law_each_right))) ls) truD)) (mRet (fun _ => ret (.bl false))) mNil)
def lb_law_0 : MS := lb_law_0_s0
def mrest_s0 : MS := (fun ls => bnd ((fun ls => bnd ((mCons (fun _ => ret (.int 4)) (fun _ => ret [])) ls) rng1D) ls) fun ds => loopD (gNm 2) lb_law_0 ds ls)
def mrest_s1 : MS := (fun ls => bnd ((fun ls => bnd ((mCons (fun ls => bnd ((mCons (fun ls => bnd ((mCons (fun _ => ret (.int 0)) (mCons (fun _ => ret (.int 0)) (fun _ => ret []))) ls) tupD) (fun _ => ret [])) ls) tupD) (mCons (fun ls => bnd ((mCons (fun _ => ret (.str "a")) (fun _ => ret [])) ls) tupD) (mCons (fun ls => bnd ((fun _ => ret []) ls) tupD) (fun _ => ret [])))) ls) tupD) ls) fun d => ret (.nx (ls.set 3 (.va d))))
def mrest_s2 : MS := (mRet (m2 eqD (fun ls => bnd ((mCons (mVar 3) (fun _ => ret [])) ls) (callD 1 (m_need_net))) (mVar 3)))
def mrest : MS := (mSeq mrest_s0 (mSeq mrest_s1 mrest_s2))
theorem ok_law (T : Tells w K mg base) {fl : Addr} {fd : FuncData} (DL : FunD K "law" "law" (defArgs (top 44)) (defBody (top 44)) (defScope (top 44)) [] [] fl fd) (CB : CalS PP w K mg base "_law_begun" 3 (spB K (TB K))) (C__law_each_right : Cal PP w K mg base (TB K) "_law_each_right" 3 1 (m_law_each_right)) (C__law_draw : Cal PP w K mg base (TB K) "_law_draw" 2 2 (drawM)) (C_need_net : Cal PP w K mg base (TB K) "need_net" 8 1 (m_need_net)) : FnG PP w K mg base 9 fl fd ["script"] (spLaw K (TB K) 2 mrest) := by
  have S : FnScope ["script", "m", "turn", "net"] ["script"] (defScope (top 44)) := ⟨rfl, rfl, rfl, by decide +kernel, rfl, by decide +kernel, by decide +kernel⟩
  refine fng_of (N := ["script", "m", "turn", "net"]) (ps := ["script"]) DL S (fun vs H Q E h => by obtain ⟨a, ns, rfl, _⟩ := h; rfl) fun cdv A outer s H vs Q E hr h => ?_
  have W : SSs (G0 (TB K)) (cxOf (L2.CX PP w) PP w K mg base ["script", "m", "turn", "net"] "law" (defScope (top 44)) fl cdv A outer s H E) (EW E) (defBody (top 44)).tail mrest := (sss_cons (ss_for (passes_of rfl) rfl (si_range1 rfl T.g_range (sa_cons ((se_int)) sa_nil)) (sg_name (i := 2) S.nd) (sss_one (ss_if (st_not (st_val (SE.o ((se_callC C__law_each_right (hr.mono (by decide)) rfl (takes_of rfl rfl rfl rfl) (sa_cons ((se_ix (SE.o ((SL.se (sl_lst (sa_cons ((se_non)) (sa_cons ((se_int)) (sa_cons ((se_int)) (sa_cons ((se_tup (sa_cons ((se_int)) (sa_cons ((se_int)) sa_nil)))) (sa_cons ((se_str)) (sa_cons ((SL.se (sl_lst (sa_cons ((se_int)) sa_nil)))) (sa_cons ((se_dct0)) (sa_cons ((se_op o_pow (SE.o ((se_int))) (SE.o ((se_int))))) sa_nil)))))))))))) (SE.o ((se_callC C__law_draw (hr.mono (by decide)) rfl (takes_of rfl rfl rfl rfl) (sa_cons ((se_var (i := 1))) (sa_cons ((se_int)) sa_nil))))))) sa_nil)))))) (sss_one (ss_ret ((se_bl)))) sss_nil))) (sss_cons (ss_set (i := 3) S.nd ((se_tup (sa_cons ((se_tup (sa_cons ((se_tup (sa_cons ((se_int)) (sa_cons ((se_int)) sa_nil)))) sa_nil))) (sa_cons ((se_tup (sa_cons ((se_str)) sa_nil))) (sa_cons ((se_tup sa_nil)) sa_nil)))))) (sss_one (ss_ret ((se_cmp (o_eq hr.room) (SE.o ((se_callC C_need_net (hr.mono (by decide)) rfl (takes_of rfl rfl rfl rfl) (sa_cons ((se_var (i := 3))) sa_nil)))) (SE.o ((se_var (i := 3))))))))))
  obtain ⟨tr, pr, hq⟩ := W.ex
  exact ⟨_, pss_cons (ps_set (i := 1) S.nd rfl (Or.inl rfl) (pe_calS CB (hr.mono (by decide)) rfl (takes_of rfl rfl rfl rfl) (pa_cons (pv 0) pa_nil))) pr, law_read (X := cxOf (L2.CX PP w) PP w K mg base ["script", "m", "turn", "net"] "law" (defScope (top 44)) fl cdv A outer s H E) rfl hq h⟩
theorem x_BadNet (hx : xcB K a_BadNet true = true) (e : obsI K (He.fAd K ("BadNet", some "__init__")) = some (("__init__" : Str), ("BadNet.__init__" : Str), defArgs (ini 2), FuncBody.stmts (defBody (ini 2)), defScope (ini 2), mainGlobals, [("__class__" : Str)], builtinsNs)) (hi : iniB K a_BadNet (He.fAd K ("BadNet", some "__init__")) "BadNet.__init__" PP.main.file = true) (hno0 : findIn K (.ref a_BadNet) "place" = some none) (gm : mg "BadNet" = some (.ref a_BadNet)) (hs : mg "super" = none) : ExC PP w K mg base "BadNet" a_BadNet ["place"] ["place"] := by
  obtain ⟨B, nw, it, bm, XC0⟩ := xcB_ok hx
  obtain ⟨fd, F, hit, kV, doc, pm, an, cdv, ct, cc, rfl⟩ := ini_ok (P := PP) e hi
  have S : XS ["self", "place"] (defScope (ini 2)) := ⟨rfl, rfl, rfl, by decide +kernel, by decide +kernel, by decide +kernel, by decide +kernel, rfl, rfl⟩
  refine ⟨⟨_, _, ["self", "place"], ⟨_, _, _, _, XC0⟩, hit, F.ty, init1 (k := 0) XC0 S (by exact ⟨⟨_, rfl, rfl⟩, rfl, hs, fun _ _ _ => rfl, ⟨_, fun _ _ _ => rfl⟩⟩) F hno0 rfl rfl rfl rfl (fun _ _ _ => rfl), fun s us hl => BindsTo.of_eq ?_, fun s a us hl => BindsTo.of_eq ?_⟩, gm, XC0.kC⟩
  · exact match us, hl with | [_, _], _ => rfl
  · exact match us, hl with | [_], _ => rfl
theorem x_BadShape (hx : xcB K a_BadShape true = true) (e : obsI K (He.fAd K ("BadShape", some "__init__")) = some (("__init__" : Str), ("BadShape.__init__" : Str), defArgs (ini 9), FuncBody.stmts (defBody (ini 9)), defScope (ini 9), mainGlobals, [("__class__" : Str)], builtinsNs)) (hi : iniB K a_BadShape (He.fAd K ("BadShape", some "__init__")) "BadShape.__init__" PP.main.file = true) (hno0 : findIn K (.ref a_BadShape) "value" = some none) (gm : mg "BadShape" = some (.ref a_BadShape)) (hs : mg "super" = none) : ExC PP w K mg base "BadShape" a_BadShape ["value"] ["value"] := by
  obtain ⟨B, nw, it, bm, XC0⟩ := xcB_ok hx
  obtain ⟨fd, F, hit, kV, doc, pm, an, cdv, ct, cc, rfl⟩ := ini_ok (P := PP) e hi
  have S : XS ["self", "value"] (defScope (ini 9)) := ⟨rfl, rfl, rfl, by decide +kernel, by decide +kernel, by decide +kernel, by decide +kernel, rfl, rfl⟩
  refine ⟨⟨_, _, ["self", "value"], ⟨_, _, _, _, XC0⟩, hit, F.ty, init1 (k := 0) XC0 S (by exact ⟨⟨_, rfl, rfl⟩, rfl, hs, fun _ _ _ => rfl, ⟨_, fun _ _ _ => rfl⟩⟩) F hno0 rfl rfl rfl rfl (fun _ _ _ => rfl), fun s us hl => BindsTo.of_eq ?_, fun s a us hl => BindsTo.of_eq ?_⟩, gm, XC0.kC⟩
  · exact match us, hl with | [_, _], _ => rfl
  · exact match us, hl with | [_], _ => rfl
theorem x_BadChoices (hx : xcB K a_BadChoices true = true) (e : obsI K (He.fAd K ("BadChoices", some "__init__")) = some (("__init__" : Str), ("BadChoices.__init__" : Str), defArgs (ini 8), FuncBody.stmts (defBody (ini 8)), defScope (ini 8), mainGlobals, [("__class__" : Str)], builtinsNs)) (hi : iniB K a_BadChoices (He.fAd K ("BadChoices", some "__init__")) "BadChoices.__init__" PP.main.file = true) (hno0 : findIn K (.ref a_BadChoices) "place" = some none) (gm : mg "BadChoices" = some (.ref a_BadChoices)) (hs : mg "super" = none) : ExC PP w K mg base "BadChoices" a_BadChoices ["place"] ["place"] := by
  obtain ⟨B, nw, it, bm, XC0⟩ := xcB_ok hx
  obtain ⟨fd, F, hit, kV, doc, pm, an, cdv, ct, cc, rfl⟩ := ini_ok (P := PP) e hi
  have S : XS ["self", "place"] (defScope (ini 8)) := ⟨rfl, rfl, rfl, by decide +kernel, by decide +kernel, by decide +kernel, by decide +kernel, rfl, rfl⟩
  refine ⟨⟨_, _, ["self", "place"], ⟨_, _, _, _, XC0⟩, hit, F.ty, init1 (k := 0) XC0 S (by exact ⟨⟨_, rfl, rfl⟩, rfl, hs, fun _ _ _ => rfl, ⟨_, fun _ _ _ => rfl⟩⟩) F hno0 rfl rfl rfl rfl (fun _ _ _ => rfl), fun s us hl => BindsTo.of_eq ?_, fun s a us hl => BindsTo.of_eq ?_⟩, gm, XC0.kC⟩
  · exact match us, hl with | [_, _], _ => rfl
  · exact match us, hl with | [_], _ => rfl
theorem x_BadParcel (hx : xcB K a_BadParcel true = true) (e : obsI K (He.fAd K ("BadParcel", some "__init__")) = some (("__init__" : Str), ("BadParcel.__init__" : Str), defArgs (ini 7), FuncBody.stmts (defBody (ini 7)), defScope (ini 7), mainGlobals, [("__class__" : Str)], builtinsNs)) (hi : iniB K a_BadParcel (He.fAd K ("BadParcel", some "__init__")) "BadParcel.__init__" PP.main.file = true) (hno0 : findIn K (.ref a_BadParcel) "value" = some none) (gm : mg "BadParcel" = some (.ref a_BadParcel)) (hs : mg "super" = none) : ExC PP w K mg base "BadParcel" a_BadParcel ["value"] ["value"] := by
  obtain ⟨B, nw, it, bm, XC0⟩ := xcB_ok hx
  obtain ⟨fd, F, hit, kV, doc, pm, an, cdv, ct, cc, rfl⟩ := ini_ok (P := PP) e hi
  have S : XS ["self", "value"] (defScope (ini 7)) := ⟨rfl, rfl, rfl, by decide +kernel, by decide +kernel, by decide +kernel, by decide +kernel, rfl, rfl⟩
  refine ⟨⟨_, _, ["self", "value"], ⟨_, _, _, _, XC0⟩, hit, F.ty, init1 (k := 0) XC0 S (by exact ⟨⟨_, rfl, rfl⟩, rfl, hs, fun _ _ _ => rfl, ⟨_, fun _ _ _ => rfl⟩⟩) F hno0 rfl rfl rfl rfl (fun _ _ _ => rfl), fun s us hl => BindsTo.of_eq ?_, fun s a us hl => BindsTo.of_eq ?_⟩, gm, XC0.kC⟩
  · exact match us, hl with | [_, _], _ => rfl
  · exact match us, hl with | [_], _ => rfl
theorem x_BadFailed (hx : xcB K a_BadFailed true = true) (e : obsI K (He.fAd K ("BadFailed", some "__init__")) = some (("__init__" : Str), ("BadFailed.__init__" : Str), defArgs (ini 6), FuncBody.stmts (defBody (ini 6)), defScope (ini 6), mainGlobals, [("__class__" : Str)], builtinsNs)) (hi : iniB K a_BadFailed (He.fAd K ("BadFailed", some "__init__")) "BadFailed.__init__" PP.main.file = true) (hno0 : findIn K (.ref a_BadFailed) "value" = some none) (gm : mg "BadFailed" = some (.ref a_BadFailed)) (hs : mg "super" = none) : ExC PP w K mg base "BadFailed" a_BadFailed ["value"] ["value"] := by
  obtain ⟨B, nw, it, bm, XC0⟩ := xcB_ok hx
  obtain ⟨fd, F, hit, kV, doc, pm, an, cdv, ct, cc, rfl⟩ := ini_ok (P := PP) e hi
  have S : XS ["self", "value"] (defScope (ini 6)) := ⟨rfl, rfl, rfl, by decide +kernel, by decide +kernel, by decide +kernel, by decide +kernel, rfl, rfl⟩
  refine ⟨⟨_, _, ["self", "value"], ⟨_, _, _, _, XC0⟩, hit, F.ty, init1 (k := 0) XC0 S (by exact ⟨⟨_, rfl, rfl⟩, rfl, hs, fun _ _ _ => rfl, ⟨_, fun _ _ _ => rfl⟩⟩) F hno0 rfl rfl rfl rfl (fun _ _ _ => rfl), fun s us hl => BindsTo.of_eq ?_, fun s a us hl => BindsTo.of_eq ?_⟩, gm, XC0.kC⟩
  · exact match us, hl with | [_, _], _ => rfl
  · exact match us, hl with | [_], _ => rfl
theorem x_BadHead (hx : xcB K a_BadHead true = true) (e : obsI K (He.fAd K ("BadHead", some "__init__")) = some (("__init__" : Str), ("BadHead.__init__" : Str), defArgs (ini 5), FuncBody.stmts (defBody (ini 5)), defScope (ini 5), mainGlobals, [("__class__" : Str)], builtinsNs)) (hi : iniB K a_BadHead (He.fAd K ("BadHead", some "__init__")) "BadHead.__init__" PP.main.file = true) (hno0 : findIn K (.ref a_BadHead) "value" = some none) (gm : mg "BadHead" = some (.ref a_BadHead)) (hs : mg "super" = none) : ExC PP w K mg base "BadHead" a_BadHead ["value"] ["value"] := by
  obtain ⟨B, nw, it, bm, XC0⟩ := xcB_ok hx
  obtain ⟨fd, F, hit, kV, doc, pm, an, cdv, ct, cc, rfl⟩ := ini_ok (P := PP) e hi
  have S : XS ["self", "value"] (defScope (ini 5)) := ⟨rfl, rfl, rfl, by decide +kernel, by decide +kernel, by decide +kernel, by decide +kernel, rfl, rfl⟩
  refine ⟨⟨_, _, ["self", "value"], ⟨_, _, _, _, XC0⟩, hit, F.ty, init1 (k := 0) XC0 S (by exact ⟨⟨_, rfl, rfl⟩, rfl, hs, fun _ _ _ => rfl, ⟨_, fun _ _ _ => rfl⟩⟩) F hno0 rfl rfl rfl rfl (fun _ _ _ => rfl), fun s us hl => BindsTo.of_eq ?_, fun s a us hl => BindsTo.of_eq ?_⟩, gm, XC0.kC⟩
  · exact match us, hl with | [_, _], _ => rfl
  · exact match us, hl with | [_], _ => rfl
theorem x_BadRoad (hx : xcB K a_BadRoad true = true) (e : obsI K (He.fAd K ("BadRoad", some "__init__")) = some (("__init__" : Str), ("BadRoad.__init__" : Str), defArgs (ini 4), FuncBody.stmts (defBody (ini 4)), defScope (ini 4), mainGlobals, [("__class__" : Str)], builtinsNs)) (hi : iniB K a_BadRoad (He.fAd K ("BadRoad", some "__init__")) "BadRoad.__init__" PP.main.file = true) (hno0 : findIn K (.ref a_BadRoad) "value" = some none) (gm : mg "BadRoad" = some (.ref a_BadRoad)) (hs : mg "super" = none) : ExC PP w K mg base "BadRoad" a_BadRoad ["value"] ["value"] := by
  obtain ⟨B, nw, it, bm, XC0⟩ := xcB_ok hx
  obtain ⟨fd, F, hit, kV, doc, pm, an, cdv, ct, cc, rfl⟩ := ini_ok (P := PP) e hi
  have S : XS ["self", "value"] (defScope (ini 4)) := ⟨rfl, rfl, rfl, by decide +kernel, by decide +kernel, by decide +kernel, by decide +kernel, rfl, rfl⟩
  refine ⟨⟨_, _, ["self", "value"], ⟨_, _, _, _, XC0⟩, hit, F.ty, init1 (k := 0) XC0 S (by exact ⟨⟨_, rfl, rfl⟩, rfl, hs, fun _ _ _ => rfl, ⟨_, fun _ _ _ => rfl⟩⟩) F hno0 rfl rfl rfl rfl (fun _ _ _ => rfl), fun s us hl => BindsTo.of_eq ?_, fun s a us hl => BindsTo.of_eq ?_⟩, gm, XC0.kC⟩
  · exact match us, hl with | [_, _], _ => rfl
  · exact match us, hl with | [_], _ => rfl
theorem x_BadNumber (hx : xcB K a_BadNumber true = true) (e : obsI K (He.fAd K ("BadNumber", some "__init__")) = some (("__init__" : Str), ("BadNumber.__init__" : Str), defArgs (ini 3), FuncBody.stmts (defBody (ini 3)), defScope (ini 3), mainGlobals, [("__class__" : Str)], builtinsNs)) (hi : iniB K a_BadNumber (He.fAd K ("BadNumber", some "__init__")) "BadNumber.__init__" PP.main.file = true) (hno0 : findIn K (.ref a_BadNumber) "value" = some none) (gm : mg "BadNumber" = some (.ref a_BadNumber)) (hs : mg "super" = none) : ExC PP w K mg base "BadNumber" a_BadNumber ["value"] ["value"] := by
  obtain ⟨B, nw, it, bm, XC0⟩ := xcB_ok hx
  obtain ⟨fd, F, hit, kV, doc, pm, an, cdv, ct, cc, rfl⟩ := ini_ok (P := PP) e hi
  have S : XS ["self", "value"] (defScope (ini 3)) := ⟨rfl, rfl, rfl, by decide +kernel, by decide +kernel, by decide +kernel, by decide +kernel, rfl, rfl⟩
  refine ⟨⟨_, _, ["self", "value"], ⟨_, _, _, _, XC0⟩, hit, F.ty, init1 (k := 0) XC0 S (by exact ⟨⟨_, rfl, rfl⟩, rfl, hs, fun _ _ _ => rfl, ⟨_, fun _ _ _ => rfl⟩⟩) F hno0 rfl rfl rfl rfl (fun _ _ _ => rfl), fun s us hl => BindsTo.of_eq ?_, fun s a us hl => BindsTo.of_eq ?_⟩, gm, XC0.kC⟩
  · exact match us, hl with | [_, _], _ => rfl
  · exact match us, hl with | [_], _ => rfl
theorem x_TooGreat (hx : xcB K a_TooGreat false = true) (e : obsI K (He.fAd K ("TooGreat", some "__init__")) = some (("__init__" : Str), ("TooGreat.__init__" : Str), defArgs (ini 12), FuncBody.stmts (defBody (ini 12)), defScope (ini 12), mainGlobals, [("__class__" : Str)], builtinsNs)) (hi : iniB K a_TooGreat (He.fAd K ("TooGreat", some "__init__")) "TooGreat.__init__" PP.main.file = true) (hno0 : findIn K (.ref a_TooGreat) "most" = some none) (gm : mg "TooGreat" = some (.ref a_TooGreat)) (hs : mg "super" = none) : ExC PP w K mg base "TooGreat" a_TooGreat ["most"] ["most"] := by
  obtain ⟨B, nw, it, bm, XC0⟩ := xcB_ok hx
  obtain ⟨fd, F, hit, kV, doc, pm, an, cdv, ct, cc, rfl⟩ := ini_ok (P := PP) e hi
  have S : XS ["self", "most"] (defScope (ini 12)) := ⟨rfl, rfl, rfl, by decide +kernel, by decide +kernel, by decide +kernel, by decide +kernel, rfl, rfl⟩
  refine ⟨⟨_, _, ["self", "most"], ⟨_, _, _, _, XC0⟩, hit, F.ty, init1 (k := 0) XC0 S (by exact ⟨⟨_, rfl, rfl⟩, rfl, hs, fun _ _ _ => rfl, ⟨_, fun _ _ _ => rfl⟩⟩) F hno0 rfl rfl rfl rfl (fun _ _ _ => rfl), fun s us hl => BindsTo.of_eq ?_, fun s a us hl => BindsTo.of_eq ?_⟩, gm, XC0.kC⟩
  · exact match us, hl with | [_, _], _ => rfl
  · exact match us, hl with | [_], _ => rfl
theorem x_BadPaper (hx : xcB K a_BadPaper true = true) (e : obsI K (He.fAd K ("BadPaper", some "__init__")) = some (("__init__" : Str), ("BadPaper.__init__" : Str), defArgs (ini 11), FuncBody.stmts (defBody (ini 11)), defScope (ini 11), mainGlobals, [("__class__" : Str)], builtinsNs)) (hi : iniB K a_BadPaper (He.fAd K ("BadPaper", some "__init__")) "BadPaper.__init__" PP.main.file = true) (hno0 : findIn K (.ref a_BadPaper) "word" = some none) (gm : mg "BadPaper" = some (.ref a_BadPaper)) (hs : mg "super" = none) : ExC PP w K mg base "BadPaper" a_BadPaper ["word"] ["word"] := by
  obtain ⟨B, nw, it, bm, XC0⟩ := xcB_ok hx
  obtain ⟨fd, F, hit, kV, doc, pm, an, cdv, ct, cc, rfl⟩ := ini_ok (P := PP) e hi
  have S : XS ["self", "word"] (defScope (ini 11)) := ⟨rfl, rfl, rfl, by decide +kernel, by decide +kernel, by decide +kernel, by decide +kernel, rfl, rfl⟩
  refine ⟨⟨_, _, ["self", "word"], ⟨_, _, _, _, XC0⟩, hit, F.ty, init1 (k := 0) XC0 S (by exact ⟨⟨_, rfl, rfl⟩, rfl, hs, fun _ _ _ => rfl, ⟨_, fun _ _ _ => rfl⟩⟩) F hno0 rfl rfl rfl rfl (fun _ _ _ => rfl), fun s us hl => BindsTo.of_eq ?_, fun s a us hl => BindsTo.of_eq ?_⟩, gm, XC0.kC⟩
  · exact match us, hl with | [_, _], _ => rfl
  · exact match us, hl with | [_], _ => rfl
theorem x_BadGoal (hx : xcB K a_BadGoal true = true) (e : obsI K (He.fAd K ("BadGoal", some "__init__")) = some (("__init__" : Str), ("BadGoal.__init__" : Str), defArgs (ini 10), FuncBody.stmts (defBody (ini 10)), defScope (ini 10), mainGlobals, [("__class__" : Str)], builtinsNs)) (hi : iniB K a_BadGoal (He.fAd K ("BadGoal", some "__init__")) "BadGoal.__init__" PP.main.file = true) (hno0 : findIn K (.ref a_BadGoal) "value" = some none) (gm : mg "BadGoal" = some (.ref a_BadGoal)) (hs : mg "super" = none) : ExC PP w K mg base "BadGoal" a_BadGoal ["value"] ["value"] := by
  obtain ⟨B, nw, it, bm, XC0⟩ := xcB_ok hx
  obtain ⟨fd, F, hit, kV, doc, pm, an, cdv, ct, cc, rfl⟩ := ini_ok (P := PP) e hi
  have S : XS ["self", "value"] (defScope (ini 10)) := ⟨rfl, rfl, rfl, by decide +kernel, by decide +kernel, by decide +kernel, by decide +kernel, rfl, rfl⟩
  refine ⟨⟨_, _, ["self", "value"], ⟨_, _, _, _, XC0⟩, hit, F.ty, init1 (k := 0) XC0 S (by exact ⟨⟨_, rfl, rfl⟩, rfl, hs, fun _ _ _ => rfl, ⟨_, fun _ _ _ => rfl⟩⟩) F hno0 rfl rfl rfl rfl (fun _ _ _ => rfl), fun s us hl => BindsTo.of_eq ?_, fun s a us hl => BindsTo.of_eq ?_⟩, gm, XC0.kC⟩
  · exact match us, hl with | [_, _], _ => rfl
  · exact match us, hl with | [_], _ => rfl
end
def d_is_whole : He.DefD := ⟨("is_whole", none), "is_whole", "is_whole", defArgs (top 25), defBody (top 25), defScope (top 25), [], []⟩
def d_is_among : He.DefD := ⟨("is_among", none), "is_among", "is_among", defArgs (top 26), defBody (top 26), defScope (top 26), [], []⟩
def d_is_tuple : He.DefD := ⟨("is_tuple", none), "is_tuple", "is_tuple", defArgs (top 27), defBody (top 27), defScope (top 27), [], []⟩
def d_is_word : He.DefD := ⟨("is_word", none), "is_word", "is_word", defArgs (top 28), defBody (top 28), defScope (top 28), [], []⟩
def d_is_road_pair : He.DefD := ⟨("is_road_pair", none), "is_road_pair", "is_road_pair", defArgs (top 29), defBody (top 29), defScope (top 29), [], []⟩
def d_is_label : He.DefD := ⟨("is_label", none), "is_label", "is_label", defArgs (top 30), defBody (top 30), defScope (top 30), [], []⟩
def d_are_labels : He.DefD := ⟨("are_labels", none), "are_labels", "are_labels", defArgs (top 31), defBody (top 31), defScope (top 31), [], []⟩
def d_is_key : He.DefD := ⟨("is_key", none), "is_key", "is_key", defArgs (top 32), defBody (top 32), defScope (top 32), [], []⟩
def d_is_choice : He.DefD := ⟨("is_choice", none), "is_choice", "is_choice", defArgs (top 33), defBody (top 33), defScope (top 33), [], []⟩
def d_is_group : He.DefD := ⟨("is_group", none), "is_group", "is_group", defArgs (top 34), defBody (top 34), defScope (top 34), [], []⟩
def d_is_row : He.DefD := ⟨("is_row", none), "is_row", "is_row", defArgs (top 35), defBody (top 35), defScope (top 35), [], []⟩
def d_need_items : He.DefD := ⟨("need_items", none), "need_items", "need_items", defArgs (top 36), defBody (top 36), defScope (top 36), [], []⟩
def d_need_net : He.DefD := ⟨("need_net", none), "need_net", "need_net", defArgs (top 37), defBody (top 37), defScope (top 37), [], []⟩
def d_law_mixed : He.DefD := ⟨("_law_mixed", none), "_law_mixed", "_law_mixed", defArgs (top 39), defBody (top 39), defScope (top 39), [], []⟩
def d_law_folded : He.DefD := ⟨("_law_folded", none), "_law_folded", "_law_folded", defArgs (top 40), defBody (top 40), defScope (top 40), [], []⟩
def d_law_draw : He.DefD := ⟨("_law_draw", none), "_law_draw", "_law_draw", defArgs (top 41), defBody (top 41), defScope (top 41), [], []⟩
def d_law_begun : He.DefD := ⟨("_law_begun", none), "_law_begun", "_law_begun", defArgs (top 42), defBody (top 42), defScope (top 42), [], []⟩
def d_law_each_right : He.DefD := ⟨("_law_each_right", none), "_law_each_right", "_law_each_right", defArgs (top 43), defBody (top 43), defScope (top 43), [], []⟩
def d_law : He.DefD := ⟨("law", none), "law", "law", defArgs (top 44), defBody (top 44), defScope (top 44), [], []⟩
def fn : List He.DefD := [d_is_whole, d_is_among, d_is_tuple, d_is_word, d_is_road_pair, d_is_label, d_are_labels, d_is_key, d_is_choice, d_is_group, d_is_row, d_need_items, d_need_net, d_law_mixed, d_law_folded, d_law_draw, d_law_begun, d_law_each_right, d_law]
def fa : List He.Fa := [.glo "is_whole", .glo "is_among", .glo "is_tuple", .glo "is_word", .glo "is_road_pair", .glo "is_label", .glo "are_labels", .glo "is_key", .glo "is_choice", .glo "is_group", .glo "is_row", .glo "need_items", .glo "need_net", .glo "_law_mixed", .glo "_law_folded", .glo "_law_draw", .glo "_law_begun", .glo "_law_each_right", .glo "law", .glo "NetError", .glo "BadNet", .glo "BadNumber", .glo "BadRoad", .glo "BadHead", .glo "BadFailed", .glo "BadParcel", .glo "BadChoices", .glo "BadShape", .glo "BadGoal", .glo "BadPaper", .glo "TooGreat", .free "OverflowError", .free "ValueError", .free "all", .free "any", .free "bool", .free "enumerate", .free "int", .free "isinstance", .free "len", .free "range", .free "repr", .free "str", .free "super", .free "tuple", .str "ALL" "all", .str "ANY" "any", .str "HOME" "home", .str "LETTERS" "abcdefghijklmnopqrstuvwxyz", .int "MOST_CHOICES" 3, .int "MOST_GROUPS" 3, .int "MOST_HOUSES" 8, .int "MOST_LABELS" 4, .int "MOST_LETTERS" 8, .int "MOST_ROADS" 10, .int "MOST_WORD" 3]
def inis : List IniD := [⟨"BadNet", "BadNet.__init__", defArgs (ini 2), defBody (ini 2), defScope (ini 2)⟩, ⟨"BadShape", "BadShape.__init__", defArgs (ini 9), defBody (ini 9), defScope (ini 9)⟩, ⟨"BadChoices", "BadChoices.__init__", defArgs (ini 8), defBody (ini 8), defScope (ini 8)⟩, ⟨"BadParcel", "BadParcel.__init__", defArgs (ini 7), defBody (ini 7), defScope (ini 7)⟩, ⟨"BadFailed", "BadFailed.__init__", defArgs (ini 6), defBody (ini 6), defScope (ini 6)⟩, ⟨"BadHead", "BadHead.__init__", defArgs (ini 5), defBody (ini 5), defScope (ini 5)⟩, ⟨"BadRoad", "BadRoad.__init__", defArgs (ini 4), defBody (ini 4), defScope (ini 4)⟩, ⟨"BadNumber", "BadNumber.__init__", defArgs (ini 3), defBody (ini 3), defScope (ini 3)⟩, ⟨"TooGreat", "TooGreat.__init__", defArgs (ini 12), defBody (ini 12), defScope (ini 12)⟩, ⟨"BadPaper", "BadPaper.__init__", defArgs (ini 11), defBody (ini 11), defScope (ini 11)⟩, ⟨"BadGoal", "BadGoal.__init__", defArgs (ini 10), defBody (ini 10), defScope (ini 10)⟩]
def tf : List He.Defn := [("need_net", none)]
def ex (K : Frag) : Bool := decide (He.ga K "NetError" = 24) && decide (He.ga K "BadNet" = 46) && decide (He.ga K "BadNumber" = 67) && decide (He.ga K "BadRoad" = 88) && decide (He.ga K "BadHead" = 109) && decide (He.ga K "BadFailed" = 130) && decide (He.ga K "BadParcel" = 151) && decide (He.ga K "BadChoices" = 172) && decide (He.ga K "BadShape" = 193) && decide (He.ga K "BadGoal" = 214) && decide (He.ga K "BadPaper" = 235) && decide (He.ga K "TooGreat" = 256) && (K.lookup sysModules).isSome && isTabB K isRows && atTabB K atRows && xcB K 46 true && xcB K 193 true && xcB K 172 true && xcB K 151 true && xcB K 130 true && xcB K 109 true && xcB K 88 true && xcB K 67 true && xcB K 256 false && xcB K 235 true && xcB K 214 true && iniB K 46 (He.fAd K ("BadNet", some "__init__")) "BadNet.__init__" PP.main.file && iniB K 193 (He.fAd K ("BadShape", some "__init__")) "BadShape.__init__" PP.main.file && iniB K 172 (He.fAd K ("BadChoices", some "__init__")) "BadChoices.__init__" PP.main.file && iniB K 151 (He.fAd K ("BadParcel", some "__init__")) "BadParcel.__init__" PP.main.file && iniB K 130 (He.fAd K ("BadFailed", some "__init__")) "BadFailed.__init__" PP.main.file && iniB K 109 (He.fAd K ("BadHead", some "__init__")) "BadHead.__init__" PP.main.file && iniB K 88 (He.fAd K ("BadRoad", some "__init__")) "BadRoad.__init__" PP.main.file && iniB K 67 (He.fAd K ("BadNumber", some "__init__")) "BadNumber.__init__" PP.main.file && iniB K 256 (He.fAd K ("TooGreat", some "__init__")) "TooGreat.__init__" PP.main.file && iniB K 235 (He.fAd K ("BadPaper", some "__init__")) "BadPaper.__init__" PP.main.file && iniB K 214 (He.fAd K ("BadGoal", some "__init__")) "BadGoal.__init__" PP.main.file
theorem tabs0 {K : Frag} {H : Hp} (h : ∀ p ∈ tf.map (He.cT K), H p.2 = some (.tbl #[])) : NdefX.TabsN (TB K) H := fun p hp => by
  simp only [List.mem_cons, List.not_mem_nil, or_false] at hp
  obtain rfl := hp
  exact NdefX.TabN.nil (h _ (List.mem_map.mpr ⟨_, List.mem_of_getElem? (i := 0) rfl, rfl⟩))
abbrev R : PySem.W.OpenRow := PySem.W.OpenLaw.row PySem.Challenge.rw_labelroads_k30_exceptions_of_the_first_p
abbrev hk : PySem.W.Hook := hookP 5 fa fn inis tf ex
def ob (s : PySem.W.SharedT) : AlP := obsP 5 fa fn inis tf ex (HandSHeadRun.getT s)
theorem ob_eq (s : PySem.W.SharedT) : ob s = hk.obs s.abs := obsP_eq (HandSHeadRun.getT_eq s)
end PV.Law
set_option maxHeartbeats 0
namespace PV.Law
open PySem PySem.W PySem.Calls PyProof.Rows L2 PV
theorem run (w : World) : HandSHeadRun.RunEq R (PySem.W.view R.prog [44]) hk ob 14000 ((["NetError", "BadNet", "BadNumber", "BadRoad", "BadHead", "BadFailed", "BadParcel", "BadChoices", "BadShape", "BadGoal", "BadPaper", "TooGreat", "MOST_ROADS", "MOST_HOUSES", "MOST_LABELS", "MOST_LETTERS", "MOST_GROUPS", "MOST_CHOICES", "MOST_WORD", "LETTERS", "ANY", "ALL", "HOME", "is_whole", "is_among", "is_tuple", "is_word", "is_road_pair", "is_label", "are_labels"] : List Str) ++ (["is_key", "is_choice", "is_group", "is_row", "need_items", "need_net", "_law_mixed", "_law_folded", "_law_draw", "_law_begun", "_law_each_right"] : List Str)) w := by
  intro os
  kernel_rfl
end PV.Law
set_option maxHeartbeats 0
namespace PV.Law
open PySem PySem.W PySem.Calls PyProof.Rows L2 PV
theorem facts {w : World} {K : Frag} {h : Heap} {mg : Str → Option Value} {f : Addr} (X : K.In h) (G : h.Ns mainGlobals mg) (hfa : mg ("law" : Str) = some (.ref f)) (c : SaysP fa fn inis tf ex h K) :
    ∃ fd : FuncData, (∀ (s : Shared) (v : Value), BindsTo s fd ⟨[v], []⟩ [("script", v)]) ∧ ∀ base : Heap, K.In base → base.Ns mainGlobals mg → (∀ p ∈ tf.map (He.cT K), LamX.TabB base mg p.1 p.2) → FnG PP w K mg base 9 f fd ["script"] (spLaw K (TB K) 2 mrest) := by
  have c1 : He.SaysD fa fn K := c.d
  have m := c.more
  unfold ex at m
  simp only [Bool.and_eq_true, decide_eq_true_eq] at m
  obtain ⟨⟨⟨⟨⟨⟨⟨⟨⟨⟨⟨⟨⟨⟨⟨⟨⟨⟨⟨⟨⟨⟨⟨⟨⟨⟨⟨⟨⟨⟨⟨⟨⟨⟨⟨⟨q_NetError, q_BadNet⟩, q_BadNumber⟩, q_BadRoad⟩, q_BadHead⟩, q_BadFailed⟩, q_BadParcel⟩, q_BadChoices⟩, q_BadShape⟩, q_BadGoal⟩, q_BadPaper⟩, q_TooGreat⟩, hSm⟩, hIs⟩, hAt⟩, xc_BadNet⟩, xc_BadShape⟩, xc_BadChoices⟩, xc_BadParcel⟩, xc_BadFailed⟩, xc_BadHead⟩, xc_BadRoad⟩, xc_BadNumber⟩, xc_TooGreat⟩, xc_BadPaper⟩, xc_BadGoal⟩, ib_BadNet⟩, ib_BadShape⟩, ib_BadChoices⟩, ib_BadParcel⟩, ib_BadFailed⟩, ib_BadHead⟩, ib_BadRoad⟩, ib_BadNumber⟩, ib_TooGreat⟩, ib_BadPaper⟩, ib_BadGoal⟩ := m
  have gl : ∀ x : Str, He.Fa.glo x ∈ fa → mg x = some (.ref (He.ga K x)) := fun x hx => He.glo_ok X G (c1.facts hx)
  have fr : ∀ x : Str, He.Fa.free x ∈ fa → mg x = none := fun x hx => He.free_ok X G (c1.facts hx)
  have gc : ∀ (x : Str) (a : Addr), He.ga K x = a → He.Fa.glo x ∈ fa → mg x = some (.ref a) := fun x a e hx => by rw [← e]; exact gl x hx
  have df : ∀ d : He.DefD, d ∈ fn → ∃ fd, FunD K d.name d.qual d.params d.body d.scope (d.dvs K) (d.kws K) (He.fAd K d.at_) fd := fun d hd => c1.defs hd
  have F_is_whole : DefF K mg "is_whole" (top 25) := by
    obtain ⟨fd, D⟩ := df d_is_whole (List.mem_of_getElem? (i := 0) rfl)
    exact ⟨_, fd, D, gl "is_whole" (List.mem_of_getElem? (i := 0) rfl)⟩
  have F_is_among : DefF K mg "is_among" (top 26) := by
    obtain ⟨fd, D⟩ := df d_is_among (List.mem_of_getElem? (i := 1) rfl)
    exact ⟨_, fd, D, gl "is_among" (List.mem_of_getElem? (i := 1) rfl)⟩
  have F_is_tuple : DefF K mg "is_tuple" (top 27) := by
    obtain ⟨fd, D⟩ := df d_is_tuple (List.mem_of_getElem? (i := 2) rfl)
    exact ⟨_, fd, D, gl "is_tuple" (List.mem_of_getElem? (i := 2) rfl)⟩
  have F_is_word : DefF K mg "is_word" (top 28) := by
    obtain ⟨fd, D⟩ := df d_is_word (List.mem_of_getElem? (i := 3) rfl)
    exact ⟨_, fd, D, gl "is_word" (List.mem_of_getElem? (i := 3) rfl)⟩
  have F_is_road_pair : DefF K mg "is_road_pair" (top 29) := by
    obtain ⟨fd, D⟩ := df d_is_road_pair (List.mem_of_getElem? (i := 4) rfl)
    exact ⟨_, fd, D, gl "is_road_pair" (List.mem_of_getElem? (i := 4) rfl)⟩
  have F_is_label : DefF K mg "is_label" (top 30) := by
    obtain ⟨fd, D⟩ := df d_is_label (List.mem_of_getElem? (i := 5) rfl)
    exact ⟨_, fd, D, gl "is_label" (List.mem_of_getElem? (i := 5) rfl)⟩
  have F_are_labels : DefF K mg "are_labels" (top 31) := by
    obtain ⟨fd, D⟩ := df d_are_labels (List.mem_of_getElem? (i := 6) rfl)
    exact ⟨_, fd, D, gl "are_labels" (List.mem_of_getElem? (i := 6) rfl)⟩
  have F_is_key : DefF K mg "is_key" (top 32) := by
    obtain ⟨fd, D⟩ := df d_is_key (List.mem_of_getElem? (i := 7) rfl)
    exact ⟨_, fd, D, gl "is_key" (List.mem_of_getElem? (i := 7) rfl)⟩
  have F_is_choice : DefF K mg "is_choice" (top 33) := by
    obtain ⟨fd, D⟩ := df d_is_choice (List.mem_of_getElem? (i := 8) rfl)
    exact ⟨_, fd, D, gl "is_choice" (List.mem_of_getElem? (i := 8) rfl)⟩
  have F_is_group : DefF K mg "is_group" (top 34) := by
    obtain ⟨fd, D⟩ := df d_is_group (List.mem_of_getElem? (i := 9) rfl)
    exact ⟨_, fd, D, gl "is_group" (List.mem_of_getElem? (i := 9) rfl)⟩
  have F_is_row : DefF K mg "is_row" (top 35) := by
    obtain ⟨fd, D⟩ := df d_is_row (List.mem_of_getElem? (i := 10) rfl)
    exact ⟨_, fd, D, gl "is_row" (List.mem_of_getElem? (i := 10) rfl)⟩
  have F_need_items : DefF K mg "need_items" (top 36) := by
    obtain ⟨fd, D⟩ := df d_need_items (List.mem_of_getElem? (i := 11) rfl)
    exact ⟨_, fd, D, gl "need_items" (List.mem_of_getElem? (i := 11) rfl)⟩
  have F_need_net : DefL K mg "need_net" (top 37) := by
    obtain ⟨fd, D⟩ := df d_need_net (List.mem_of_getElem? (i := 12) rfl)
    exact ⟨⟨fd, D⟩, gl "need_net" (List.mem_of_getElem? (i := 12) rfl)⟩
  have F_law_mixed : DefF K mg "_law_mixed" (top 39) := by
    obtain ⟨fd, D⟩ := df d_law_mixed (List.mem_of_getElem? (i := 13) rfl)
    exact ⟨_, fd, D, gl "_law_mixed" (List.mem_of_getElem? (i := 13) rfl)⟩
  have F_law_folded : DefF K mg "_law_folded" (top 40) := by
    obtain ⟨fd, D⟩ := df d_law_folded (List.mem_of_getElem? (i := 14) rfl)
    exact ⟨_, fd, D, gl "_law_folded" (List.mem_of_getElem? (i := 14) rfl)⟩
  have F_law_draw : DefF K mg "_law_draw" (top 41) := by
    obtain ⟨fd, D⟩ := df d_law_draw (List.mem_of_getElem? (i := 15) rfl)
    exact ⟨_, fd, D, gl "_law_draw" (List.mem_of_getElem? (i := 15) rfl)⟩
  have F_law_begun : DefF K mg "_law_begun" (top 42) := by
    obtain ⟨fd, D⟩ := df d_law_begun (List.mem_of_getElem? (i := 16) rfl)
    exact ⟨_, fd, D, gl "_law_begun" (List.mem_of_getElem? (i := 16) rfl)⟩
  have F_law_each_right : DefF K mg "_law_each_right" (top 43) := by
    obtain ⟨fd, D⟩ := df d_law_each_right (List.mem_of_getElem? (i := 17) rfl)
    exact ⟨_, fd, D, gl "_law_each_right" (List.mem_of_getElem? (i := 17) rfl)⟩
  have F_law : DefF K mg "law" (top 44) := by
    obtain ⟨fd, D⟩ := df d_law (List.mem_of_getElem? (i := 18) rfl)
    exact ⟨_, fd, D, gl "law" (List.mem_of_getElem? (i := 18) rfl)⟩
  obtain ⟨fd, D⟩ := df d_law (List.mem_of_getElem? (i := 18) rfl)
  have e := hfa.symm.trans (gl "law" (List.mem_of_getElem? (i := 18) rfl))
  cases e
  refine ⟨fd, fun s v => ?_, fun base hK hG hTB => ?_⟩
  · have b := FunD.bindsA (ps := ["script"]) D fun _ _ _ _ _ _ us hl => match us, hl with | [_], _ => rfl
    exact b s [v] rfl
  · skip
    have hAt2 := atTab_ok hAt
    have T : Tells w K mg base := {
      g_OverflowError := fr "OverflowError" (List.mem_of_getElem? (i := 31) rfl)
      g_ValueError := fr "ValueError" (List.mem_of_getElem? (i := 32) rfl)
      g_all := fr "all" (List.mem_of_getElem? (i := 33) rfl)
      g_any := fr "any" (List.mem_of_getElem? (i := 34) rfl)
      g_bool := fr "bool" (List.mem_of_getElem? (i := 35) rfl)
      g_enumerate := fr "enumerate" (List.mem_of_getElem? (i := 36) rfl)
      g_int := fr "int" (List.mem_of_getElem? (i := 37) rfl)
      g_isinstance := fr "isinstance" (List.mem_of_getElem? (i := 38) rfl)
      g_len := fr "len" (List.mem_of_getElem? (i := 39) rfl)
      g_range := fr "range" (List.mem_of_getElem? (i := 40) rfl)
      g_repr := fr "repr" (List.mem_of_getElem? (i := 41) rfl)
      g_str := fr "str" (List.mem_of_getElem? (i := 42) rfl)
      g_super := fr "super" (List.mem_of_getElem? (i := 43) rfl)
      g_tuple := fr "tuple" (List.mem_of_getElem? (i := 44) rfl)
      g_NetError := gc "NetError" _ q_NetError (List.mem_of_getElem? (i := 19) rfl)
      g_BadNet := gc "BadNet" _ q_BadNet (List.mem_of_getElem? (i := 20) rfl)
      g_BadNumber := gc "BadNumber" _ q_BadNumber (List.mem_of_getElem? (i := 21) rfl)
      g_BadRoad := gc "BadRoad" _ q_BadRoad (List.mem_of_getElem? (i := 22) rfl)
      g_BadHead := gc "BadHead" _ q_BadHead (List.mem_of_getElem? (i := 23) rfl)
      g_BadFailed := gc "BadFailed" _ q_BadFailed (List.mem_of_getElem? (i := 24) rfl)
      g_BadParcel := gc "BadParcel" _ q_BadParcel (List.mem_of_getElem? (i := 25) rfl)
      g_BadChoices := gc "BadChoices" _ q_BadChoices (List.mem_of_getElem? (i := 26) rfl)
      g_BadShape := gc "BadShape" _ q_BadShape (List.mem_of_getElem? (i := 27) rfl)
      g_BadGoal := gc "BadGoal" _ q_BadGoal (List.mem_of_getElem? (i := 28) rfl)
      g_BadPaper := gc "BadPaper" _ q_BadPaper (List.mem_of_getElem? (i := 29) rfl)
      g_TooGreat := gc "TooGreat" _ q_TooGreat (List.mem_of_getElem? (i := 30) rfl)
      k_ALL := He.str_ok X G (c1.facts (List.mem_of_getElem? (i := 45) rfl))
      k_ANY := He.str_ok X G (c1.facts (List.mem_of_getElem? (i := 46) rfl))
      k_HOME := He.str_ok X G (c1.facts (List.mem_of_getElem? (i := 47) rfl))
      k_LETTERS := He.str_ok X G (c1.facts (List.mem_of_getElem? (i := 48) rfl))
      k_MOST_CHOICES := He.int_ok X G (c1.facts (List.mem_of_getElem? (i := 49) rfl))
      k_MOST_GROUPS := He.int_ok X G (c1.facts (List.mem_of_getElem? (i := 50) rfl))
      k_MOST_HOUSES := He.int_ok X G (c1.facts (List.mem_of_getElem? (i := 51) rfl))
      k_MOST_LABELS := He.int_ok X G (c1.facts (List.mem_of_getElem? (i := 52) rfl))
      k_MOST_LETTERS := He.int_ok X G (c1.facts (List.mem_of_getElem? (i := 53) rfl))
      k_MOST_ROADS := He.int_ok X G (c1.facts (List.mem_of_getElem? (i := 54) rfl))
      k_MOST_WORD := He.int_ok X G (c1.facts (List.mem_of_getElem? (i := 55) rfl))
      tb_need_net := hTB _ (List.mem_map.mpr ⟨_, List.mem_of_getElem? (i := 0) rfl, rfl⟩)
      hu_need_net := fun p hp _ => List.mem_singleton.mp hp
      sm := Option.isSome_iff_exists.mp hSm
      is := isTab_ok hIs
      at_ := hAt2
      x_BadNet := x_BadNet xc_BadNet (c.ini (List.mem_of_getElem? (i := 0) rfl)) ib_BadNet (hAt2.ok a_BadNet "place" (by decide +kernel)).2 (gc "BadNet" _ q_BadNet (List.mem_of_getElem? (i := 20) rfl)) (fr "super" (List.mem_of_getElem? (i := 43) rfl))
      x_BadShape := x_BadShape xc_BadShape (c.ini (List.mem_of_getElem? (i := 1) rfl)) ib_BadShape (hAt2.ok a_BadShape "value" (by decide +kernel)).2 (gc "BadShape" _ q_BadShape (List.mem_of_getElem? (i := 27) rfl)) (fr "super" (List.mem_of_getElem? (i := 43) rfl))
      x_BadChoices := x_BadChoices xc_BadChoices (c.ini (List.mem_of_getElem? (i := 2) rfl)) ib_BadChoices (hAt2.ok a_BadChoices "place" (by decide +kernel)).2 (gc "BadChoices" _ q_BadChoices (List.mem_of_getElem? (i := 26) rfl)) (fr "super" (List.mem_of_getElem? (i := 43) rfl))
      x_BadParcel := x_BadParcel xc_BadParcel (c.ini (List.mem_of_getElem? (i := 3) rfl)) ib_BadParcel (hAt2.ok a_BadParcel "value" (by decide +kernel)).2 (gc "BadParcel" _ q_BadParcel (List.mem_of_getElem? (i := 25) rfl)) (fr "super" (List.mem_of_getElem? (i := 43) rfl))
      x_BadFailed := x_BadFailed xc_BadFailed (c.ini (List.mem_of_getElem? (i := 4) rfl)) ib_BadFailed (hAt2.ok a_BadFailed "value" (by decide +kernel)).2 (gc "BadFailed" _ q_BadFailed (List.mem_of_getElem? (i := 24) rfl)) (fr "super" (List.mem_of_getElem? (i := 43) rfl))
      x_BadHead := x_BadHead xc_BadHead (c.ini (List.mem_of_getElem? (i := 5) rfl)) ib_BadHead (hAt2.ok a_BadHead "value" (by decide +kernel)).2 (gc "BadHead" _ q_BadHead (List.mem_of_getElem? (i := 23) rfl)) (fr "super" (List.mem_of_getElem? (i := 43) rfl))
      x_BadRoad := x_BadRoad xc_BadRoad (c.ini (List.mem_of_getElem? (i := 6) rfl)) ib_BadRoad (hAt2.ok a_BadRoad "value" (by decide +kernel)).2 (gc "BadRoad" _ q_BadRoad (List.mem_of_getElem? (i := 22) rfl)) (fr "super" (List.mem_of_getElem? (i := 43) rfl))
      x_BadNumber := x_BadNumber xc_BadNumber (c.ini (List.mem_of_getElem? (i := 7) rfl)) ib_BadNumber (hAt2.ok a_BadNumber "value" (by decide +kernel)).2 (gc "BadNumber" _ q_BadNumber (List.mem_of_getElem? (i := 21) rfl)) (fr "super" (List.mem_of_getElem? (i := 43) rfl))
      x_TooGreat := x_TooGreat xc_TooGreat (c.ini (List.mem_of_getElem? (i := 8) rfl)) ib_TooGreat (hAt2.ok a_TooGreat "most" (by decide +kernel)).2 (gc "TooGreat" _ q_TooGreat (List.mem_of_getElem? (i := 30) rfl)) (fr "super" (List.mem_of_getElem? (i := 43) rfl))
      x_BadPaper := x_BadPaper xc_BadPaper (c.ini (List.mem_of_getElem? (i := 9) rfl)) ib_BadPaper (hAt2.ok a_BadPaper "word" (by decide +kernel)).2 (gc "BadPaper" _ q_BadPaper (List.mem_of_getElem? (i := 29) rfl)) (fr "super" (List.mem_of_getElem? (i := 43) rfl))
      x_BadGoal := x_BadGoal xc_BadGoal (c.ini (List.mem_of_getElem? (i := 10) rfl)) ib_BadGoal (hAt2.ok a_BadGoal "value" (by decide +kernel)).2 (gc "BadGoal" _ q_BadGoal (List.mem_of_getElem? (i := 28) rfl)) (fr "super" (List.mem_of_getElem? (i := 43) rfl))
    }
    have C_is_whole := ok_is_whole T F_is_whole 
    have C_is_among := ok_is_among T F_is_among C_is_whole
    have C_is_tuple := ok_is_tuple T F_is_tuple 
    have C_is_word := ok_is_word T F_is_word 
    have C_is_road_pair := ok_is_road_pair T F_is_road_pair C_is_tuple C_is_among
    have C_is_label := ok_is_label T F_is_label 
    have C_are_labels := ok_are_labels T F_are_labels C_is_tuple C_is_label
    have C_is_key := ok_is_key T F_is_key C_is_tuple C_is_among C_is_label
    have C_is_choice := ok_is_choice T F_is_choice C_is_tuple C_is_among C_are_labels
    have C_is_group := ok_is_group T F_is_group C_is_tuple C_is_choice
    have C_is_row := ok_is_row T F_is_row C_is_tuple C_is_key C_is_group
    have C_need_items := ok_need_items T F_need_items C_is_tuple
    have C_need_net := ok_need_net T F_need_net C_is_tuple C_need_items C_is_road_pair C_is_word C_is_row
    have C__law_mixed := ok_law_mixed T F_law_mixed 
    have C__law_folded := ok_law_folded T F_law_folded 
    have C__law_draw := ok_draw T F_law_draw (C__law_mixed.imp mix_ok)
    have CB := ok_begun T F_law_begun C__law_folded
    have C__law_each_right := ok_law_each_right T F_law_each_right 
    exact ok_law T D CB C__law_each_right C__law_draw C_need_net
end PV.Law
set_option maxHeartbeats 0
namespace PV.Law
open PySem PySem.W PySem.Calls PyProof.Rows L2 PV
theorem each0 (s : DS) : m_law_each_right [.non] s = .ok (.bl true) s := by
  kernel_rfl
theorem each1 (s : DS) : m_law_each_right [.int 0] s = .ok (.bl true) s := by
  kernel_rfl
theorem each2 (s : DS) : m_law_each_right [.int 7] s = .ok (.bl true) s := by
  kernel_rfl
theorem each3 (s : DS) : m_law_each_right [.tup [.int 1, .int 2]] s = .ok (.bl true) s := by
  kernel_rfl
theorem each4 (s : DS) : m_law_each_right [.str "x"] s = .ok (.bl true) s := by
  kernel_rfl
theorem each5 (s : DS) : m_law_each_right [.lst [.int 3]] s = .ok (.bl true) s := by
  kernel_rfl
theorem each6 (s : DS) : m_law_each_right [.dct []] s = .ok (.bl true) s := by
  kernel_rfl
theorem each7 (s : DS) : m_law_each_right [.int (10 ^ 40)] s = .ok (.bl true) s := by
  kernel_rfl
def qs : List D := [.non, .int 0, .int 7, .tup [.int 1, .int 2], .str "x", .lst [.int 3], .dct [], .int (10 ^ 40)]
theorem each_ok {r : Int} (h0 : 0 ≤ r) (h1 : r < 8) (s : DS) : ∃ d, ixD (.lst qs) (.int r) s = .ok d s ∧ m_law_each_right [d] s = .ok (.bl true) s := by
  have er : r = 0 ∨ r = 1 ∨ r = 2 ∨ r = 3 ∨ r = 4 ∨ r = 5 ∨ r = 6 ∨ r = 7 := by omega
  rcases er with rfl | rfl | rfl | rfl | rfl | rfl | rfl | rfl
  · exact ⟨_, rfl, each0 s⟩
  · exact ⟨_, rfl, each1 s⟩
  · exact ⟨_, rfl, each2 s⟩
  · exact ⟨_, rfl, each3 s⟩
  · exact ⟨_, rfl, each4 s⟩
  · exact ⟨_, rfl, each5 s⟩
  · exact ⟨_, rfl, each6 s⟩
  · exact ⟨_, rfl, each7 s⟩
theorem m2_ok {ma mb : Mir D} {f : D → D → M D} {ls : List Sl} {s s1 : DS} {x y z : D} (h1 : ma ls s = .ok x s) (h2 : mb ls s = .ok y s1) (h3 : f x y s1 = .ok z s1) : m2 f ma mb ls s = .ok z s1 := by
  unfold m2
  rw [bnd_ok h1, bnd_ok h2, h3]
theorem cons1 {ma : Mir D} {ls : List Sl} {s s1 : DS} {d : D} (h : ma ls s = .ok d s1) : mCons ma (fun _ => ret []) ls s = .ok [d] s1 := by
  unfold mCons
  rw [bnd_ok h]
  rfl
section
variable {am : Addr} {ns : List Int}
theorem body_ok {s : DS} {t x3 : Sl} (h : DOk am s) (hs : s.spot < 1000000) : ∃ s', lb_law_0 [.va (.scr ns), .va (.raw (.ref am)), t, x3] s = .ok (.nx [.va (.scr ns), .va (.raw (.ref am)), t, x3]) s' ∧ DOk am s' ∧ s'.spot = s.spot + 1 := by
  obtain ⟨r, s1, e1, r0, r1, k1, p1⟩ := draw_ok (l := 8) h (by omega) (by decide) (by decide)
  obtain ⟨d, e2, e3⟩ := each_ok r0 r1 s1
  refine ⟨s1, ?_, k1, p1⟩
  unfold lb_law_0 lb_law_0_s0 mIfS nNot
  have ea := cons1 (m2_ok (f := ixD) (ma := (mL (fun ls => bnd ((mCons (fun _ => ret .non) (mCons (fun _ => ret (.int 0)) (mCons (fun _ => ret (.int 7)) (mCons (fun ls => bnd ((mCons (fun _ => ret (.int 1)) (mCons (fun _ => ret (.int 2)) (fun _ => ret []))) ls) tupD) (mCons (fun _ => ret (.str "x")) (mCons (mL (fun ls => bnd ((mCons (fun _ => ret (.int 3)) (fun _ => ret [])) ls) lstD)) (mCons (fun _ => ret (.dct [])) (mCons (m2 powD (fun _ => ret (.int 10)) (fun _ => ret (.int 40))) (fun _ => ret []))))))))) ls) lstD))) (mb := (fun ls => bnd ((mCons (mVar 1) (mCons (fun _ => ret (.int 8)) (fun _ => ret []))) ls) (callD 2 (drawM)))) (ls := [.va (.scr ns), .va (.raw (.ref am)), t, x3]) (s := s) (x := .lst qs) (by kernel_rfl) (by exact e1) e2)
  have eb : (bnd (mCons (m2 ixD (mL (fun ls => bnd ((mCons (fun _ => ret .non) (mCons (fun _ => ret (.int 0)) (mCons (fun _ => ret (.int 7)) (mCons (fun ls => bnd ((mCons (fun _ => ret (.int 1)) (mCons (fun _ => ret (.int 2)) (fun _ => ret []))) ls) tupD) (mCons (fun _ => ret (.str "x")) (mCons (mL (fun ls => bnd ((mCons (fun _ => ret (.int 3)) (fun _ => ret [])) ls) lstD)) (mCons (fun _ => ret (.dct [])) (mCons (m2 powD (fun _ => ret (.int 10)) (fun _ => ret (.int 40))) (fun _ => ret []))))))))) ls) lstD)) (fun ls => bnd ((mCons (mVar 1) (mCons (fun _ => ret (.int 8)) (fun _ => ret []))) ls) (callD 2 (drawM)))) (fun _ => ret []) [.va (.scr ns), .va (.raw (.ref am)), t, x3]) (callD 1 (m_law_each_right))) s = .ok (.bl true) s1 := by
    rw [bnd_ok ea]
    exact e3
  have ec := bnd_ok (f := truD) eb
  have ed : truD (.bl true) s1 = .ok true s1 := rfl
  rw [ed] at ec
  have ef := bnd_ok (f := fun x => ret (!x)) ec
  dsimp only
  rw [bnd_ok (by exact ef)]
  rfl
theorem loop_ok : ∀ (l : List Int) {x2 x3 : Sl} {s : DS}, DOk am s → s.spot + l.length < 900000 → ∃ x2' s', loopD (gNm 2) lb_law_0 (l.map D.int) [.va (.scr ns), .va (.raw (.ref am)), x2, x3] s = .ok (.nx [.va (.scr ns), .va (.raw (.ref am)), x2', x3]) s'
  | [], x2, x3, s, h, hs => ⟨_, _, rfl⟩
  | i :: l, x2, x3, s, h, hs => by
    simp only [List.length_cons] at hs
    obtain ⟨s', e, k, p⟩ := body_ok (ns := ns) (t := .va (.int i)) (x3 := x3) h (by omega)
    obtain ⟨x2', s2, e2⟩ := loop_ok l (x2 := .va (.int i)) (x3 := x3) k (by omega)
    refine ⟨x2', s2, ?_⟩
    show bnd (lb_law_0 [.va (.scr ns), .va (.raw (.ref am)), .va (.int i), x3]) _ s = _
    rw [bnd_ok e]
    exact e2
end
theorem plain (am : Addr) (s : DS) (ns : List Int) (h : DOk am s) (h3 : s.spot = 0) :
    ∃ s', bnd (mrest (.va (.scr ns) :: .va (.raw (.ref am)) :: List.replicate 2 .un)) endF s = .ok (.bl true) s' := by
  obtain ⟨x2, s', e⟩ := loop_ok (am := am) (ns := ns) [0, 1, 2, 3] (x2 := .un) (x3 := .un) h (by simp; omega)
  refine ⟨s', ?_⟩
  have e0 : mrest_s0 (.va (.scr ns) :: .va (.raw (.ref am)) :: List.replicate 2 .un) s = .ok (.nx [.va (.scr ns), .va (.raw (.ref am)), x2, .un]) s' := e
  unfold mrest
  rw [bnd_ok (show mSeq mrest_s0 (mSeq mrest_s1 mrest_s2) _ s = .ok (.rt (.bl true)) s' from by rw [mSeq_nx e0]; kernel_rfl)]
  rfl
end PV.Law
set_option maxHeartbeats 0
open PySem PySem.W PySem.Calls PyProof.Rows
theorem PySem.Challenge.cw_labelroads_k30_exceptions_of_the_first_p_holds : PySem.Challenge.rw_labelroads_k30_exceptions_of_the_first_p.Holds := by
  w_on; o_law
  refine HandSHeadRun.head_any (r := OpenLaw.row PySem.Challenge.rw_labelroads_k30_exceptions_of_the_first_p) (q := view (OpenLaw.row PySem.Challenge.rw_labelroads_k30_exceptions_of_the_first_p).prog [44]) (H := PV.Law.hk) (ob := PV.Law.ob) (M := 14000) (loose := ((["NetError", "BadNet", "BadNumber", "BadRoad", "BadHead", "BadFailed", "BadParcel", "BadChoices", "BadShape", "BadGoal", "BadPaper", "TooGreat", "MOST_ROADS", "MOST_HOUSES", "MOST_LABELS", "MOST_LETTERS", "MOST_GROUPS", "MOST_CHOICES", "MOST_WORD", "LETTERS", "ANY", "ALL", "HOME", "is_whole", "is_among", "is_tuple", "is_word", "is_road_pair", "is_label", "are_labels"] : List PySem.Str) ++ (["is_key", "is_choice", "is_group", "is_row", "need_items", "need_net", "_law_mixed", "_law_folded", "_law_draw", "_law_begun", "_law_each_right"] : List PySem.Str))) (d := HandSHeadRun.topDef (OpenLaw.row PySem.Challenge.rw_labelroads_k30_exceptions_of_the_first_p).prog 44) (kwd := []) PV.Law.ob_eq
    (by kernel_rfl) (fun s => by kernel_rfl) PV.Law.run (by kernel_rfl) (by kernel_rfl) (by kernel_rfl) (by rfl) (by first | assumption | decide +kernel) (by decide +kernel) ⟨rfl, rfl, rfl, rfl, rfl, by decide +kernel⟩ ?hw ?hc
  case hw => w_witness2
  case hc =>
    refine PV.walk_t (l := PySem.Challenge.rw_labelroads_k30_exceptions_of_the_first_p) (n := 63) (k := 9) (x := "script") rfl (by decide) (by kernel_rfl) ⟨rfl, by decide, by decide⟩ ?F (fun w H s e s' z => by obtain ⟨a, b, c, d, f, g1, g2, g3, g4, g5, g6, g7, z⟩ := z; exact z)
    intro w mg fa h Y G hmg0
    obtain ⟨K, KX, c⟩ := Y
    have hmg : mg ("law" : PySem.Str) = some (.ref fa) := by
      have e : (HandSHeadRun.topDef (OpenLaw.row PySem.Challenge.rw_labelroads_k30_exceptions_of_the_first_p).prog 44).name = ("law" : PySem.Str) := by kernel_rfl
      rw [← e]
      exact hmg0
    obtain ⟨fd, hb, hF⟩ := PV.Law.facts (w := w) KX G hmg c
    refine ⟨K, fd, PV.spLaw K (PV.Law.TB K) 2 PV.Law.mrest, PV.Law.tf.map (He.cT K), KX, fun p hp => ?_, fun p hp => ?_, fun p hp => ?_, hb, fun H a ns hl hO hH hS => ⟨a, ns, rfl, hS, by omega, fun xs => hO a xs, PV.Law.tabs0 hH, fun am s h1 h2 h3 h4 => PV.Law.plain am s ns (PV.dok_start h1 h2 h3 h4 (by omega)) h3, fun _ => rfl⟩, hF⟩
    · obtain ⟨t, ht, rfl⟩ := List.mem_map.mp hp
      exact (c.tabs t ht).mt
    · obtain ⟨t, ht, rfl⟩ := List.mem_map.mp hp
      exact (c.tabs t ht).nk
    · obtain ⟨t, ht, rfl⟩ := List.mem_map.mp hp
      exact (c.tabs t ht).cd
