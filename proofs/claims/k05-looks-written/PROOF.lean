import PyProof.Rows.All
import Wide.All
import OpenK.AllK
import Wide.FinOn
import HandS.ForMost
import HandS.ForExc
import HandS.IsInst
import HandS.TupAny
import HandS.Deep
import HandS.Wide
import HandS.CallSlots
import HandS.Defaults
import KE.KUnpackStar
import HandS.Text
import KE.KIntText
import PySem.Challenge.RW_stoodin_k05_looks_written
set_option Elab.async false
set_option linter.all false
set_option autoImplicit false
set_option maxRecDepth 100000
set_option maxHeartbeats 4000000
namespace DL
open PySem L2

/-! ### data -/
inductive D where
  | non | bl (b : Bool) | int (i : Int) | str (x : Str) | ty (n : String) | adr (a : Addr)
  | lst (ds : List D) | tup (ds : List D) | dct (kvs : List (Key × D)) | ins (C : Addr) (fs : List (Str × D))

/-- what may change -/
inductive MO where
  | lst (ds : List D) | dct (kvs : List (Key × D)) | dtt (kvs : List (List Key × D)) | ins (C : Addr) (fs : List (Str × D))

abbrev Mu := Addr → Option MO
def mset (m : Mu) (a : Addr) (o : MO) : Mu := fun b => if b = a then some o else m b
def mdel (m : Mu) (a : Addr) : Mu := fun b => if b = a then none else m b

mutual
inductive Rp (K : PySem.W.Frag) (H : Hp) : V → D → Prop
  | non : Rp K H .non .non
  | bl (b : Bool) : Rp K H (.bl b) (.bl b)
  | int (i : Int) : Rp K H (.int i) (.int i)
  | str (x : Str) : Rp K H (.str x) (.str x)
  | ty (n : String) : Rp K H (.ty n) (.ty n)
  | adr (a : Addr) : Rp K H (.ref a) (.adr a)
  | lst {a : Addr} {vs : List V} {ds : List D} : SqL K H a vs → RpL K H vs ds → Rp K H (.ref a) (.lst ds)
  | tup {a : Addr} {vs : List V} {ds : List D} : SqT K H a vs → RpL K H vs ds → Rp K H (.ref a) (.tup ds)
  | dct {a : Addr} {kvs : List (Key × V)} {ds : List (Key × D)} : H a = some (.dK kvs) → kvs.map (·.1) = ds.map (·.1) → RpL K H (kvs.map (·.2)) (ds.map (·.2)) → Rp K H (.ref a) (.dct ds)
  | ins {a C dx : Addr} {fs : List (Str × V)} {ds : List (Str × D)} : H a = some (.ins C dx fs) → fs.map (·.1) = ds.map (·.1) → RpL K H (fs.map (·.2)) (ds.map (·.2)) → Rp K H (.ref a) (.ins C ds)
inductive RpL (K : PySem.W.Frag) (H : Hp) : List V → List D → Prop
  | nil : RpL K H [] []
  | cons {v : V} {vs : List V} {d : D} {ds : List D} : Rp K H v d → RpL K H vs ds → RpL K H (v :: vs) (d :: ds)
end

theorem seqT_mono {K : PySem.W.Frag} {H H' : Hp} {a : Addr} {xs : List V} (e : Same H H') (h : SqT K H a xs) : SqT K H' a xs := by
  rcases h with (h | ⟨o, h⟩) | h
  · exact .inl (.inl (e _ _ h))
  · exact .inl (.inr ⟨o, e _ _ h⟩)
  · exact .inr h

mutual
theorem Rp.mono {K : PySem.W.Frag} {H H' : Hp} (s : Same H H') : ∀ {v : V} {d : D}, Rp K H v d → Rp K H' v d
  | _, _, .non => .non
  | _, _, .bl b => .bl b
  | _, _, .int i => .int i
  | _, _, .str x => .str x
  | _, _, .ty n => .ty n
  | _, _, .adr a => .adr a
  | _, _, .lst h r => .lst (s.seq h) (RpL.mono s r)
  | _, _, .tup h r => .tup (seqT_mono s h) (RpL.mono s r)
  | _, _, .dct h e r => .dct (s _ _ h) e (RpL.mono s r)
  | _, _, .ins h e r => .ins (s _ _ h) e (RpL.mono s r)
theorem RpL.mono {K : PySem.W.Frag} {H H' : Hp} (s : Same H H') : ∀ {vs : List V} {ds : List D}, RpL K H vs ds → RpL K H' vs ds
  | _, _, .nil => .nil
  | _, _, .cons h r => .cons (Rp.mono s h) (RpL.mono s r)
end

/-! ### worlds: H0 what never changes, m what may -/
def MRep (K : PySem.W.Frag) (H0 H : Hp) (a : Addr) : MO → Prop
  | .lst ds => ∃ vs, H a = some (.lst vs) ∧ RpL K H0 vs ds
  | .dct kvs => ∃ kv, H a = some (.dK kv) ∧ kv.map (·.1) = kvs.map (·.1) ∧ RpL K H0 (kv.map (·.2)) (kvs.map (·.2))
  | .dtt kvs => ∃ kv, H a = some (.dT kv) ∧ kv.map (·.1) = kvs.map (·.1) ∧ RpL K H0 (kv.map (·.2)) (kvs.map (·.2))
  | .ins C fs => ∃ dx fv, H a = some (.ins C dx fv) ∧ fv.map (·.1) = fs.map (·.1) ∧ RpL K H0 (fv.map (·.2)) (fs.map (·.2))
theorem MRep.some {K : PySem.W.Frag} {H0 H : Hp} {a : Addr} {o : MO} (h : MRep K H0 H a o) : ∃ u, H a = some u := by
  cases o with
  | lst ds => obtain ⟨vs, h, _⟩ := h; exact ⟨_, h⟩
  | dct ds => obtain ⟨vs, h, _⟩ := h; exact ⟨_, h⟩
  | dtt ds => obtain ⟨vs, h, _⟩ := h; exact ⟨_, h⟩
  | ins C ds => obtain ⟨_, vs, h, _⟩ := h; exact ⟨_, h⟩
theorem MRep.mono {K : PySem.W.Frag} {H0 H H0' H' : Hp} {a : Addr} {o : MO} (h : MRep K H0 H a o) (s : Same H0 H0') (e : H' a = H a) : MRep K H0' H' a o := by
  cases o with
  | lst ds => obtain ⟨vs, h, r⟩ := h; exact ⟨vs, e.trans h, r.mono s⟩
  | dct ds => obtain ⟨vs, h, q, r⟩ := h; exact ⟨vs, e.trans h, q, r.mono s⟩
  | dtt ds => obtain ⟨vs, h, q, r⟩ := h; exact ⟨vs, e.trans h, q, r.mono s⟩
  | ins C ds => obtain ⟨dx, vs, h, q, r⟩ := h; exact ⟨dx, vs, e.trans h, q, r.mono s⟩
/-- F: a frame that stays as it is -/
structure Ok (K : PySem.W.Frag) (F : Hp) (H0 : Hp) (m : Mu) (H : Hp) : Prop where
  same : Same H0 H
  cell : ∀ a o, m a = some o → H0 a = none ∧ MRep K H0 H a o
  fr : ∀ a o, F a = some o → H a = some o ∧ H0 a = none ∧ m a = none
theorem Ok.free {K : PySem.W.Frag} {F : Hp} {H0 H : Hp} {m : Mu} {a : Addr} (ok : Ok K F H0 m H) (h : H a = none) : H0 a = none ∧ m a = none := by
  refine ⟨ok.same.free h, ?_⟩
  cases e : m a with
  | none => rfl
  | some o =>
    obtain ⟨u, hu⟩ := (ok.cell a o e).2.some
    rw [h] at hu; cases hu
theorem same_new {H : Hp} {p : Addr} {o : HO} (h : H p = none) : Same H (upd H p o) := fun b u e => by
  rw [upd_ne (ne_of_none e h)]; exact e
/-- a new thing that never changes -/
theorem Ok.new {K : PySem.W.Frag} {F : Hp} {H0 H : Hp} {m : Mu} {p : Addr} (ok : Ok K F H0 m H) (h : H p = none) (o : HO) : Ok K F (upd H0 p o) m (upd H p o) := by
  obtain ⟨h0, hm⟩ := ok.free h
  refine ⟨fun b u e => ?_, fun a q e => ?_, fun a q e => ?_⟩
  · by_cases hb : b = p
    · subst hb; rw [upd_same] at e ⊢; exact e
    · rw [upd_ne hb] at e ⊢; exact ok.same b u e
  · obtain ⟨c1, c2⟩ := ok.cell a q e
    have ha : a ≠ p := fun z => by rw [z, hm] at e; cases e
    exact ⟨by rw [upd_ne ha]; exact c1, c2.mono (same_new h0) (upd_ne ha)⟩
  · obtain ⟨c1, c2, c3⟩ := ok.fr a q e
    have ha : a ≠ p := ne_of_none c1 h
    exact ⟨by rw [upd_ne ha]; exact c1, by rw [upd_ne ha]; exact c2, c3⟩
/-- a new thing of ours that may change -/
theorem Ok.newM {K : PySem.W.Frag} {F : Hp} {H0 H : Hp} {m : Mu} {p : Addr} {u : HO} {o : MO} (ok : Ok K F H0 m H) (h : H p = none) (r : MRep K H0 (upd H p u) p o) : Ok K F H0 (mset m p o) (upd H p u) := by
  obtain ⟨h0, hm⟩ := ok.free h
  refine ⟨fun b q e => ?_, fun a q e => ?_, fun a q e => ?_⟩
  · rw [upd_ne (ne_of_none (ok.same b q e) h)]; exact ok.same b q e
  · unfold mset at e
    by_cases ha : a = p
    · subst ha; rw [if_pos rfl] at e; cases e; exact ⟨h0, r⟩
    · rw [if_neg ha] at e
      obtain ⟨c1, c2⟩ := ok.cell a q e
      exact ⟨c1, c2.mono (Same.refl _) (upd_ne ha)⟩
  · obtain ⟨c1, c2, c3⟩ := ok.fr a q e
    have ha : a ≠ p := ne_of_none c1 h
    exact ⟨by rw [upd_ne ha]; exact c1, c2, by unfold mset; rw [if_neg ha]; exact c3⟩
/-- a thing of ours changes -/
theorem Ok.write {K : PySem.W.Frag} {F : Hp} {H0 H : Hp} {m : Mu} {p : Addr} {u : HO} {o o' : MO} (ok : Ok K F H0 m H) (h : m p = some o') (r : MRep K H0 (upd H p u) p o) : Ok K F H0 (mset m p o) (upd H p u) := by
  obtain ⟨h0, _⟩ := ok.cell p o' h
  refine ⟨fun b q e => ?_, fun a q e => ?_, fun a q e => ?_⟩
  · rw [upd_ne (ne_of_none e h0)]; exact ok.same b q e
  · unfold mset at e
    by_cases ha : a = p
    · subst ha; rw [if_pos rfl] at e; cases e; exact ⟨h0, r⟩
    · rw [if_neg ha] at e
      obtain ⟨c1, c2⟩ := ok.cell a q e
      exact ⟨c1, c2.mono (Same.refl _) (upd_ne ha)⟩
  · obtain ⟨c1, c2, c3⟩ := ok.fr a q e
    have ha : a ≠ p := fun z => by rw [z, h] at c3; cases c3
    exact ⟨by rw [upd_ne ha]; exact c1, c2, by unfold mset; rw [if_neg ha]; exact c3⟩
/-- less is known to be ours -/
theorem Ok.weak {K : PySem.W.Frag} {F : Hp} {H0 H : Hp} {m m' : Mu} (ok : Ok K F H0 m H) (h : ∀ a o, m' a = some o → m a = some o) : Ok K F H0 m' H := ⟨ok.same, fun a o e => ok.cell a o (h a o e), fun a o e => by
  obtain ⟨c1, c2, c3⟩ := ok.fr a o e
  refine ⟨c1, c2, ?_⟩
  cases q : m' a with
  | none => rfl
  | some u => rw [h a u q] at c3; cases c3⟩
/-- something that is neither goes into the frame -/
theorem Ok.frame {K : PySem.W.Frag} {F : Hp} {H0 H : Hp} {m : Mu} {p : Addr} {o : HO} (ok : Ok K F H0 m H) (h : H p = some o) (h0 : H0 p = none) (hm : m p = none) : Ok K (upd F p o) H0 m H := ⟨ok.same, ok.cell, fun a u e => by
  by_cases ha : a = p
  · subst ha; rw [upd_same] at e; cases e; exact ⟨h, h0, hm⟩
  · rw [upd_ne ha] at e; exact ok.fr a u e⟩
/-- and out of it, whatever it was before -/
theorem Ok.unframe {K : PySem.W.Frag} {F : Hp} {H0 H : Hp} {m : Mu} {p : Addr} {o : HO} (ok : Ok K (upd F p o) H0 m H) (hF : F p = none) : Ok K F H0 m H ∧ H p = some o ∧ H0 p = none ∧ m p = none := by
  refine ⟨⟨ok.same, ok.cell, fun a u e => ?_⟩, ok.fr p o upd_same⟩
  have ha : a ≠ p := ne_of_none e hF
  exact ok.fr a u (by rw [upd_ne ha]; exact e)
theorem Ok.freeF {K : PySem.W.Frag} {F : Hp} {H0 H : Hp} {m : Mu} {a : Addr} (ok : Ok K F H0 m H) (h : H a = none) : F a = none := by
  cases e : F a with
  | none => rfl
  | some o => rw [(ok.fr a o e).1] at h; cases h

abbrev DSt := List (Option D)
abbrev DK := D → Mu → Prop
abbrev DX := Value → List (Str × D) → Mu → Prop
abbrev DE := DSt → Mu → DK → DX → Prop
abbrev DT := DSt → Mu → (Bool → Mu → Prop) → DX → Prop
abbrev DA := DSt → Mu → (List D → Mu → Prop) → DX → Prop
structure DEnds where
  nx : DSt → Mu → Prop
  rt : DK
  bk : DSt → Mu → Prop
  ct : DSt → Mu → Prop
  xx : Value → List (Str × D) → DSt → Mu → Prop
abbrev DS := DEnds → DSt → Mu → Prop

structure RpS (K : PySem.W.Frag) (H0 : Hp) (σ : St) (δ : DSt) : Prop where
  len : σ.length = δ.length
  at_ : ∀ (i : Nat) (d : D), δ[i]? = some (some d) → ∃ v, σ[i]? = some (some v) ∧ Rp K H0 v d
theorem RpS.mono {K : PySem.W.Frag} {H0 H0' : Hp} {σ : St} {δ : DSt} (r : RpS K H0 σ δ) (s : Same H0 H0') : RpS K H0' σ δ := ⟨r.len, fun i d e => let ⟨v, h, q⟩ := r.at_ i d e; ⟨v, h, q.mono s⟩⟩
theorem RpS.set {K : PySem.W.Frag} {H0 : Hp} {σ : St} {δ : DSt} {v : V} {d : D} (r : RpS K H0 σ δ) (h : Rp K H0 v d) (i : Nat) : RpS K H0 (σ.set i (some v)) (δ.set i (some d)) := by
  refine ⟨by simp [r.len], fun j e he => ?_⟩
  by_cases hj : i = j
  · subst hj
    by_cases hl : i < δ.length
    · rw [List.getElem?_set_self hl] at he
      cases he
      exact ⟨v, List.getElem?_set_self (by rw [r.len]; exact hl), h⟩
    · rw [List.getElem?_eq_none (by simpa using hl)] at he; cases he
  · rw [List.getElem?_set_ne hj] at he ⊢
    exact r.at_ j e he
theorem RpS.clear {K : PySem.W.Frag} {H0 : Hp} {σ : St} {δ : DSt} {o : Option V} (r : RpS K H0 σ δ) (i : Nat) : RpS K H0 (σ.set i o) (δ.set i none) := by
  refine ⟨by simp [r.len], fun j e he => ?_⟩
  by_cases hj : i = j
  · subst hj
    by_cases hl : i < δ.length
    · rw [List.getElem?_set_self hl] at he; cases he
    · rw [List.getElem?_eq_none (by simpa using hl)] at he; cases he
  · rw [List.getElem?_set_ne hj] at he ⊢
    exact r.at_ j e he
/-- what an exception bears -/
def XRp (K : PySem.W.Frag) (H0 : Hp) (xd : Option Addr) (fs : List (Str × D)) : Prop :=
  (xd = none ∧ fs = []) ∨ ∃ dd fv, xd = some dd ∧ H0 dd = some (.xd fv) ∧ fv.map (·.1) = fs.map (·.1) ∧ RpL K H0 (fv.map (·.2)) (fs.map (·.2))
theorem XRp.mono {K : PySem.W.Frag} {H0 H0' : Hp} {xd : Option Addr} {fs : List (Str × D)} (x : XRp K H0 xd fs) (s : Same H0 H0') : XRp K H0' xd fs := by
  rcases x with x | ⟨dd, fv, e, h, q, r⟩
  · exact .inl x
  · exact .inr ⟨dd, fv, e, s _ _ h, q, r.mono s⟩

def GV (K : PySem.W.Frag) (F : Hp) (H0 : Hp) (P : DK) (Q : VK) : Prop := ∀ v H' H0' m' d, Same H0 H0' → Ok K F H0' m' H' → Rp K H0' v d → P d m' → Q v H'
def GB (K : PySem.W.Frag) (F : Hp) (H0 : Hp) (P : Bool → Mu → Prop) (Q : Bool → Hp → Prop) : Prop := ∀ b H' H0' m', Same H0 H0' → Ok K F H0' m' H' → P b m' → Q b H'
def GA (K : PySem.W.Frag) (F : Hp) (H0 : Hp) (P : List D → Mu → Prop) (Q : List V → Hp → Prop) : Prop := ∀ vs H' H0' m' ds, Same H0 H0' → Ok K F H0' m' H' → RpL K H0' vs ds → P ds m' → Q vs H'
def GX (K : PySem.W.Frag) (F : Hp) (H0 : Hp) (PX : DX) (E : XK) : Prop := ∀ c xd H' H0' m' fs, Same H0 H0' → Ok K F H0' m' H' → XRp K H0' xd fs → PX c fs m' → E c xd H'
def GS (K : PySem.W.Frag) (F : Hp) (H0 : Hp) (P : DSt → Mu → Prop) (Q : St → Hp → Prop) : Prop := ∀ σ' H' H0' m' δ', Same H0 H0' → Ok K F H0' m' H' → RpS K H0' σ' δ' → P δ' m' → Q σ' H'
def GW (K : PySem.W.Frag) (F : Hp) (H0 : Hp) (PX : Value → List (Str × D) → DSt → Mu → Prop) (W : WX) : Prop := ∀ c xd σ' H' H0' m' fs δ', Same H0 H0' → Ok K F H0' m' H' → RpS K H0' σ' δ' → XRp K H0' xd fs → PX c fs δ' m' → W c xd σ' H'
theorem GV.mono {K : PySem.W.Frag} {F : Hp} {H0 H1 : Hp} {P : DK} {Q : VK} (g : GV K F H0 P Q) (s : Same H0 H1) : GV K F H1 P Q := fun v H' H0' m' d s' => g v H' H0' m' d (s.trans s')
theorem GB.mono {K : PySem.W.Frag} {F : Hp} {H0 H1 : Hp} {P : Bool → Mu → Prop} {Q : Bool → Hp → Prop} (g : GB K F H0 P Q) (s : Same H0 H1) : GB K F H1 P Q := fun v H' H0' m' s' => g v H' H0' m' (s.trans s')
theorem GA.mono {K : PySem.W.Frag} {F : Hp} {H0 H1 : Hp} {P : List D → Mu → Prop} {Q : List V → Hp → Prop} (g : GA K F H0 P Q) (s : Same H0 H1) : GA K F H1 P Q := fun v H' H0' m' d s' => g v H' H0' m' d (s.trans s')
theorem GX.mono {K : PySem.W.Frag} {F : Hp} {H0 H1 : Hp} {P : DX} {Q : XK} (g : GX K F H0 P Q) (s : Same H0 H1) : GX K F H1 P Q := fun c xd H' H0' m' fs s' => g c xd H' H0' m' fs (s.trans s')
theorem GS.mono {K : PySem.W.Frag} {F : Hp} {H0 H1 : Hp} {P : DSt → Mu → Prop} {Q : St → Hp → Prop} (g : GS K F H0 P Q) (s : Same H0 H1) : GS K F H1 P Q := fun v H' H0' m' d s' => g v H' H0' m' d (s.trans s')
theorem GW.mono {K : PySem.W.Frag} {F : Hp} {H0 H1 : Hp} {P : Value → List (Str × D) → DSt → Mu → Prop} {Q : WX} (g : GW K F H0 P Q) (s : Same H0 H1) : GW K F H1 P Q := fun c xd σ' H' H0' m' fs δ' s' => g c xd σ' H' H0' m' fs δ' (s.trans s')

def lE (K : PySem.W.Frag) (W : WX) (r : DE) : TE := fun σ H Q => ∃ F H0 m δ P PX, Ok K F H0 m H ∧ RpS K H0 σ δ ∧ r δ m P PX ∧ GV K F H0 P Q ∧ GX K F H0 PX fun c xd H' => W c xd σ H'
def lT (K : PySem.W.Frag) (W : WX) (r : DT) : TT := fun σ H Q => ∃ F H0 m δ P PX, Ok K F H0 m H ∧ RpS K H0 σ δ ∧ r δ m P PX ∧ GB K F H0 P Q ∧ GX K F H0 PX fun c xd H' => W c xd σ H'
def lA (K : PySem.W.Frag) (W : WX) (r : DA) : TA := fun σ H Q => ∃ F H0 m δ P PX, Ok K F H0 m H ∧ RpS K H0 σ δ ∧ r δ m P PX ∧ GA K F H0 P Q ∧ GX K F H0 PX fun c xd H' => W c xd σ H'
structure GD (K : PySem.W.Frag) (F : Hp) (H0 : Hp) (W : WX) (DD : DEnds) (Dn : Ends) : Prop where
  nx : GS K F H0 DD.nx Dn.nx
  rt : GV K F H0 DD.rt Dn.rt
  bk : GS K F H0 DD.bk Dn.bk
  ct : GS K F H0 DD.ct Dn.ct
  xx : GW K F H0 DD.xx W
theorem GD.mono {K : PySem.W.Frag} {F : Hp} {H0 H1 : Hp} {W : WX} {DD : DEnds} {Dn : Ends} (g : GD K F H0 W DD Dn) (s : Same H0 H1) : GD K F H1 W DD Dn := ⟨g.nx.mono s, g.rt.mono s, g.bk.mono s, g.ct.mono s, g.xx.mono s⟩
def lS (K : PySem.W.Frag) (W : WX) (r : DS) : TS := fun Dn σ H => ∃ F H0 m δ DD, Ok K F H0 m H ∧ RpS K H0 σ δ ∧ r DD δ m ∧ GD K F H0 W DD Dn

abbrev SpD := List D → Mu → DK → DX → Prop
def lP (K : PySem.W.Frag) (sp : SpD) : Sp := fun vs H Q E => ∃ F H0 m ds P PX, Ok K F H0 m H ∧ RpL K H0 vs ds ∧ sp ds m P PX ∧ GV K F H0 P Q ∧ GX K F H0 PX E

theorem PE.imp {X : Cx} {e : Expr} {t t' : TE} (h : PE X e t) (k : ∀ σ H Q, t' σ H Q → t σ H Q) : PE X e t' := ⟨fun pins s σ H Q I w => h.run pins s σ H Q I (k σ H Q w)⟩
theorem PT.imp {X : Cx} {e : Expr} {t t' : TT} (h : PT X e t) (k : ∀ σ H Q, t' σ H Q → t σ H Q) : PT X e t' := ⟨fun pins s σ H Q I w => h.run pins s σ H Q I (k σ H Q w)⟩
theorem PW.imp {X : Cx} {e : Expr} {t t' : TT} (h : PW X e t) (k : ∀ σ H Q, t' σ H Q → t σ H Q) : PW X e t' := ⟨fun wh pins s σ H Q I w => h.run wh pins s σ H Q I (k σ H Q w)⟩
theorem PA.imp {X : Cx} {e : List Expr} {t t' : TA} (h : PA X e t) (k : ∀ σ H Q, t' σ H Q → t σ H Q) : PA X e t' := ⟨fun pos pins s σ H Q I w => h.run pos pins s σ H Q I (k σ H Q w)⟩
theorem PS.imp {X : Cx} {e : Stmt} {t t' : TS} (h : PS X e t) (k : ∀ Dn σ H, t' Dn σ H → t Dn σ H) : PS X e t' := ⟨fun pins s σ H Dn I w => h.run pins s σ H Dn I (k Dn σ H w)⟩
theorem PSs.imp {X : Cx} {e : List Stmt} {t t' : TS} (h : PSs X e t) (k : ∀ Dn σ H, t' Dn σ H → t Dn σ H) : PSs X e t' := ⟨fun pins s σ H Dn I w => h.run pins s σ H Dn I (k Dn σ H w)⟩
end DL

namespace DL
open PySem L2
section
variable {X : Cx} {W : WX} {a b c : Expr} {ra rb rc : DE} {pos : Pos}

/-! ### names, constants -/
def rV (i : Nat) : DE := fun δ m P _ => match δ[i]? with
  | some (some d) => P d m
  | _ => False
def rC (d : D) : DE := fun _ m P _ => P d m
theorem pd_v (i : Nat) {x : Str} (hN : X.N[i]? = some x := by rfl) (hv : Vis X.env.scope x := by first | exact Or.inl rfl | exact Or.inr (Or.inl rfl) | exact Or.inr (Or.inr rfl)) (hd : (x == ("__debug__" : Str)) = false := by decide)
    (hcd : (x == ("__classdict__" : Str)) = false := by decide) : PE X (.Name x pos) (lE X.K W (rV i)) := by
  refine PE.imp (pe_var hN hv hd hcd) fun σ H Q h => ?_
  obtain ⟨F, H0, m, δ, P, PX, ok, rs, h, g, gx⟩ := h
  unfold rV at h
  split at h
  · rename_i d e
    obtain ⟨v, hv, rv⟩ := rs.at_ i d e
    exact ⟨v, hv, g v H H0 m d (Same.refl _) ok rv h⟩
  · exact h.elim
theorem pd_tC {e : Expr} {v : V} {d : D} (h : PE X e (tC v)) (r : ∀ H, Rp X.K H v d) : PE X e (lE X.K W (rC d)) := by
  refine PE.imp h fun σ H Q h => ?_
  obtain ⟨F, H0, m, δ, P, PX, ok, rs, h, g, gx⟩ := h
  exact g v H H0 m d (Same.refl _) ok (r H0) h
theorem pd_int {i : Int} {k : Nat} : PE X (.Constant (.int i) k pos) (lE X.K W (rC (.int i))) := pd_tC pe_int fun _ => .int i
theorem pd_str {x : Str} {k : Nat} : PE X (.Constant (.str x) k pos) (lE X.K W (rC (.str x))) := pd_tC pe_str fun _ => .str x
theorem pd_bl {x : Bool} {k : Nat} : PE X (.Constant (.bool x) k pos) (lE X.K W (rC (.bl x))) := pd_tC pe_bl fun _ => .bl x
theorem pd_non {k : Nat} : PE X (.Constant .none k pos) (lE X.K W (rC .non)) := pd_tC pe_non fun _ => .non
theorem pd_gint {x : Str} {i : Int} {t : Tok} (hm : X.mg x = some (.int i t)) (hg : Gl X x := by rfl) (hd : (x == ("__debug__" : Str)) = false := by decide) : PE X (.Name x pos) (lE X.K W (rC (.int i))) := pd_tC (pe_glob hg hm (v := .int i) ⟨t, rfl⟩ hd) fun _ => .int i
theorem pd_gstr {x : Str} {i : Str} {t : Tok} (hm : X.mg x = some (.str i t)) (hg : Gl X x := by rfl) (hd : (x == ("__debug__" : Str)) = false := by decide) : PE X (.Name x pos) (lE X.K W (rC (.str i))) := pd_tC (pe_glob hg hm (v := .str i) ⟨t, rfl⟩ hd) fun _ => .str i
theorem pd_gref {x : Str} {i : Addr} (hm : X.mg x = some (.ref i)) (hg : Gl X x := by rfl) (hd : (x == ("__debug__" : Str)) = false := by decide) : PE X (.Name x pos) (lE X.K W (rC (.adr i))) := pd_tC (pe_glob hg hm (v := .ref i) rfl hd) fun _ => .adr i
theorem pd_ty {x : Str} {n : String} (hm : X.mg x = none) (hv : bootBuiltins x = some (.type n)) (hg : Gl X x := by rfl) (hn : x ≠ "__name__" := by decide) (hd : (x == ("__debug__" : Str)) = false := by decide) : PE X (.Name x pos) (lE X.K W (rC (.ty n))) := pd_tC (pe_bltn hg hm hv (v := .ty n) rfl hn hd) fun _ => .ty n

/-! ### operations on two values -/
abbrev DO := D → D → Mu → DK → Prop
def OpD (K : PySem.W.Frag) (r : R2) (ro : DO) : Prop := ∀ F H0 m H x y dx dy P Q, Ok K F H0 m H → Rp K H0 x dx → Rp K H0 y dy → ro dx dy m P → GV K F H0 P Q → r x y H Q
def rOp (ro : DO) (ra rb : DE) : DE := fun δ m P PX => ra δ m (fun x m1 => rb δ m1 (fun y m2 => ro x y m2 P) PX) PX
theorem lE_op {K : PySem.W.Frag} {r : R2} {ro : DO} (od : OpD K r ro) {σ : St} {H : Hp} {Q : VK} (h : lE K W (rOp ro ra rb) σ H Q) : tOp r (lE K W ra) (lE K W rb) σ H Q := by
  obtain ⟨F, H0, m, δ, P, PX, ok, rs, h, g, gx⟩ := h
  exact ⟨F, H0, m, δ, _, PX, ok, rs, h, fun x H1 H01 m1 d1 s1 ok1 r1 h1 => ⟨F, H01, m1, δ, _, PX, ok1, rs.mono s1, h1, fun y H2 H02 m2 d2 s2 ok2 r2 h2 => od F H02 m2 H2 x y d1 d2 P Q ok2 (r1.mono s2) r2 h2 (g.mono (s1.trans s2)), gx.mono s1⟩, gx⟩
theorem pd_op {op : Operator} {r : R2} {ro : DO} (ho : OpR X (binaryOp op) r) (od : OpD X.K r ro) (ha : PE X a (lE X.K W ra)) (hb : PE X b (lE X.K W rb)) : PE X (.BinOp a op b pos) (lE X.K W (rOp ro ra rb)) :=
  PE.imp (pe_op ho ha hb) fun _ _ _ h => lE_op od h
theorem pd_cmp {op : CmpOp} {r : R2} {ro : DO} (ho : OpR X (compareOp op) r) (od : OpD X.K r ro) (ha : PE X a (lE X.K W ra)) (hb : PE X b (lE X.K W rb)) (hm : behindInMarks op b = false := by first | exact nomark _ | rfl) : PE X (.Compare a [op] [b] pos) (lE X.K W (rOp ro ra rb)) :=
  PE.imp (pe_cmpR ho ha hb hm) fun _ _ _ h => lE_op od h
theorem OpD.or {K : PySem.W.Frag} {F : Hp} {r r' : R2} {ro : DO} (h : ∀ F H0 m H x y dx dy P Q, Ok K F H0 m H → Rp K H0 x dx → Rp K H0 y dy → ro dx dy m P → GV K F H0 P Q → r x y H Q ∨ r' x y H Q) : OpD K (fun x y H Q => r x y H Q ∨ r' x y H Q) ro := h

/-- new lists, new tuples -/
theorem GV.lst {K : PySem.W.Frag} {F : Hp} {H0 H : Hp} {m : Mu} {P : DK} {Q : VK} {p : Addr} {vs : List V} {ds : List D} (g : GV K F H0 P Q) (ok : Ok K F H0 m H) (hp : H p = none) (r : RpL K H0 vs ds) (h : P (.lst ds) m) : Q (.ref p) (upd H p (.lst vs)) :=
  g _ _ (upd H0 p (.lst vs)) m _ (same_new (ok.free hp).1) (ok.new hp _) (.lst (SqL.of upd_same) (r.mono (same_new (ok.free hp).1))) h
theorem GV.tup {K : PySem.W.Frag} {F : Hp} {H0 H : Hp} {m : Mu} {P : DK} {Q : VK} {p : Addr} {vs : List V} {ds : List D} (g : GV K F H0 P Q) (ok : Ok K F H0 m H) (hp : H p = none) (r : RpL K H0 vs ds) (h : P (.tup ds) m) : Q (.ref p) (upd H p (.tup vs)) :=
  g _ _ (upd H0 p (.tup vs)) m _ (same_new (ok.free hp).1) (ok.new hp _) (.tup (SqT.of upd_same) (r.mono (same_new (ok.free hp).1))) h
theorem GV.id {K : PySem.W.Frag} {F : Hp} {H0 H : Hp} {m : Mu} {P : DK} {Q : VK} {v : V} {d : D} (g : GV K F H0 P Q) (ok : Ok K F H0 m H) (r : Rp K H0 v d) (h : P d m) : Q v H := g _ _ H0 m _ (Same.refl _) ok r h

theorem RpL.length {K : PySem.W.Frag} {H : Hp} : ∀ {vs : List V} {ds : List D}, RpL K H vs ds → vs.length = ds.length
  | _, _, .nil => rfl
  | _, _, .cons _ r => by simp [RpL.length r]
theorem RpL.append {K : PySem.W.Frag} {H : Hp} : ∀ {vs ws : List V} {ds es : List D}, RpL K H vs ds → RpL K H ws es → RpL K H (vs ++ ws) (ds ++ es)
  | _, _, _, _, .nil, s => s
  | _, _, _, _, .cons h r, s => .cons h (RpL.append r s)
theorem RpL.get {K : PySem.W.Frag} {H : Hp} : ∀ {vs : List V} {ds : List D} {i : Nat} {d : D}, RpL K H vs ds → ds[i]? = some d → ∃ v, vs[i]? = some v ∧ Rp K H v d
  | _, _, _, _, .nil, e => by simp at e
  | _, _, 0, _, .cons h _, e => by simp at e; subst e; exact ⟨_, rfl, h⟩
  | _, _, i + 1, d, .cons _ t, e => by
    obtain ⟨u, h1, h2⟩ := RpL.get (i := i) (d := d) t (by simpa using e)
    exact ⟨u, by simpa using h1, h2⟩
theorem RpL.getV {K : PySem.W.Frag} {H : Hp} : ∀ {vs : List V} {ds : List D} {i : Nat} {v : V}, RpL K H vs ds → vs[i]? = some v → ∃ d, ds[i]? = some d ∧ Rp K H v d
  | _, _, _, _, .nil, e => by simp at e
  | _, _, 0, _, .cons h _, e => by simp at e; subst e; exact ⟨_, rfl, h⟩
  | _, _, i + 1, d, .cons _ t, e => by
    obtain ⟨u, h1, h2⟩ := RpL.getV (i := i) (v := d) t (by simpa using e)
    exact ⟨u, by simpa using h1, h2⟩
theorem RpL.take {K : PySem.W.Frag} {H : Hp} : ∀ {vs : List V} {ds : List D} (n : Nat), RpL K H vs ds → RpL K H (vs.take n) (ds.take n)
  | _, _, 0, _ => .nil
  | _, _, _ + 1, .nil => .nil
  | _, _, n + 1, .cons h r => .cons h (RpL.take n r)
theorem RpL.drop {K : PySem.W.Frag} {H : Hp} : ∀ {vs : List V} {ds : List D} (n : Nat), RpL K H vs ds → RpL K H (vs.drop n) (ds.drop n)
  | _, _, 0, r => r
  | _, _, _ + 1, .nil => .nil
  | _, _, n + 1, .cons _ r => RpL.drop n r
theorem RpL.set {K : PySem.W.Frag} {H : Hp} {v : V} {d : D} (q : Rp K H v d) : ∀ {vs : List V} {ds : List D} (n : Nat), RpL K H vs ds → RpL K H (vs.set n v) (ds.set n d)
  | _, _, _, .nil => .nil
  | _, _, 0, .cons _ r => .cons q r
  | _, _, n + 1, .cons h r => .cons h (RpL.set q n r)
theorem RpL.snoc {K : PySem.W.Frag} {H : Hp} {vs : List V} {ds : List D} {v : V} {d : D} (r : RpL K H vs ds) (h : Rp K H v d) : RpL K H (vs ++ [v]) (ds ++ [d]) := r.append (.cons h .nil)
def cutD (xs : List D) (lo hi : Option Int) : List D := (xs.drop (HT.sIx xs.length 0 lo)).take (HT.sIx xs.length xs.length hi - HT.sIx xs.length 0 lo)
theorem RpL.cut {K : PySem.W.Frag} {H : Hp} {vs : List V} {ds : List D} (r : RpL K H vs ds) (lo hi : Option Int) : RpL K H (cutV vs lo hi) (cutD ds lo hi) := by
  unfold cutV cutD
  rw [r.length]
  exact (r.drop _).take _
theorem RpL.at_ {K : PySem.W.Frag} {H : Hp} {vs : List V} {ds : List D} {i : Int} {d : D} (r : RpL K H vs ds) (h : atI ds i = some d) : ∃ v, atI vs i = some v ∧ Rp K H v d := by
  unfold atI at h ⊢
  rw [r.length]
  cases e : ixN ds.length i with
  | none => rw [e] at h; cases h
  | some j =>
    rw [e] at h
    exact r.get h

/-- what is read as a list: one that never changes, or one of ours -/
def asL (m : Mu) : D → Option (List D)
  | .lst ds => some ds
  | .adr a => match m a with
    | some (.lst ds) => some ds
    | _ => none
  | _ => none
theorem asL_rp {K : PySem.W.Frag} {F : Hp} {H0 H : Hp} {m : Mu} {v : V} {d : D} {ds : List D} (ok : Ok K F H0 m H) (r : Rp K H0 v d) (h : asL m d = some ds) : ∃ a vs, v = .ref a ∧ SqL K H a vs ∧ RpL K H0 vs ds := by
  cases d with
  | lst es =>
    cases h
    cases r with
    | lst q t => exact ⟨_, _, rfl, ok.same.seq q, t⟩
  | adr a =>
    cases r
    unfold asL at h
    dsimp only at h
    split at h
    · rename_i ds' e
      cases h
      obtain ⟨_, vs, hv, rv⟩ := ok.cell a _ e
      exact ⟨a, vs, rfl, SqL.of hv, rv⟩
    · cases h
  | _ => cases h
theorem tup_rp {K : PySem.W.Frag} {F : Hp} {H0 H : Hp} {m : Mu} {v : V} {ds : List D} (ok : Ok K F H0 m H) (r : Rp K H0 v (.tup ds)) : ∃ a vs, v = .ref a ∧ SqT K H a vs ∧ RpL K H0 vs ds := by
  cases r with
  | tup q t => exact ⟨_, _, rfl, seqT_mono ok.same q, t⟩
end

/-! ### list + list, whatever they are -/
section
variable {X : Cx}
def rCatQ (K : PySem.W.Frag) : R2 := fun x y H Q => ∃ l b xs zs, x = .ref l ∧ y = .ref b ∧ SqL K H l xs ∧ SqL K H b zs ∧ xs.length + zs.length ≤ sizeLine ∧ ∀ p, H p = none → Q (.ref p) (upd H p (.lst (xs ++ zs)))
theorem op_catQ : OpR X (binaryOp .Add) (rCatQ X.K) := by
  intro pins s σ H x y v u Q I rx ry h
  obtain ⟨l, b, xs, zs, rfl, rfl, hH, hB, hz, q⟩ := h
  cases rx
  cases ry
  obtain ⟨its, r, ⟨o, n, e, hc, hd, hs⟩, _⟩ := I.list hH
  obtain ⟨its2, r2, ⟨o2, n2, e2, hc2, hd2, hs2⟩, _⟩ := I.list hB
  have hl := r.length
  have hl2 := r2.length
  obtain ⟨oc, od, dt, sl⟩ := o
  obtain ⟨oc2, od2, dt2, sl2⟩ := o2
  simp only at hc hd hs hc2 hd2 hs2
  subst hc hd hs hc2 hd2 hs2
  have ea : its.toArray ++ its2.toArray = (its ++ its2).toArray := by simp
  refine PySem.concat_meets ⟨_, e, rfl⟩ ⟨_, e2, rfl⟩ PySem.noFill_list_add PySem.seq_list_add PySem.F.slot_list_add PySem.F.entry_list_add (PySem.F.args_list_add_2 _ _) (PyProof.Rows.list_addW l b its.toArray its2.toArray n n2 none none sl sl2 (by rw [List.size_toArray, List.size_toArray]; omega)) ⟨e, e2, ?_⟩
  rw [ea]
  exact ⟨.ref _, _, I.lnew (t' := s.toks) (r.append r2) (by rw [List.length_append]; omega), rfl, q _ I.fresh⟩
end
end DL

namespace DL
open PySem L2
section
variable {X : Cx} {W : WX} {a b c : Expr} {ra rb rc : DE} {pos : Pos}

/-! ### arithmetic -/
def oAdd : DO := fun x y m P => match x, y with
  | .int i, .int j => P (.int (i + j)) m
  | .str i, .str j => i.length + j.length ≤ sizeLine ∧ P (.str (i ++ j)) m
  | .tup i, .tup j => i.length + j.length ≤ sizeLine ∧ P (.tup (i ++ j)) m
  | x, y => match asL m x, asL m y with
    | some i, some j => i.length + j.length ≤ sizeLine ∧ P (.lst (i ++ j)) m
    | _, _ => False
theorem add_ok (X : Cx) : ∃ r, OpR X (binaryOp .Add) r ∧ OpD X.K r oAdd := by
  refine ⟨_, op_add.or (op_add_str.or (op_catA.or op_catQ)), ?_⟩
  intro F H0 m H x y dx dy P Q ok rx ry h g
  have fin : (match asL m dx, asL m dy with
    | some i, some j => i.length + j.length ≤ sizeLine ∧ P (.lst (i ++ j)) m
    | _, _ => False) → rCatQ X.K x y H Q := fun h => by
    split at h
    · rename_i i j e1 e2
      obtain ⟨hz, h⟩ := h
      obtain ⟨p, vs, rfl, q1, r1⟩ := asL_rp ok rx e1
      obtain ⟨p2, ws, rfl, q2, r2⟩ := asL_rp ok ry e2
      exact ⟨p, p2, vs, ws, rfl, rfl, q1, q2, by rw [r1.length, r2.length]; exact hz, fun z hz => g.lst ok hz (r1.append r2) h⟩
    · exact h.elim
  unfold oAdd at h
  split at h
  · cases rx; cases ry
    exact .inl ⟨_, _, rfl, rfl, g.id ok (.int _) h⟩
  · cases rx; cases ry
    exact .inr (.inl ⟨_, _, rfl, rfl, h.1, g.id ok (.str _) h.2⟩)
  · rename_i i j
    obtain ⟨p, vs, rfl, q1, r1⟩ := tup_rp ok rx
    obtain ⟨p2, ws, rfl, q2, r2⟩ := tup_rp ok ry
    refine .inr (.inr (.inl ⟨p, p2, vs, ws, rfl, rfl, q1, q2, by rw [r1.length, r2.length]; exact h.1, fun e => ?_, fun _ e => ?_, fun _ _ z hz => g.tup ok hz (r1.append r2) h.2⟩))
    · subst e
      cases r1
      exact g.id ok ry h.2
    · subst e
      cases r2
      have h2 := h.2
      rw [List.append_nil] at h2
      exact g.id ok rx h2
  · exact .inr (.inr (.inr (fin h)))
theorem pd_add (ha : PE X a (lE X.K W ra)) (hb : PE X b (lE X.K W rb)) : PE X (.BinOp a .Add b pos) (lE X.K W (rOp oAdd ra rb)) :=
  let ⟨_, h1, h2⟩ := add_ok X
  pd_op h1 h2 ha hb
def oI (C : Int → Int → Prop) (f : Int → Int → D) : DO := fun x y m P => match x, y with
  | .int i, .int j => C i j ∧ P (f i j) m
  | _, _ => False
def oI0 (f : Int → Int → D) : DO := fun x y m P => match x, y with
  | .int i, .int j => P (f i j) m
  | _, _ => False
theorem opI_ok {K : PySem.W.Frag} {C : Int → Int → Prop} {g : Int → Int → V} {f : Int → Int → D} (r : ∀ H i j, Rp K H (g i j) (f i j)) : OpD K (rI C g) (oI C f) := by
  intro F H0 m H x y dx dy P Q ok rx ry h gv
  unfold oI at h
  split at h
  · cases rx; cases ry
    exact ⟨_, _, rfl, rfl, h.1, gv.id ok (r _ _ _) h.2⟩
  · exact h.elim
theorem opI0_ok {K : PySem.W.Frag} {g : Int → Int → V} {f : Int → Int → D} (r : ∀ H i j, Rp K H (g i j) (f i j)) : OpD K (rI0 g) (oI0 f) := by
  intro F H0 m H x y dx dy P Q ok rx ry h gv
  unfold oI0 at h
  split at h
  · cases rx; cases ry
    exact ⟨_, _, rfl, rfl, gv.id ok (r _ _ _) h⟩
  · exact h.elim
abbrev oSub : DO := oI0 fun i j => .int (i - j)
abbrev oMul : DO := oI CMul fun i j => .int (i * j)
abbrev oDiv : DO := oI CDivW fun i j => .int (i / j)
abbrev oMod : DO := oI (fun _ j => 0 < j) fun i j => .int (i % j)
abbrev oPow : DO := oI CPow fun i j => .int (i ^ j.toNat)
theorem pd_sub (ha : PE X a (lE X.K W ra)) (hb : PE X b (lE X.K W rb)) : PE X (.BinOp a .Sub b pos) (lE X.K W (rOp oSub ra rb)) := pd_op op_sub (opI0_ok fun _ _ _ => .int _) ha hb
theorem pd_mul (ha : PE X a (lE X.K W ra)) (hb : PE X b (lE X.K W rb)) : PE X (.BinOp a .Mult b pos) (lE X.K W (rOp oMul ra rb)) := pd_op op_mul (opI_ok fun _ _ _ => .int _) ha hb
theorem pd_div (ha : PE X a (lE X.K W ra)) (hb : PE X b (lE X.K W rb)) : PE X (.BinOp a .FloorDiv b pos) (lE X.K W (rOp oDiv ra rb)) := pd_op op_fdivW (opI_ok fun _ _ _ => .int _) ha hb
theorem pd_mod (ha : PE X a (lE X.K W ra)) (hb : PE X b (lE X.K W rb)) : PE X (.BinOp a .Mod b pos) (lE X.K W (rOp oMod ra rb)) := pd_op op_mod (opI_ok fun _ _ _ => .int _) ha hb
theorem pd_pow (ha : PE X a (lE X.K W ra)) (hb : PE X b (lE X.K W rb)) : PE X (.BinOp a .Pow b pos) (lE X.K W (rOp oPow ra rb)) := pd_op op_pow (opI_ok fun _ _ _ => .int _) ha hb
/-! ### comparisons -/
abbrev oLt : DO := oI0 fun i j => .bl (decide (i < j))
abbrev oLe : DO := oI0 fun i j => .bl (decide (i ≤ j))
abbrev oGt : DO := oI0 fun i j => .bl (decide (j < i))
abbrev oGe : DO := oI0 fun i j => .bl (decide (j ≤ i))
theorem lt_ok : OpD X.K (rI0 fun i j => .bl (decide (i < j))) oLt := opI0_ok fun _ _ _ => .bl _
theorem le_ok : OpD X.K (rI0 fun i j => .bl (decide (i ≤ j))) oLe := opI0_ok fun _ _ _ => .bl _
theorem gt_ok : OpD X.K (rI0 fun i j => .bl (decide (j < i))) oGt := opI0_ok fun _ _ _ => .bl _
theorem ge_ok : OpD X.K (rI0 fun i j => .bl (decide (j ≤ i))) oGe := opI0_ok fun _ _ _ => .bl _

/-! ### data as the library's data -/
mutual
def py : D → PyData
  | .non => .none
  | .bl b => .bool b
  | .int i => .int i
  | .str x => .str x
  | .lst ds => .list (pyL ds)
  | .tup ds => .tuple (pyL ds)
  | .ty _ => .dict []
  | .adr _ => .dict []
  | .dct _ => .dict []
  | .ins _ _ => .dict []
def pyL : List D → List PyData
  | [] => []
  | d :: ds => py d :: pyL ds
end
mutual
theorem dp_of {K : PySem.W.Frag} {H : Hp} : ∀ {v : V} {d : D}, Rp K H v d → (py d).canLay0 = true → Dp K H v (py d)
  | _, _, .non, _ => by rw [py]; exact .non
  | _, _, .bl b, _ => by rw [py]; exact .bl b
  | _, _, .int i, _ => by rw [py]; exact .int i
  | _, _, .str x, _ => by rw [py]; exact .str x
  | _, _, .ty n, h => by rw [py, PyData.canLay0] at h; cases h
  | _, _, .adr a, h => by rw [py, PyData.canLay0] at h; cases h
  | _, _, .dct _ _ _, h => by rw [py, PyData.canLay0] at h; cases h
  | _, _, .ins _ _ _, h => by rw [py, PyData.canLay0] at h; cases h
  | _, _, .lst q r, h => by rw [py, PyData.canLay0] at h; rw [py]; exact .lst q (dpL_of r h)
  | _, _, .tup q r, h => by rw [py, PyData.canLay0] at h; rw [py]; exact .tup q (dpL_of r h)
theorem dpL_of {K : PySem.W.Frag} {H : Hp} : ∀ {vs : List V} {ds : List D}, RpL K H vs ds → PyData.canLayAll0 (pyL ds) = true → DpAll K H vs (pyL ds)
  | _, _, .nil, _ => by rw [pyL]; exact .nil
  | _, _, .cons q r, h => by
    rw [pyL, PyData.canLayAll0, Bool.and_eq_true] at h
    rw [pyL]
    exact .cons (dp_of q h.1) (dpL_of r h.2)
end
/-- a list of ours, read as data -/
def dat (m : Mu) (d : D) : D := match asL m d with
  | some ds => .lst ds
  | none => d
theorem dat_rp {K : PySem.W.Frag} {F : Hp} {H0 H : Hp} {m : Mu} {v : V} {d : D} (ok : Ok K F H0 m H) (r : Rp K H0 v d) : Rp K H v (dat m d) := by
  unfold dat
  split
  · rename_i ds e
    obtain ⟨p, vs, rfl, q, t⟩ := asL_rp ok r e
    exact .lst q (t.mono ok.same)
  · exact r.mono ok.same
def shp (d : D) : Prop := SeqAt.shaped (py d) = true
def deq (d e : D) : Bool := PyData.eqv (py d) (py e)
/-- two flat things whose == is plain -/
def flatEq : D → D → Option Bool
  | .non, .non => some true | .non, .int _ => some false | .int _, .non => some false | .non, .bl _ => some false | .bl _, .non => some false | .non, .str _ => some false | .str _, .non => some false
  | .int i, .int j => some (decide (i = j)) | .bl i, .bl j => some (decide (i = j)) | .str i, .str j => some (decide (i = j))
  | .int _, .str _ => some false | .str _, .int _ => some false | .bl _, .str _ => some false | .str _, .bl _ => some false
  | _, _ => none
def oEqN (neg : Bool) : DO := fun x y m P => match flatEq x y with
  | some k => P (.bl (if neg then !k else k)) m
  | none => shp (dat m x) ∧ shp (dat m y) ∧ P (.bl (if neg then !deq (dat m x) (dat m y) else deq (dat m x) (dat m y))) m
abbrev oEq : DO := oEqN false
abbrev oNe : DO := oEqN true
theorem flat_scal {K : PySem.W.Frag} {H : Hp} {x y : V} {dx dy : D} {k : Bool} (rx : Rp K H x dx) (ry : Rp K H y dy) (h : flatEq dx dy = some k) : scal x y = true ∧ decide (x = y) = k := by
  unfold flatEq at h
  split at h <;> first | (cases h; cases rx; cases ry; exact ⟨rfl, by simp⟩) | cases h
theorem eq_ok (hu : X.A.units + 64 < cLine) : ∃ r, OpR X (compareOp .Eq) r ∧ OpD X.K r oEq := by
  refine ⟨_, op_eq.or (op_eqD hu), ?_⟩
  intro F H0 m H x y dx dy P Q ok rx ry h g
  unfold oEq oEqN at h
  split at h
  · rename_i k e
    obtain ⟨h1, h2⟩ := flat_scal rx ry e
    exact .inl ⟨h1, by rw [h2]; exact g.id ok (.bl _) h⟩
  · obtain ⟨s1, s2, h⟩ := h
    exact .inr ⟨_, _, dp_of (dat_rp ok rx) (SeqAt.canLay_of_shaped s1), dp_of (dat_rp ok ry) (SeqAt.canLay_of_shaped s2), s1, s2, g.id ok (.bl _) h⟩
theorem ne_ok (hu : X.A.units + 64 < cLine) : ∃ r, OpR X (compareOp .NotEq) r ∧ OpD X.K r oNe := by
  refine ⟨_, op_ne.or (op_neD hu), ?_⟩
  intro F H0 m H x y dx dy P Q ok rx ry h g
  unfold oNe oEqN at h
  split at h
  · rename_i k e
    obtain ⟨h1, h2⟩ := flat_scal rx ry e
    exact .inl ⟨h1, by rw [h2]; exact g.id ok (.bl _) h⟩
  · obtain ⟨s1, s2, h⟩ := h
    exact .inr ⟨_, _, dp_of (dat_rp ok rx) (SeqAt.canLay_of_shaped s1), dp_of (dat_rp ok ry) (SeqAt.canLay_of_shaped s2), s1, s2, g.id ok (.bl _) h⟩
/-- is None -/
def isNone : D → Bool
  | .non => true
  | _ => false
def oIsN (neg : Bool) : DO := fun x y m P => match y with
  | .non => P (.bl (if neg then !isNone x else isNone x)) m
  | _ => False
theorem non_of {K : PySem.W.Frag} {H : Hp} {x : V} {dx : D} (rx : Rp K H x dx) : decide (x = .non) = isNone dx := by
  cases rx <;> simp [isNone]
theorem isN_ok : OpD X.K (fun x y H Q => y = .non ∧ Q (.bl (decide (x = .non))) H) (oIsN false) := by
  intro F H0 m H x y dx dy P Q ok rx ry h g
  unfold oIsN at h
  split at h
  · cases ry
    exact ⟨rfl, by rw [non_of rx]; exact g.id ok (.bl _) h⟩
  · exact h.elim
theorem notN_ok : OpD X.K (fun x y H Q => y = .non ∧ Q (.bl (!decide (x = .non))) H) (oIsN true) := by
  intro F H0 m H x y dx dy P Q ok rx ry h g
  unfold oIsN at h
  split at h
  · cases ry
    exact ⟨rfl, by rw [non_of rx]; exact g.id ok (.bl _) h⟩
  · exact h.elim
theorem pd_lt (ha : PE X a (lE X.K W ra)) (hb : PE X b (lE X.K W rb)) : PE X (.Compare a [.Lt] [b] pos) (lE X.K W (rOp oLt ra rb)) := pd_cmp op_lt lt_ok ha hb
theorem pd_le (ha : PE X a (lE X.K W ra)) (hb : PE X b (lE X.K W rb)) : PE X (.Compare a [.LtE] [b] pos) (lE X.K W (rOp oLe ra rb)) := pd_cmp op_le le_ok ha hb
theorem pd_gt (ha : PE X a (lE X.K W ra)) (hb : PE X b (lE X.K W rb)) : PE X (.Compare a [.Gt] [b] pos) (lE X.K W (rOp oGt ra rb)) := pd_cmp op_gt gt_ok ha hb
theorem pd_ge (ha : PE X a (lE X.K W ra)) (hb : PE X b (lE X.K W rb)) : PE X (.Compare a [.GtE] [b] pos) (lE X.K W (rOp oGe ra rb)) := pd_cmp op_ge ge_ok ha hb
theorem pd_eq (hu : X.A.units + 64 < cLine) (ha : PE X a (lE X.K W ra)) (hb : PE X b (lE X.K W rb)) : PE X (.Compare a [.Eq] [b] pos) (lE X.K W (rOp oEq ra rb)) := let ⟨_, h1, h2⟩ := eq_ok hu; pd_cmp h1 h2 ha hb
theorem pd_ne (hu : X.A.units + 64 < cLine) (ha : PE X a (lE X.K W ra)) (hb : PE X b (lE X.K W rb)) : PE X (.Compare a [.NotEq] [b] pos) (lE X.K W (rOp oNe ra rb)) := let ⟨_, h1, h2⟩ := ne_ok hu; pd_cmp h1 h2 ha hb
theorem pd_isN (ha : PE X a (lE X.K W ra)) (hb : PE X b (lE X.K W rb)) : PE X (.Compare a [.Is] [b] pos) (lE X.K W (rOp (oIsN false) ra rb)) := pd_cmp op_isN isN_ok ha hb
theorem pd_notN (ha : PE X a (lE X.K W ra)) (hb : PE X b (lE X.K W rb)) : PE X (.Compare a [.IsNot] [b] pos) (lE X.K W (rOp (oIsN true) ra rb)) := pd_cmp op_notN notN_ok ha hb
/-! ### in -/
def flatD : D → Bool
  | .non => true | .bl _ => true | .int _ => true | .str _ => true | _ => false
def inStr (w z : Str) : Bool := match w.cps.toList with
  | [c] => decide (c ∈ z.cps.toList)
  | _ => !(Builtin.Str.occurrences z w 0 z.length 1).isEmpty
def oInN (neg : Bool) : DO := fun x y m P => match y with
  | .str z => match x with
    | .str w => P (.bl (if neg then !inStr w z else inStr w z)) m
    | _ => False
  | .tup ds => (flatD x = true ∧ ds.all flatD = true) ∧ P (.bl (if neg then !ds.any (fun z => deq z x) else ds.any fun z => deq z x)) m
  | y => match asL m y with
    | some ds => ((flatD x = true ∧ ds.all flatD = true) ∨ (shp (dat m x) ∧ shp (.lst ds))) ∧ P (.bl (if neg then !ds.any (fun z => deq z (dat m x)) else ds.any fun z => deq z (dat m x))) m
    | none => False
theorem flat_rp {K : PySem.W.Frag} {H : Hp} {x : V} {dx : D} (rx : Rp K H x dx) (h : flatD dx = true) : flatV x = true := by
  cases rx <;> first | rfl | cases h
theorem flatL_rp {K : PySem.W.Frag} {H : Hp} : ∀ {vs : List V} {ds : List D}, RpL K H vs ds → ds.all flatD = true → vs.all flatV = true
  | _, _, .nil, _ => rfl
  | _, _, .cons q r, h => by
    simp only [List.all_cons, Bool.and_eq_true] at h ⊢
    exact ⟨flat_rp q h.1, flatL_rp r h.2⟩
theorem flat_eq {K : PySem.W.Frag} {H H' : Hp} {x y : V} {dx dy : D} (rx : Rp K H x dx) (ry : Rp K H' y dy) (h : flatD dx = true) (h' : flatD dy = true) : eqV x y = deq dx dy := by
  unfold deq
  cases rx <;> first | cases h | skip
  all_goals (cases ry <;> first | cases h' | skip)
  all_goals (simp only [py, PyData.eqv, eqV])
theorem flat_any {K : PySem.W.Frag} {H H' : Hp} {x : V} {dx : D} (rx : Rp K H' x dx) (hx : flatD dx = true) : ∀ {vs : List V} {ds : List D}, RpL K H vs ds → ds.all flatD = true → inV x vs = ds.any fun z => deq z dx
  | _, _, .nil, _ => rfl
  | _, _, .cons q r, h => by
    simp only [List.all_cons, Bool.and_eq_true] at h
    have ih := flat_any rx hx r h.2
    unfold inV at ih ⊢
    simp only [List.any_cons]
    rw [ih, flat_eq q rx h.1 hx]
theorem dat_flat {m : Mu} {d : D} (h : flatD d = true) : dat m d = d := by
  cases d <;> first | rfl | cases h
theorem pyL_any (d : PyData) : ∀ ds : List D, (pyL ds).any (fun z => PyData.eqv z d) = ds.any fun z => PyData.eqv (py z) d
  | [] => by rw [pyL]; rfl
  | e :: ds => by rw [pyL, List.any_cons, List.any_cons, pyL_any d ds]
theorem in_core (neg : Bool) (hu : X.A.units + 65 < cLine) {op : CmpOp} (h1 : OpR X (compareOp op) (fun x y H Q => ∃ i j, x = .str i ∧ y = .str j ∧ Q (.bl (if neg then !(!(Builtin.Str.occurrences j i 0 j.length 1).isEmpty) else !(Builtin.Str.occurrences j i 0 j.length 1).isEmpty)) H))
    (h2 : OpR X (compareOp op) (fun x y H Q => ∃ (c : Nat) (z : Str), x = .str ⟨#[c]⟩ ∧ y = .str z ∧ Q (.bl (if neg then !decide (c ∈ z.cps.toList) else decide (c ∈ z.cps.toList))) H)) (h3 : OpR X (compareOp op) (rIn X.K neg))
    (h4 : OpR X (compareOp op) (fun x y H Q => ∃ d ds, Dp X.K H x d ∧ Dp X.K H y (.list ds) ∧ SeqAt.shaped d = true ∧ SeqAt.shaped (.list ds) = true ∧ Q (.bl (if neg then !ds.any fun z => PyData.eqv z d else ds.any fun z => PyData.eqv z d)) H)) :
    ∃ r, OpR X (compareOp op) r ∧ OpD X.K r (oInN neg) := by
  refine ⟨_, h1.or (h2.or (h3.or h4)), ?_⟩
  intro F H0 m H x y dx dy P Q ok rx ry h g
  unfold oInN at h
  split at h
  · rename_i z
    split at h
    · rename_i w
      cases rx; cases ry
      by_cases hc : ∃ c, w.cps.toList = [c]
      · obtain ⟨c, hc⟩ := hc
        have e : inStr w z = decide (c ∈ z.cps.toList) := by unfold inStr; rw [hc]
        rw [e] at h
        refine .inr (.inl ⟨c, z, ?_, rfl, g.id ok (.bl _) h⟩)
        obtain ⟨cp⟩ := w
        have : cp = #[c] := by
          have h2 : cp.toList = [c] := hc
          have := congrArg List.toArray h2
          simpa using this
        rw [this]
      · have e : inStr w z = !(Builtin.Str.occurrences z w 0 z.length 1).isEmpty := by
          unfold inStr
          split
          · rename_i c hw
            exact absurd ⟨c, hw⟩ hc
          · rfl
        rw [e] at h
        exact .inl ⟨w, z, rfl, rfl, g.id ok (.bl _) h⟩
    · exact h.elim
  · rename_i ds
    obtain ⟨⟨f1, f2⟩, h⟩ := h
    obtain ⟨p, vs, rfl, q, r⟩ := tup_rp ok ry
    refine .inr (.inr (.inl ⟨p, vs, rfl, .inr q, flat_rp rx f1, flatL_rp r f2, ?_⟩))
    rw [flat_any rx f1 r f2]
    exact g.id ok (.bl _) h
  · split at h
    · rename_i ds e
      obtain ⟨f, h⟩ := h
      obtain ⟨p, vs, rfl, q, r⟩ := asL_rp ok ry e
      rcases f with ⟨f1, f2⟩ | ⟨s1, s2⟩
      · refine .inr (.inr (.inl ⟨p, vs, rfl, .inl q, flat_rp rx f1, flatL_rp r f2, ?_⟩))
        rw [dat_flat f1] at h
        rw [flat_any rx f1 r f2]
        exact g.id ok (.bl _) h
      · have e2 : py (.lst ds) = .list (pyL ds) := by rw [py]
        have s2' := s2
        unfold shp at s2'
        rw [e2] at s2'
        have hd := dp_of (Rp.lst q (r.mono ok.same)) (SeqAt.canLay_of_shaped s2)
        rw [e2] at hd
        refine .inr (.inr (.inr ⟨_, _, dp_of (dat_rp ok rx) (SeqAt.canLay_of_shaped s1), hd, s1, s2', ?_⟩))
        rw [pyL_any]
        exact g.id ok (.bl _) h
    · exact h.elim
theorem in_ok (hu : X.A.units + 65 < cLine) : ∃ r, OpR X (compareOp .In) r ∧ OpD X.K r (oInN false) := in_core false hu op_in_str (by
  intro pins s σ H x y v u Q I rx ry h
  exact op_in_sign pins s σ H x y v u Q I rx ry h) op_in_seq (op_inD hu)
theorem notIn_ok (hu : X.A.units + 65 < cLine) : ∃ r, OpR X (compareOp .NotIn) r ∧ OpD X.K r (oInN true) := in_core true hu op_notin_str (by
  intro pins s σ H x y v u Q I rx ry h
  exact op_notIn_sign pins s σ H x y v u Q I rx ry h) op_notIn_seq (op_notInD hu)
theorem pd_in (hu : X.A.units + 65 < cLine) (ha : PE X a (lE X.K W ra)) (hb : PE X b (lE X.K W rb)) (hm : behindInMarks .In b = false := by rfl) : PE X (.Compare a [.In] [b] pos) (lE X.K W (rOp (oInN false) ra rb)) := let ⟨_, h1, h2⟩ := in_ok hu; pd_cmp h1 h2 ha hb hm
theorem pd_notIn (hu : X.A.units + 65 < cLine) (ha : PE X a (lE X.K W ra)) (hb : PE X b (lE X.K W rb)) (hm : behindInMarks .NotIn b = false := by rfl) : PE X (.Compare a [.NotIn] [b] pos) (lE X.K W (rOp (oInN true) ra rb)) := let ⟨_, h1, h2⟩ := notIn_ok hu; pd_cmp h1 h2 ha hb hm
end
end DL

namespace DL
open PySem L2
section
variable {X : Cx} {W : WX} {a b c : Expr} {ra rb rc : DE} {pos : Pos}
/-! ### tests -/
def truD (m : Mu) : D → Option Bool
  | .non => some false
  | .bl b => some b
  | .int i => some (i != 0)
  | .tup ds => some (!ds.isEmpty)
  | d => match asL m d with
    | some ds => some (!ds.isEmpty)
    | none => none
def rTru (ra : DE) : DT := fun δ m P PX => ra δ m (fun x m1 => match x with
  | .bl b => P b m1
  | .str y => y.length ≤ sizeLine ∧ P ((y.length : Int) != 0) m1
  | x => match truD m1 x with
    | some k => P k m1
    | none => False) PX
theorem isEmpty_rp {K : PySem.W.Frag} {H : Hp} {vs : List V} {ds : List D} (r : RpL K H vs ds) : vs.isEmpty = ds.isEmpty := by cases r <;> rfl
theorem tru_rp {K : PySem.W.Frag} {F : Hp} {H0 H : Hp} {m : Mu} {v : V} {d : D} {k : Bool} (ok : Ok K F H0 m H) (r : Rp K H0 v d) (h : truD m d = some k) : TruV K v H k := by
  have fin : (match asL m d with | some ds => some (!ds.isEmpty) | none => none) = some k → TruV K v H k := fun h => by
    split at h
    · rename_i ds e
      cases h
      obtain ⟨p, vs, rfl, q, t⟩ := asL_rp ok r e
      exact .inl ⟨vs, q, by rw [isEmpty_rp t]⟩
    · cases h
  cases r with
  | non => cases h; rfl
  | bl b => cases h; rfl
  | int i => cases h; rfl
  | str x => exact fin h
  | ty n => exact fin h
  | adr p => exact fin h
  | lst q t => exact fin h
  | tup q t => cases h; exact .inr (.inl ⟨_, seqT_mono ok.same q, by rw [isEmpty_rp t]⟩)
  | dct _ _ _ => exact fin h
  | ins _ _ _ => exact fin h
theorem dt_tru (ha : PE X a (lE X.K W ra)) (he : ∀ whole, isTrue a X.env whole = (do let v ← whole; standAt a.pos; holding [v] (truthy v)) := by intro _; rfl) : PT X a (lT X.K W (rTru ra)) := by
  refine PT.imp (pt_truth ha he) fun σ H Q h => ?_
  obtain ⟨F, H0, m, δ, P, PX, ok, rs, h, g, gx⟩ := h
  refine ⟨F, H0, m, δ, _, PX, ok, rs, h, fun x H1 H01 m1 d s1 ok1 r1 h1 => ?_, gx⟩
  dsimp only at h1
  split at h1
  · cases r1
    exact ⟨_, rfl, g _ _ _ _ s1 ok1 h1⟩
  · cases r1
    exact ⟨_, ⟨h1.1, rfl⟩, g _ _ _ _ s1 ok1 h1.2⟩
  · split at h1
    · rename_i k e
      exact ⟨_, tru_rp ok1 r1 e, g _ _ _ _ s1 ok1 h1⟩
    · exact h1.elim
/-- a comparison as a test -/
def rTst (ra : DE) : DT := fun δ m P PX => ra δ m (fun x m1 => match x with | .bl b => P b m1 | _ => False) PX
theorem lT_test {K : PySem.W.Frag} {σ : St} {H : Hp} {Q : Bool → Hp → Prop} (h : lT K W (rTst ra) σ H Q) : tTest (lE K W ra) σ H Q := by
  obtain ⟨F, H0, m, δ, P, PX, ok, rs, h, g, gx⟩ := h
  refine ⟨F, H0, m, δ, _, PX, ok, rs, h, fun x H1 H01 m1 d s1 ok1 r1 h1 => ?_, gx⟩
  dsimp only at h1
  split at h1
  · cases r1
    exact ⟨_, rfl, g _ _ _ _ s1 ok1 h1⟩
  · exact h1.elim
theorem tOp_mono {K : PySem.W.Frag} {r : R2} {ro : DO} (od : OpD K r ro) {σ : St} {H : Hp} {Q : Bool → Hp → Prop} (h : lT K W (rTst (rOp ro ra rb)) σ H Q) : tTest (tOp r (lE K W ra) (lE K W rb)) σ H Q := lE_op od (lT_test h)
theorem dt_cmp {op : CmpOp} {r : R2} {ro : DO} (ho : OpR X (compareOp op) r) (od : OpD X.K r ro) (ha : PE X a (lE X.K W ra)) (hb : PE X b (lE X.K W rb)) (hm : behindInMarks op b = false := by first | exact nomark _ | rfl) : PT X (.Compare a [op] [b] pos) (lT X.K W (rTst (rOp ro ra rb))) :=
  PT.imp (pt_cmpR ho ha hb hm) fun _ _ _ h => tOp_mono od h
theorem dt_lt (ha : PE X a (lE X.K W ra)) (hb : PE X b (lE X.K W rb)) : PT X (.Compare a [.Lt] [b] pos) (lT X.K W (rTst (rOp oLt ra rb))) := dt_cmp op_lt lt_ok ha hb
theorem dt_le (ha : PE X a (lE X.K W ra)) (hb : PE X b (lE X.K W rb)) : PT X (.Compare a [.LtE] [b] pos) (lT X.K W (rTst (rOp oLe ra rb))) := dt_cmp op_le le_ok ha hb
theorem dt_gt (ha : PE X a (lE X.K W ra)) (hb : PE X b (lE X.K W rb)) : PT X (.Compare a [.Gt] [b] pos) (lT X.K W (rTst (rOp oGt ra rb))) := dt_cmp op_gt gt_ok ha hb
theorem dt_ge (ha : PE X a (lE X.K W ra)) (hb : PE X b (lE X.K W rb)) : PT X (.Compare a [.GtE] [b] pos) (lT X.K W (rTst (rOp oGe ra rb))) := dt_cmp op_ge ge_ok ha hb
theorem dt_eq (hu : X.A.units + 64 < cLine) (ha : PE X a (lE X.K W ra)) (hb : PE X b (lE X.K W rb)) : PT X (.Compare a [.Eq] [b] pos) (lT X.K W (rTst (rOp oEq ra rb))) := let ⟨_, h1, h2⟩ := eq_ok hu; dt_cmp h1 h2 ha hb
theorem dt_ne (hu : X.A.units + 64 < cLine) (ha : PE X a (lE X.K W ra)) (hb : PE X b (lE X.K W rb)) : PT X (.Compare a [.NotEq] [b] pos) (lT X.K W (rTst (rOp oNe ra rb))) := let ⟨_, h1, h2⟩ := ne_ok hu; dt_cmp h1 h2 ha hb
theorem dt_isN (ha : PE X a (lE X.K W ra)) (hb : PE X b (lE X.K W rb)) : PT X (.Compare a [.Is] [b] pos) (lT X.K W (rTst (rOp (oIsN false) ra rb))) := dt_cmp op_isN isN_ok ha hb
theorem dt_notN (ha : PE X a (lE X.K W ra)) (hb : PE X b (lE X.K W rb)) : PT X (.Compare a [.IsNot] [b] pos) (lT X.K W (rTst (rOp (oIsN true) ra rb))) := dt_cmp op_notN notN_ok ha hb
theorem dt_in (hu : X.A.units + 65 < cLine) (ha : PE X a (lE X.K W ra)) (hb : PE X b (lE X.K W rb)) (hm : behindInMarks .In b = false := by rfl) : PT X (.Compare a [.In] [b] pos) (lT X.K W (rTst (rOp (oInN false) ra rb))) := let ⟨_, h1, h2⟩ := in_ok hu; dt_cmp h1 h2 ha hb hm
theorem dt_notIn (hu : X.A.units + 65 < cLine) (ha : PE X a (lE X.K W ra)) (hb : PE X b (lE X.K W rb)) (hm : behindInMarks .NotIn b = false := by rfl) : PT X (.Compare a [.NotIn] [b] pos) (lT X.K W (rTst (rOp (oInN true) ra rb))) := let ⟨_, h1, h2⟩ := notIn_ok hu; dt_cmp h1 h2 ha hb hm
/-! ### chains of whole numbers -/
def rChain (ro ro' : DO) (ra rb rc : DE) : DE := fun δ m P PX => ra δ m (fun x m1 => rb δ m1 (fun y m2 => ro x y m2 fun z m3 => match z with
  | .bl true => rc δ m3 (fun w m4 => ro' y w m4 P) PX
  | .bl false => P (.bl false) m3
  | _ => False) PX) PX
theorem lE_chain {K : PySem.W.Frag} {r r' : R2} {ro ro' : DO} (od : OpD K r ro) (od' : OpD K r' ro') {σ : St} {H : Hp} {Q : VK} (h : lE K W (rChain ro ro' ra rb rc) σ H Q) : tChain r r' (lE K W ra) (lE K W rb) (lE K W rc) σ H Q := by
  obtain ⟨F, H0, m, δ, P, PX, ok, rs, h, g, gx⟩ := h
  refine ⟨F, H0, m, δ, _, PX, ok, rs, h, fun x H1 H01 m1 d1 s1 ok1 r1 h1 => ⟨F, H01, m1, δ, _, PX, ok1, rs.mono s1, h1, fun y H2 H02 m2 d2 s2 ok2 r2 h2 => ?_, gx.mono s1⟩, gx⟩
  refine od F H02 m2 H2 x y d1 d2 _ _ ok2 (r1.mono s2) r2 h2 fun z H3 H03 m3 d3 s3 ok3 r3 h3 => ?_
  split at h3
  · cases r3
    refine ⟨true, rfl, ?_⟩
    rw [if_pos rfl]
    have s13 := (s1.trans s2).trans s3
    exact ⟨F, H03, m3, δ, _, PX, ok3, rs.mono s13, h3, fun w H4 H04 m4 d4 s4 ok4 r4 h4 => od' F H04 m4 H4 y w d2 d4 P Q ok4 (r2.mono (s3.trans s4)) r4 h4 (g.mono (s13.trans s4)), gx.mono s13⟩
  · cases r3
    refine ⟨false, rfl, ?_⟩
    rw [if_neg Bool.false_ne_true]
    exact g _ _ _ _ _ ((s1.trans s2).trans s3) ok3 (.bl _) h3
  · exact h3.elim
theorem pd_chain {op op' : CmpOp} {r r' : R2} {ro ro' : DO} (ho : OpR X (compareOp op) r) (ho' : OpR X (compareOp op') r') (od : OpD X.K r ro) (od' : OpD X.K r' ro') (ha : PE X a (lE X.K W ra)) (hb : PE X b (lE X.K W rb)) (hc : PE X c (lE X.K W rc))
    (hm : lastMarks [op, op'] [b, c] = false := by with_unfolding_all rfl) : PE X (.Compare a [op, op'] [b, c] pos) (lE X.K W (rChain ro ro' ra rb rc)) := PE.imp (pe_chain ho ho' ha hb hc hm) fun _ _ _ h => lE_chain od od' h
theorem dt_chain {op op' : CmpOp} {r r' : R2} {ro ro' : DO} (ho : OpR X (compareOp op) r) (ho' : OpR X (compareOp op') r') (od : OpD X.K r ro) (od' : OpD X.K r' ro') (ha : PE X a (lE X.K W ra)) (hb : PE X b (lE X.K W rb)) (hc : PE X c (lE X.K W rc))
    (hm : lastMarks [op, op'] [b, c] = false := by with_unfolding_all rfl) : PT X (.Compare a [op, op'] [b, c] pos) (lT X.K W (rTst (rChain ro ro' ra rb rc))) := PT.imp (pt_chain ho ho' ha hb hc hm) fun _ _ _ h => lE_chain od od' (lT_test h)
/-! ### and, or, not, if -/
variable {qa qb : DT} {rest : List Expr}
def rAnd (qa qb : DT) : DT := fun δ m P PX => qa δ m (fun k m1 => match k with | true => qb δ m1 P PX | false => P false m1) PX
def rOr (qa qb : DT) : DT := fun δ m P PX => qa δ m (fun k m1 => match k with | true => P true m1 | false => qb δ m1 P PX) PX
def rNot (qa : DT) : DT := fun δ m P PX => qa δ m (fun k m1 => P (!k) m1) PX
theorem dw_and1 (ha : PT X a (lT X.K W qa)) : PW X (.BoolOp .And [a] pos) (lT X.K W qa) := pw_and1 ha
theorem dw_or1 (ha : PT X a (lT X.K W qa)) : PW X (.BoolOp .Or [a] pos) (lT X.K W qa) := pw_or1 ha
theorem dw_and (ha : PT X a (lT X.K W qa)) (hb : PW X (.BoolOp .And (b :: rest) pos) (lT X.K W qb)) : PW X (.BoolOp .And (a :: b :: rest) pos) (lT X.K W (rAnd qa qb)) := by
  refine PW.imp (pw_and ha hb) fun σ H Q h => ?_
  obtain ⟨F, H0, m, δ, P, PX, ok, rs, h, g, gx⟩ := h
  refine ⟨F, H0, m, δ, _, PX, ok, rs, h, fun k H1 H01 m1 s1 ok1 h1 => ?_, gx⟩
  cases k with
  | true => rw [if_pos rfl]; exact ⟨F, H01, m1, δ, P, PX, ok1, rs.mono s1, h1, g.mono s1, gx.mono s1⟩
  | false => rw [if_neg Bool.false_ne_true]; exact g _ _ _ _ s1 ok1 h1
theorem dw_or (ha : PT X a (lT X.K W qa)) (hb : PW X (.BoolOp .Or (b :: rest) pos) (lT X.K W qb)) : PW X (.BoolOp .Or (a :: b :: rest) pos) (lT X.K W (rOr qa qb)) := by
  refine PW.imp (pw_or ha hb) fun σ H Q h => ?_
  obtain ⟨F, H0, m, δ, P, PX, ok, rs, h, g, gx⟩ := h
  refine ⟨F, H0, m, δ, _, PX, ok, rs, h, fun k H1 H01 m1 s1 ok1 h1 => ?_, gx⟩
  cases k with
  | true => rw [if_pos rfl]; exact g _ _ _ _ s1 ok1 h1
  | false => rw [if_neg Bool.false_ne_true]; exact ⟨F, H01, m1, δ, P, PX, ok1, rs.mono s1, h1, g.mono s1, gx.mono s1⟩
theorem dt_not (ha : PT X a (lT X.K W qa)) : PT X (.UnaryOp .Not a pos) (lT X.K W (rNot qa)) := by
  refine PT.imp (pt_not ha) fun σ H Q h => ?_
  obtain ⟨F, H0, m, δ, P, PX, ok, rs, h, g, gx⟩ := h
  exact ⟨F, H0, m, δ, _, PX, ok, rs, h, fun k H1 H01 m1 s1 ok1 h1 => g _ _ _ _ s1 ok1 h1, gx⟩
/-- as values, truths -/
def rAndV (ra rb : DE) : DE := fun δ m P PX => ra δ m (fun x m1 => match x with | .bl true => rb δ m1 P PX | .bl false => P (.bl false) m1 | _ => False) PX
def rOrV (ra rb : DE) : DE := fun δ m P PX => ra δ m (fun x m1 => match x with | .bl true => P (.bl true) m1 | .bl false => rb δ m1 P PX | _ => False) PX
def rNotV (ra : DE) : DE := fun δ m P PX => ra δ m (fun x m1 => match x with | .bl k => P (.bl (!k)) m1 | _ => False) PX
theorem pd_one {op} (h : PE X a (lE X.K W ra)) : PE X (.BoolOp op [a] pos) (lE X.K W ra) := pe_one h
theorem pd_and (ha : PE X a (lE X.K W ra)) (hb : PE X (.BoolOp .And (b :: rest) pos) (lE X.K W rb)) : PE X (.BoolOp .And (a :: b :: rest) pos) (lE X.K W (rAndV ra rb)) := by
  refine PE.imp (pe_and ha hb) fun σ H Q h => ?_
  obtain ⟨F, H0, m, δ, P, PX, ok, rs, h, g, gx⟩ := h
  refine ⟨F, H0, m, δ, _, PX, ok, rs, h, fun x H1 H01 m1 d s1 ok1 r1 h1 => ?_, gx⟩
  dsimp only at h1
  split at h1
  · cases r1
    exact ⟨true, rfl, by rw [if_pos rfl]; exact ⟨F, H01, m1, δ, P, PX, ok1, rs.mono s1, h1, g.mono s1, gx.mono s1⟩⟩
  · cases r1
    exact ⟨false, rfl, by rw [if_neg Bool.false_ne_true]; exact g _ _ _ _ _ s1 ok1 (.bl _) h1⟩
  · exact h1.elim
theorem pd_or (ha : PE X a (lE X.K W ra)) (hb : PE X (.BoolOp .Or (b :: rest) pos) (lE X.K W rb)) : PE X (.BoolOp .Or (a :: b :: rest) pos) (lE X.K W (rOrV ra rb)) := by
  refine PE.imp (pe_or ha hb) fun σ H Q h => ?_
  obtain ⟨F, H0, m, δ, P, PX, ok, rs, h, g, gx⟩ := h
  refine ⟨F, H0, m, δ, _, PX, ok, rs, h, fun x H1 H01 m1 d s1 ok1 r1 h1 => ?_, gx⟩
  dsimp only at h1
  split at h1
  · cases r1
    exact ⟨true, rfl, by rw [if_pos rfl]; exact g _ _ _ _ _ s1 ok1 (.bl _) h1⟩
  · cases r1
    exact ⟨false, rfl, by rw [if_neg Bool.false_ne_true]; exact ⟨F, H01, m1, δ, P, PX, ok1, rs.mono s1, h1, g.mono s1, gx.mono s1⟩⟩
  · exact h1.elim
theorem pd_not (ha : PE X a (lE X.K W ra)) : PE X (.UnaryOp .Not a pos) (lE X.K W (rNotV ra)) := by
  refine PE.imp (pe_not ha) fun σ H Q h => ?_
  obtain ⟨F, H0, m, δ, P, PX, ok, rs, h, g, gx⟩ := h
  refine ⟨F, H0, m, δ, _, PX, ok, rs, h, fun x H1 H01 m1 d s1 ok1 r1 h1 => ?_, gx⟩
  dsimp only at h1
  split at h1
  · cases r1
    exact ⟨_, rfl, g _ _ _ _ _ s1 ok1 (.bl _) h1⟩
  · exact h1.elim
def rIfE (qa : DT) (ra rb : DE) : DE := fun δ m P PX => qa δ m (fun k m1 => match k with | true => ra δ m1 P PX | false => rb δ m1 P PX) PX
theorem pd_if (hc : PT X c (lT X.K W qa)) (ha : PE X a (lE X.K W ra)) (hb : PE X b (lE X.K W rb)) : PE X (.IfExp c a b pos) (lE X.K W (rIfE qa ra rb)) := by
  refine PE.imp (pe_ifExp hc ha hb) fun σ H Q h => ?_
  obtain ⟨F, H0, m, δ, P, PX, ok, rs, h, g, gx⟩ := h
  refine ⟨F, H0, m, δ, _, PX, ok, rs, h, fun k H1 H01 m1 s1 ok1 h1 => ?_, gx⟩
  cases k with
  | true => rw [if_pos rfl]; exact ⟨F, H01, m1, δ, P, PX, ok1, rs.mono s1, h1, g.mono s1, gx.mono s1⟩
  | false => rw [if_neg Bool.false_ne_true]; exact ⟨F, H01, m1, δ, P, PX, ok1, rs.mono s1, h1, g.mono s1, gx.mono s1⟩
/-! ### arguments, displays -/
variable {e : Expr} {es : List Expr} {qs : DA}
def rNil : DA := fun _ m P _ => P [] m
def rCons (ra : DE) (qs : DA) : DA := fun δ m P PX => ra δ m (fun x m1 => qs δ m1 (fun xs m2 => P (x :: xs) m2) PX) PX
theorem da_nil : PA X [] (lA X.K W rNil) := by
  refine PA.imp pa_nil fun σ H Q h => ?_
  obtain ⟨F, H0, m, δ, P, PX, ok, rs, h, g, gx⟩ := h
  exact g _ _ _ _ _ (Same.refl _) ok .nil h
theorem da_cons (ha : PE X e (lE X.K W ra)) (hr : PA X es (lA X.K W qs)) (hs : starEach (e :: es) X.env = (false, eval e X.env) :: starEach es X.env := by rfl) : PA X (e :: es) (lA X.K W (rCons ra qs)) := by
  refine PA.imp (pa_cons ha hr hs) fun σ H Q h => ?_
  obtain ⟨F, H0, m, δ, P, PX, ok, rs, h, g, gx⟩ := h
  exact ⟨F, H0, m, δ, _, PX, ok, rs, h, fun x H1 H01 m1 d s1 ok1 r1 h1 => ⟨F, H01, m1, δ, _, PX, ok1, rs.mono s1, h1, fun xs H2 H02 m2 ds s2 ok2 r2 h2 => g _ _ _ _ _ (s1.trans s2) ok2 (.cons (r1.mono s2) r2) h2, gx.mono s1⟩, gx⟩
def rTup (qs : DA) : DE := fun δ m P PX => qs δ m (fun xs m1 => xs.length ≤ sizeLine ∧ P (.tup xs) m1) PX
def rLst (qs : DA) : DE := fun δ m P PX => qs δ m (fun xs m1 => xs.length ≤ sizeLine ∧ P (.lst xs) m1) PX
theorem pd_tup {x1} (h : PA X es (lA X.K W qs)) : PE X (.Tuple es x1 pos) (lE X.K W (rTup qs)) := by
  refine PE.imp (pe_tup h) fun σ H Q h => ?_
  obtain ⟨F, H0, m, δ, P, PX, ok, rs, h, g, gx⟩ := h
  exact ⟨F, H0, m, δ, _, PX, ok, rs, h, fun xs H1 H01 m1 ds s1 ok1 r1 h1 => ⟨by rw [r1.length]; exact h1.1, fun p hp => (g.mono s1).tup ok1 hp r1 h1.2⟩, gx⟩
theorem pd_lst (h : PA X es (lA X.K W qs)) : PE X (.List es pos) (lE X.K W (rLst qs)) := by
  refine PE.imp (pe_lst h) fun σ H Q h => ?_
  obtain ⟨F, H0, m, δ, P, PX, ok, rs, h, g, gx⟩ := h
  exact ⟨F, H0, m, δ, _, PX, ok, rs, h, fun xs H1 H01 m1 ds s1 ok1 r1 h1 => ⟨by rw [r1.length]; exact h1.1, fun p hp => (g.mono s1).lst ok1 hp r1 h1.2⟩, gx⟩
/-- a list of ours -/
def rLstM (qs : DA) : DE := fun δ m P PX => qs δ m (fun xs m1 => xs.length ≤ sizeLine ∧ ∀ p, m1 p = none → P (.adr p) (mset m1 p (.lst xs))) PX
theorem GV.lstM {K : PySem.W.Frag} {F : Hp} {H0 H : Hp} {m : Mu} {P : DK} {Q : VK} {p : Addr} {vs : List V} {ds : List D} (g : GV K F H0 P Q) (ok : Ok K F H0 m H) (hp : H p = none) (r : RpL K H0 vs ds) (h : ∀ p, m p = none → P (.adr p) (mset m p (.lst ds))) : Q (.ref p) (upd H p (.lst vs)) :=
  g _ _ H0 _ _ (Same.refl _) (ok.newM (o := .lst ds) hp ⟨vs, upd_same, r⟩) (.adr p) (h p (ok.free hp).2)
theorem pd_lstM (h : PA X es (lA X.K W qs)) : PE X (.List es pos) (lE X.K W (rLstM qs)) := by
  refine PE.imp (pe_lst h) fun σ H Q h => ?_
  obtain ⟨F, H0, m, δ, P, PX, ok, rs, h, g, gx⟩ := h
  exact ⟨F, H0, m, δ, _, PX, ok, rs, h, fun xs H1 H01 m1 ds s1 ok1 r1 h1 => ⟨by rw [r1.length]; exact h1.1, fun p hp => (g.mono s1).lstM ok1 hp r1 h1.2⟩, gx⟩
/-! ### items, slices -/
def oIx : DO := fun x y m P => match y with
  | .int i => match x with
    | .tup ds => match atI ds i with
      | some d => P d m
      | none => False
    | .str z => z.length ≤ sizeLine ∧ match atI z.cps.toList i with
      | some c => P (.str ⟨#[c]⟩) m
      | none => False
    | x => match asL m x with
      | some ds => match atI ds i with
        | some d => P d m
        | none => False
      | none => False
  | _ => False
theorem ix_ok {K : PySem.W.Frag} : OpD K (fun x y H Q => rIxL K x y H Q ∨ rIxT K x y H Q ∨ rIxS x y H Q) oIx := by
  intro F H0 m H x y dx dy P Q ok rx ry h g
  unfold oIx at h
  split at h
  · rename_i i
    cases ry
    split at h
    · rename_i ds
      obtain ⟨p, vs, rfl, q, r⟩ := tup_rp ok rx
      split at h
      · rename_i d e
        obtain ⟨v, e2, rv⟩ := r.at_ e
        exact .inr (.inl ⟨p, vs, i, v, rfl, rfl, q, e2, g.id ok rv h⟩)
      · exact h.elim
    · rename_i z
      cases rx
      obtain ⟨hz, h⟩ := h
      split at h
      · rename_i c e
        exact .inr (.inr ⟨z, i, c, rfl, rfl, hz, e, g.id ok (.str _) h⟩)
      · exact h.elim
    · split at h
      · rename_i ds e
        obtain ⟨p, vs, rfl, q, r⟩ := asL_rp ok rx e
        split at h
        · rename_i d e
          obtain ⟨v, e2, rv⟩ := r.at_ e
          exact .inl ⟨p, vs, i, v, rfl, rfl, q, e2, g.id ok rv h⟩
        · exact h.elim
      · exact h.elim
  · exact h.elim
theorem pd_ix (ha : PE X a (lE X.K W ra)) (hb : PE X b (lE X.K W rb)) (hs : PlainIx b := by intro _ _; rfl) : PE X (.Subscript a b pos) (lE X.K W (rOp oIx ra rb)) :=
  PE.imp (pe_ix ix_seq ha hb hs) fun _ _ _ h => lE_op ix_ok h
abbrev DP := DSt → Mu → (Option Int → Mu → Prop) → DX → Prop
def GO (K : PySem.W.Frag) (F : Hp) (H0 : Hp) (P : Option Int → Mu → Prop) (Q : Option Int → Hp → Prop) : Prop := ∀ o H' H0' m', Same H0 H0' → Ok K F H0' m' H' → P o m' → Q o H'
def lO (K : PySem.W.Frag) (W : WX) (r : DP) : TO := fun σ H Q => ∃ F H0 m δ P PX, Ok K F H0 m H ∧ RpS K H0 σ δ ∧ r δ m P PX ∧ GO K F H0 P Q ∧ GX K F H0 PX fun c xd H' => W c xd σ H'
def rNoP : DP := fun _ m P _ => P none m
def rPart (ra : DE) : DP := fun δ m P PX => ra δ m (fun x m1 => match x with | .int i => P (some i) m1 | _ => False) PX
theorem PO.imp {X : Cx} {e : Option Expr} {t t' : TO} (h : PO X e t) (k : ∀ σ H Q, t' σ H Q → t σ H Q) : PO X e t' := ⟨fun pins s σ H Q I w => h.run pins s σ H Q I (k σ H Q w)⟩
theorem dp_none : PO X none (lO X.K W rNoP) := by
  refine PO.imp po_none fun σ H Q h => ?_
  obtain ⟨F, H0, m, δ, P, PX, ok, rs, h, g, gx⟩ := h
  exact g _ _ _ _ (Same.refl _) ok h
theorem dp_some (ha : PE X a (lE X.K W ra)) : PO X (some a) (lO X.K W (rPart ra)) := by
  refine PO.imp (po_some ha) fun σ H Q h => ?_
  obtain ⟨F, H0, m, δ, P, PX, ok, rs, h, g, gx⟩ := h
  refine ⟨F, H0, m, δ, _, PX, ok, rs, h, fun x H1 H01 m1 d s1 ok1 r1 h1 => ?_, gx⟩
  dsimp only at h1
  split at h1
  · cases r1
    exact ⟨_, rfl, g _ _ _ _ s1 ok1 h1⟩
  · exact h1.elim
def oSl : D → Option Int → Option Int → Mu → DK → Prop := fun x lo hi m P => match x with
  | .tup ds => P (.tup (cutD ds lo hi)) m
  | .str z => z.length ≤ sizeLine ∧ P (.str (cutS z lo hi)) m
  | x => match asL m x with
    | some ds => P (.lst (cutD ds lo hi)) m
    | none => False
theorem cutV_whole {xs : List V} {lo hi : Option Int} (h : HT.sIx xs.length 0 lo = 0 ∧ HT.sIx xs.length xs.length hi = xs.length) : cutV xs lo hi = xs := by
  unfold cutV
  rw [h.1, h.2]
  simp
def rSl (ra : DE) (pl ph : DP) : DE := fun δ m P PX => ra δ m (fun x m1 => pl δ m1 (fun l m2 => ph δ m2 (fun u m3 => oSl x l u m3 P) PX) PX) PX
theorem pd_sl {lo hi : Option Expr} {pl ph : DP} {p2 : Pos} (ha : PE X a (lE X.K W ra)) (hl : PO X lo (lO X.K W pl)) (hh : PO X hi (lO X.K W ph)) : PE X (.Subscript a (.Slice lo hi none p2) pos) (lE X.K W (rSl ra pl ph)) := by
  refine PE.imp (pe_slice (sl_list.or (sl_tupA.or sl_str)) ha hl hh) fun σ H Q h => ?_
  obtain ⟨F, H0, m, δ, P, PX, ok, rs, h, g, gx⟩ := h
  refine ⟨F, H0, m, δ, _, PX, ok, rs, h, fun x H1 H01 m1 d1 s1 ok1 r1 h1 => ⟨F, H01, m1, δ, _, PX, ok1, rs.mono s1, h1, fun l H2 H02 m2 s2 ok2 h2 => ⟨F, H02, m2, δ, _, PX, ok2, (rs.mono s1).mono s2, h2, fun u H3 H03 m3 s3 ok3 h3 => ?_, (gx.mono s1).mono s2⟩, gx.mono s1⟩, gx⟩
  have g3 := ((g.mono s1).mono s2).mono s3
  have r3 := (r1.mono s2).mono s3
  unfold oSl at h3
  split at h3
  · rename_i ds
    obtain ⟨p, vs, rfl, q, r⟩ := tup_rp ok3 r3
    refine .inr (.inl ⟨p, vs, rfl, q, fun hw => ?_, fun _ z hz => g3.tup ok3 hz (r.cut _ _) h3⟩)
    have e : cutD ds l u = ds := by
      unfold cutD
      rw [← r.length, hw.1, hw.2, r.length]
      simp
    rw [e] at h3
    exact g3.id ok3 r3 h3
  · cases r3
    exact .inr (.inr ⟨_, rfl, h3.1, g3.id ok3 (.str _) h3.2⟩)
  · split at h3
    · rename_i ds e
      obtain ⟨p, vs, rfl, q, r⟩ := asL_rp ok3 r3 e
      exact .inl ⟨p, vs, rfl, q, fun z hz => g3.lst ok3 hz (r.cut _ _) h3⟩
    · exact h3.elim
end
end DL

namespace DL
open PySem L2
section
variable {X : Cx} {W : WX} {a b c : Expr} {ra rb rc : DE} {pos p : Pos} {e : Expr} {es : List Expr} {qs : DA}
/-! ### calls of built-ins -/
abbrev DC := List D → Mu → DK → Prop
def CalD (K : PySem.W.Frag) (r : List V → Hp → VK → Prop) (ro : DC) : Prop := ∀ F H0 m H vs ds P Q, Ok K F H0 m H → RpL K H0 vs ds → ro ds m P → GV K F H0 P Q → r vs H Q
def rCB (ro : DC) (qs : DA) : DE := fun δ m P PX => qs δ m (fun xs m1 => ro xs m1 P) PX
theorem lE_cb {K : PySem.W.Frag} {r : List V → Hp → VK → Prop} {ro : DC} (cd : CalD K r ro) {σ : St} {H : Hp} {Q : VK} (h : lE K W (rCB ro qs) σ H Q) : tCB r (lA K W qs) σ H Q := by
  obtain ⟨F, H0, m, δ, P, PX, ok, rs, h, g, gx⟩ := h
  exact ⟨F, H0, m, δ, _, PX, ok, rs, h, fun xs H1 H01 m1 ds s1 ok1 r1 h1 => cd _ _ _ _ _ _ _ _ ok1 r1 h1 (g.mono s1), gx⟩
theorem pd_callB {x : Str} {id : String} {r : List V → Hp → VK → Prop} {ro : DC} (hc : CallR X (.builtin id) r) (cd : CalD X.K r ro) (hm : X.mg x = none) (hv : bootBuiltins x = some (.builtin id)) (ha : PA X (e :: es) (lA X.K W qs)) (hg : Gl X x := by rfl) (hn : x ≠ "__name__" := by decide) (hdb : (x == ("__debug__" : Str)) = false := by decide)
    (he : starEach (e :: es) X.env = (false, eval e X.env) :: starEach es X.env := by rfl) (hpl : (backTo pos (starEach es X.env)).any (·.1) = false := by rfl) : PE X (.Call (.Name x p) (e :: es) [] pos) (lE X.K W (rCB ro qs)) :=
  PE.imp (pe_callB hc hg hm hv ha hn hdb he hpl) fun _ _ _ h => lE_cb cd h
theorem pd_callTy {x : Str} {T : String} {r : List V → Hp → VK → Prop} {ro : DC} (hc : CallR X (.type T) r) (cd : CalD X.K r ro) (hm : X.mg x = none) (hv : bootBuiltins x = some (.type T)) (ha : PA X (e :: es) (lA X.K W qs)) (hg : Gl X x := by rfl) (hn : x ≠ "__name__" := by decide) (hdb : (x == ("__debug__" : Str)) = false := by decide)
    (he : starEach (e :: es) X.env = (false, eval e X.env) :: starEach es X.env := by rfl) (hpl : (backTo pos (starEach es X.env)).any (·.1) = false := by rfl) : PE X (.Call (.Name x p) (e :: es) [] pos) (lE X.K W (rCB ro qs)) :=
  PE.imp (pe_callTy hc hg hm hv ha hn hdb he hpl) fun _ _ _ h => lE_cb cd h
theorem RpL.one {K : PySem.W.Frag} {H : Hp} {vs : List V} {d : D} (r : RpL K H vs [d]) : ∃ v, vs = [v] ∧ Rp K H v d := by
  cases r with
  | cons h t => cases t; exact ⟨_, rfl, h⟩
theorem RpL.two {K : PySem.W.Frag} {H : Hp} {vs : List V} {d e : D} (r : RpL K H vs [d, e]) : ∃ v w, vs = [v, w] ∧ Rp K H v d ∧ Rp K H w e := by
  cases r with
  | cons h t =>
    obtain ⟨w, rfl, q⟩ := t.one
    exact ⟨_, _, rfl, h, q⟩
def cLen : DC := fun xs m P => match xs with
  | [.str y] => y.length ≤ sizeLine ∧ P (.int y.length) m
  | [.tup ds] => P (.int ds.length) m
  | [x] => match asL m x with
    | some ds => P (.int ds.length) m
    | none => False
  | _ => False
theorem len_ok {K : PySem.W.Frag} : CalD K (fun xs H Q => ∃ x n, xs = [x] ∧ LenV K x H n ∧ Q (.int n) H) cLen := by
  intro F H0 m H vs ds P Q ok r h g
  unfold cLen at h
  split at h
  · obtain ⟨v, rfl, q⟩ := r.one
    cases q
    exact ⟨_, _, rfl, ⟨h.1, rfl⟩, g.id ok (.int _) h.2⟩
  · obtain ⟨v, rfl, q⟩ := r.one
    obtain ⟨p, ws, rfl, q2, r2⟩ := tup_rp ok q
    exact ⟨_, _, rfl, .inr ⟨_, q2, rfl⟩, by rw [r2.length]; exact g.id ok (.int _) h⟩
  · obtain ⟨v, rfl, q⟩ := r.one
    split at h
    · rename_i es e1
      obtain ⟨p, ws, rfl, q2, r2⟩ := asL_rp ok q e1
      exact ⟨_, _, rfl, .inl ⟨_, q2, rfl⟩, by rw [r2.length]; exact g.id ok (.int _) h⟩
    · exact h.elim
  · exact h.elim
theorem pd_len {x : Str} (hm : X.mg x = none) (hv : bootBuiltins x = some (.builtin "len")) (ha : PA X (e :: es) (lA X.K W qs)) (hg : Gl X x := by rfl) (hn : x ≠ "__name__" := by decide) (hdb : (x == ("__debug__" : Str)) = false := by decide)
    (he : starEach (e :: es) X.env = (false, eval e X.env) :: starEach es X.env := by rfl) (hpl : (backTo pos (starEach es X.env)).any (·.1) = false := by rfl) : PE X (.Call (.Name x p) (e :: es) [] pos) (lE X.K W (rCB cLen qs)) := pd_callB call_len len_ok hm hv ha hg hn hdb he hpl
def cInt : DC := fun xs m P => match xs with
  | [.int i] => P (.int i) m
  | [.bl k] => P (.int (if k then 1 else 0)) m
  | _ => False
theorem int_ok {K : PySem.W.Frag} : CalD K (fun xs H Q => (∃ i, xs = [.int i] ∧ Q (.int i) H) ∨ ∃ k, xs = [.bl k] ∧ Q (.int (if k then 1 else 0)) H) cInt := by
  intro F H0 m H vs ds P Q ok r h g
  unfold cInt at h
  split at h
  · obtain ⟨v, rfl, q⟩ := r.one
    cases q
    exact .inl ⟨_, rfl, g.id ok (.int _) h⟩
  · obtain ⟨v, rfl, q⟩ := r.one
    cases q
    exact .inr ⟨_, rfl, g.id ok (.int _) h⟩
  · exact h.elim
theorem pd_intOf {x : Str} (hm : X.mg x = none) (hv : bootBuiltins x = some (.type "int")) (ha : PA X (e :: es) (lA X.K W qs)) (hg : Gl X x := by rfl) (hn : x ≠ "__name__" := by decide) (hdb : (x == ("__debug__" : Str)) = false := by decide)
    (he : starEach (e :: es) X.env = (false, eval e X.env) :: starEach es X.env := by rfl) (hpl : (backTo pos (starEach es X.env)).any (·.1) = false := by rfl) : PE X (.Call (.Name x p) (e :: es) [] pos) (lE X.K W (rCB cInt qs)) := pd_callTy call_int1 int_ok hm hv ha hg hn hdb he hpl
def cStr : DC := fun xs m P => match xs with
  | [.int i] => i.natAbs.log2 < 1920 ∧ P (.str (toString i)) m
  | _ => False
theorem str_ok {K : PySem.W.Frag} : CalD K (fun xs H Q => ∃ i : Int, xs = [.int i] ∧ i.natAbs.log2 < 1920 ∧ Q (.str (toString i)) H) cStr := by
  intro F H0 m H vs ds P Q ok r h g
  unfold cStr at h
  split at h
  · obtain ⟨v, rfl, q⟩ := r.one
    cases q
    exact ⟨_, rfl, h.1, g.id ok (.str _) h.2⟩
  · exact h.elim
theorem pd_strOf {x : Str} (hm : X.mg x = none) (hv : bootBuiltins x = some (.type "str")) (ha : PA X (e :: es) (lA X.K W qs)) (hg : Gl X x := by rfl) (hn : x ≠ "__name__" := by decide) (hdb : (x == ("__debug__" : Str)) = false := by decide)
    (he : starEach (e :: es) X.env = (false, eval e X.env) :: starEach es X.env := by rfl) (hpl : (backTo pos (starEach es X.env)).any (·.1) = false := by rfl) : PE X (.Call (.Name x p) (e :: es) [] pos) (lE X.K W (rCB cStr qs)) := pd_callTy call_str_int str_ok hm hv ha hg hn hdb he hpl
/-! isinstance of a built-in class -/
def tyN (m : Mu) : D → Option String
  | .non => some "NoneType"
  | .bl _ => some "bool"
  | .int _ => some "int"
  | .str _ => some "str"
  | .lst _ => some "list"
  | .tup _ => some "tuple"
  | .dct _ => some "dict"
  | .adr a => match m a with
    | some (.lst _) => some "list"
    | some (.dct _) => some "dict"
    | some (.dtt _) => some "dict"
    | _ => none
  | _ => none
theorem tyN_rp {K : PySem.W.Frag} {F : Hp} {H0 H : Hp} {m : Mu} {v : V} {d : D} {t : String} (ok : Ok K F H0 m H) (r : Rp K H0 v d) (h : tyN m d = some t) : TyX K H v (.type t) := by
  cases r with
  | non => cases h; exact .base .non
  | bl b => cases h; exact .base (.bl b)
  | int i => cases h; exact .base (.int i)
  | str x => cases h; exact .base (.str x)
  | ty n => cases h
  | adr p =>
    unfold tyN at h
    dsimp only at h
    split at h
    · rename_i e1
      cases h
      obtain ⟨_, vs, hv, _⟩ := ok.cell _ _ e1
      exact .base (.lst hv)
    · rename_i e1
      cases h
      obtain ⟨_, vs, hv, _⟩ := ok.cell _ _ e1
      exact .base (.dK hv)
    · rename_i e1
      cases h
      obtain ⟨_, vs, hv, _⟩ := ok.cell _ _ e1
      exact .base (.dT hv)
    · cases h
  | lst q _ =>
    cases h
    rcases ok.same.seq q with (q | ⟨o, q⟩) | ⟨o, its, n, h1, h2, _⟩
    · exact .base (.lst q)
    · exact .base (.frz q)
    · exact .kList h1 h2
  | tup q _ =>
    cases h
    rcases seqT_mono ok.same q with (q | ⟨o, q⟩) | ⟨o, its, n, h1, h2, _⟩
    · exact .base (.tup q)
    · exact .fTuple q
    · exact .kTuple h1 h2
  | dct q _ _ => cases h; exact .base (.dK (ok.same _ _ q))
  | ins _ _ _ => cases h
/-- is one built-in class under another one -/
def isB (t T : String) : Option Bool := kitB t T
def cIsi : DC := fun xs m P => match xs with
  | [x, .ty T] => match tyN m x with
    | some t => match isB t T with
      | some k => P (.bl k) m
      | none => False
    | none => False
  | _ => False
theorem isi_ok {K : PySem.W.Frag} : CalD K (rIsi K) cIsi := by
  intro F H0 m H vs ds P Q ok r h g
  unfold cIsi at h
  split at h
  · obtain ⟨v, w, rfl, q1, q2⟩ := r.two
    cases q2
    split at h
    · rename_i t e1
      split at h
      · rename_i k e2
        exact ⟨_, _, _, _, k, rfl, .ty _, tyN_rp ok q1 e1, kit_ty e2, g.id ok (.bl _) h⟩
      · exact h.elim
    · exact h.elim
  · exact h.elim
theorem pd_isi {x : Str} (hm : X.mg x = none) (hv : bootBuiltins x = some (.builtin "isinstance")) (ha : PA X (e :: es) (lA X.K W qs)) (hg : Gl X x := by rfl) (hn : x ≠ "__name__" := by decide) (hdb : (x == ("__debug__" : Str)) = false := by decide)
    (he : starEach (e :: es) X.env = (false, eval e X.env) :: starEach es X.env := by rfl) (hpl : (backTo pos (starEach es X.env)).any (·.1) = false := by rfl) : PE X (.Call (.Name x p) (e :: es) [] pos) (lE X.K W (rCB cIsi qs)) := pd_callB call_isi isi_ok hm hv ha hg hn hdb he hpl
/-! list(..), tuple(..) -/
def cLst : DC := fun xs m P => match xs with
  | [.tup ds] => P (.lst ds) m
  | [x] => match asL m x with
    | some ds => P (.lst ds) m
    | none => False
  | _ => False
theorem list_ok {K : PySem.W.Frag} : CalD K (fun xs H Q => ∃ p ys, xs = [.ref p] ∧ (SqL K H p ys ∨ SqT K H p ys) ∧ ∀ l, H l = none → Q (.ref l) (upd H l (.lst ys))) cLst := by
  intro F H0 m H vs ds P Q ok r h g
  unfold cLst at h
  split at h
  · obtain ⟨v, rfl, q⟩ := r.one
    obtain ⟨p, ws, rfl, q2, r2⟩ := tup_rp ok q
    exact ⟨p, ws, rfl, .inr q2, fun l hl => g.lst ok hl r2 h⟩
  · obtain ⟨v, rfl, q⟩ := r.one
    split at h
    · rename_i es e1
      obtain ⟨p, ws, rfl, q2, r2⟩ := asL_rp ok q e1
      exact ⟨p, ws, rfl, .inl q2, fun l hl => g.lst ok hl r2 h⟩
    · exact h.elim
  · exact h.elim
theorem pd_listOf {x : Str} (hm : X.mg x = none) (hv : bootBuiltins x = some (.type "list")) (ha : PA X (e :: es) (lA X.K W qs)) (hg : Gl X x := by rfl) (hn : x ≠ "__name__" := by decide) (hdb : (x == ("__debug__" : Str)) = false := by decide)
    (he : starEach (e :: es) X.env = (false, eval e X.env) :: starEach es X.env := by rfl) (hpl : (backTo pos (starEach es X.env)).any (·.1) = false := by rfl) : PE X (.Call (.Name x p) (e :: es) [] pos) (lE X.K W (rCB cLst qs)) := pd_callTy call_list_of list_ok hm hv ha hg hn hdb he hpl
def cTup : DC := fun xs m P => match xs with
  | [.tup ds] => P (.tup ds) m
  | [x] => match asL m x with
    | some ds => P (.tup ds) m
    | none => False
  | _ => False
theorem tuple_ok {K : PySem.W.Frag} : CalD K (fun xs H Q => ∃ p ys, xs = [.ref p] ∧ ((SqL K H p ys ∧ ∀ l, H l = none → Q (.ref l) (upd H l (.tup ys))) ∨ (SqT K H p ys ∧ Q (.ref p) H))) cTup := by
  intro F H0 m H vs ds P Q ok r h g
  unfold cTup at h
  split at h
  · obtain ⟨v, rfl, q⟩ := r.one
    obtain ⟨p, ws, rfl, q2, r2⟩ := tup_rp ok q
    exact ⟨p, ws, rfl, .inr ⟨q2, g.id ok q h⟩⟩
  · obtain ⟨v, rfl, q⟩ := r.one
    split at h
    · rename_i es e1
      obtain ⟨p, ws, rfl, q2, r2⟩ := asL_rp ok q e1
      exact ⟨p, ws, rfl, .inl ⟨q2, fun l hl => g.tup ok hl r2 h⟩⟩
    · exact h.elim
  · exact h.elim
theorem pd_tupleOf {x : Str} (hm : X.mg x = none) (hv : bootBuiltins x = some (.type "tuple")) (ha : PA X (e :: es) (lA X.K W qs)) (hg : Gl X x := by rfl) (hn : x ≠ "__name__" := by decide) (hdb : (x == ("__debug__" : Str)) = false := by decide)
    (he : starEach (e :: es) X.env = (false, eval e X.env) :: starEach es X.env := by rfl) (hpl : (backTo pos (starEach es X.env)).any (·.1) = false := by rfl) : PE X (.Call (.Name x p) (e :: es) [] pos) (lE X.K W (rCB cTup qs)) := pd_callTy call_tuple_of tuple_ok hm hv ha hg hn hdb he hpl
/-! all, any of truths -/
def boolsD : List D → Option (List Bool)
  | [] => some []
  | .bl b :: ds => (boolsD ds).map (b :: ·)
  | _ :: _ => none
theorem boolsD_map : ∀ bs : List Bool, boolsD (bs.map .bl) = some bs
  | [] => rfl
  | b :: bs => by simp [boolsD, boolsD_map bs]
theorem boolsD_rp {K : PySem.W.Frag} {H : Hp} : ∀ {vs : List V} {ds : List D} {bs : List Bool}, RpL K H vs ds → boolsD ds = some bs → vs = bs.map V.bl
  | _, _, _, .nil, h => by cases h; rfl
  | _, _, _, .cons q r, h => by
    cases q with
    | bl b =>
      simp only [boolsD, Option.map_eq_some_iff] at h
      obtain ⟨z, e2, rfl⟩ := h
      rw [boolsD_rp r e2]; rfl
    | _ => simp [boolsD] at h
def cAllAny (f : List Bool → Bool) : DC := fun xs m P => match xs with
  | [x] => match asL m x with
    | some ds => match boolsD ds with
      | some bs => P (.bl (f bs)) m
      | none => False
    | none => False
  | _ => False
theorem allAny_ok {K : PySem.W.Frag} {f : List Bool → Bool} : CalD K (fun vs H Q => ∃ (a : Addr) (bs : List Bool), vs = [V.ref a] ∧ SqL K H a (bs.map V.bl) ∧ Q (.bl (f bs)) H) (cAllAny f) := by
  intro F H0 m H vs ds P Q ok r h g
  unfold cAllAny at h
  split at h
  · obtain ⟨v, rfl, q⟩ := r.one
    split at h
    · rename_i es e1
      obtain ⟨p, ws, rfl, q2, r2⟩ := asL_rp ok q e1
      split at h
      · rename_i bs e2
        exact ⟨p, bs, rfl, by rw [← boolsD_rp r2 e2]; exact q2, g.id ok (.bl _) h⟩
      · exact h.elim
    · exact h.elim
  · exact h.elim
abbrev cAll : DC := cAllAny fun bs => bs.all id
abbrev cAny : DC := cAllAny fun bs => bs.any id
theorem pd_all {x : Str} (hc : X.calm = true) (hm : X.mg x = none) (hv : bootBuiltins x = some (.builtin "all")) (ha : PA X (e :: es) (lA X.K W qs)) (hg : Gl X x := by rfl) (hn : x ≠ "__name__" := by decide) (hdb : (x == ("__debug__" : Str)) = false := by decide)
    (he : starEach (e :: es) X.env = (false, eval e X.env) :: starEach es X.env := by rfl) (hpl : (backTo pos (starEach es X.env)).any (·.1) = false := by rfl) : PE X (.Call (.Name x p) (e :: es) [] pos) (lE X.K W (rCB cAll qs)) := pd_callB (cr_all hc) allAny_ok hm hv ha hg hn hdb he hpl
theorem pd_any {x : Str} (hc : X.calm = true) (hm : X.mg x = none) (hv : bootBuiltins x = some (.builtin "any")) (ha : PA X (e :: es) (lA X.K W qs)) (hg : Gl X x := by rfl) (hn : x ≠ "__name__" := by decide) (hdb : (x == ("__debug__" : Str)) = false := by decide)
    (he : starEach (e :: es) X.env = (false, eval e X.env) :: starEach es X.env := by rfl) (hpl : (backTo pos (starEach es X.env)).any (·.1) = false := by rfl) : PE X (.Call (.Name x p) (e :: es) [] pos) (lE X.K W (rCB cAny qs)) := pd_callB (cr_any hc) allAny_ok hm hv ha hg hn hdb he hpl
/-! ### sep.join(texts) -/
def textsD : List D → Option (List Str)
  | [] => some []
  | .str b :: ds => (textsD ds).map (b :: ·)
  | _ :: _ => none
theorem textsD_map : ∀ bs : List Str, textsD (bs.map .str) = some bs
  | [] => rfl
  | b :: bs => by simp [textsD, textsD_map bs]
theorem textsD_rp {K : PySem.W.Frag} {H : Hp} : ∀ {vs : List V} {ds : List D} {bs : List Str}, RpL K H vs ds → textsD ds = some bs → vs = bs.map V.str
  | _, _, _, .nil, h => by cases h; rfl
  | _, _, _, .cons q r, h => by
    cases q with
    | str b =>
      simp only [textsD, Option.map_eq_some_iff] at h
      obtain ⟨z, e2, rfl⟩ := h
      rw [textsD_rp r e2]; rfl
    | _ => simp [textsD] at h
def asLT (m : Mu) : D → Option (List D)
  | .tup ds => some ds
  | d => asL m d
def rJoin (ra rb : DE) : DE := fun δ m P PX => ra δ m (fun x m1 => match x with
  | .str s => rb δ m1 (fun y m2 => match asLT m2 y with
    | some ds => match textsD ds with
      | some ys => (ys.map (·.length)).sum + ys.length * s.length ≤ 16777216 ∧ P (.str (Txt.join s ys)) m2
      | none => False
    | none => False) PX
  | _ => False) PX
theorem asLT_rp {K : PySem.W.Frag} {F : Hp} {H0 H : Hp} {m : Mu} {v : V} {d : D} {ds : List D} (ok : Ok K F H0 m H) (r : Rp K H0 v d) (h : asLT m d = some ds) : ∃ a vs, v = .ref a ∧ (SqL K H a vs ∨ SqT K H a vs) ∧ RpL K H0 vs ds := by
  unfold asLT at h
  split at h
  · cases h
    obtain ⟨p, vs, rfl, q, r⟩ := tup_rp ok r
    exact ⟨p, vs, rfl, .inr q, r⟩
  · obtain ⟨p, vs, rfl, q, r⟩ := asL_rp ok r h
    exact ⟨p, vs, rfl, .inl q, r⟩
theorem pd_join {apos : Pos} (ho : PE X a (lE X.K W ra)) (he : PE X b (lE X.K W rb)) (hs : starEach [b] X.env = [(false, eval b X.env)] := by rfl) (hbase : attributeBase a "join" X.env (eval a X.env) = eval a X.env := by rfl) (hline : (apos.endLine == pos.line) = true := by rfl) :
    PE X (.Call (.Attribute a "join" apos) [b] [] pos) (lE X.K W (rJoin ra rb)) := by
  refine PE.imp (pe_join ho he hs hbase hline) fun σ H Q h => ?_
  obtain ⟨F, H0, m, δ, P, PX, ok, rs, h, g, gx⟩ := h
  refine ⟨F, H0, m, δ, _, PX, ok, rs, h, fun x H1 H01 m1 d s1 ok1 r1 h1 => ?_, gx⟩
  dsimp only at h1
  split at h1
  · cases r1
    refine ⟨⟨_, rfl⟩, F, H01, m1, δ, _, PX, ok1, rs.mono s1, h1, fun y H2 H02 m2 d2 s2 ok2 r2 h2 => ?_, gx.mono s1⟩
    dsimp only at h2
    split at h2
    · rename_i ds e1
      obtain ⟨q, vs, rfl, q2, r3⟩ := asLT_rp ok2 r2 e1
      split at h2
      · rename_i ys e2
        exact ⟨_, q, ys, rfl, rfl, by rw [← textsD_rp r3 e2]; exact q2, h2.1, (g.mono s1).mono s2 _ _ _ _ _ (Same.refl _) ok2 (.str _) h2.2⟩
      · exact h2.elim
    · exact h2.elim
  · exact h1.elim
end
end DL

namespace DL
open PySem L2
section
variable {X : Cx} {W : WX} {a b c : Expr} {ra rb rc : DE} {pos p : Pos} {e : Expr} {es : List Expr} {qs qk : DA}
/-! ### calls of defs -/
variable {k : Nat} {f : Addr} {fd : FuncData} {ps ks : List Str} {sp : SpD} {dvs : List V} {ds : List Value} {dD : List D} {x : Str}
def rCall (sp : SpD) (dD : List D) (qs : DA) : DE := fun δ m P PX => qs δ m (fun xs m1 => sp (xs ++ dD) m1 P PX) PX
theorem lE_call {K : PySem.W.Frag} (hD : ∀ H, RpL K H dvs dD) {σ : St} {H : Hp} {Q : VK} (h : lE K W (rCall sp dD qs) σ H Q) : tCallSD (lP K sp) dvs (WE W) (lA K W qs) σ H Q := by
  obtain ⟨F, H0, m, δ, P, PX, ok, rs, h, g, gx⟩ := h
  exact ⟨F, H0, m, δ, _, PX, ok, rs, h, fun xs H1 H01 m1 es s1 ok1 r1 h1 => ⟨F, H01, m1, _, P, PX, ok1, r1.append (hD _), h1, g.mono s1, gx.mono s1⟩, gx⟩
theorem pd_call (G : FnOk X.prog X.w X.K X.mg X.base (L2.CX X.prog X.w) k f fd ps (lP X.K sp)) (hr : Room k X.A) (hm : X.mg x = some (.ref f)) (hk : PySem.W.keepIn X.K (.ref f) = true) (hb : Binds X.K fd ps ds) (hd : Vals dvs ds) (hD : ∀ H, RpL X.K H dvs dD) (tk : Takes X W)
    (ha : PA X (e :: es) (lA X.K W qs)) (hg : Gl X x := by rfl) (hdb : (x == ("__debug__" : Str)) = false := by decide) (he : starEach (e :: es) X.env = (false, eval e X.env) :: starEach es X.env := by rfl) (hpl : (backTo pos (starEach es X.env)).any (·.1) = false := by rfl) :
    PE X (.Call (.Name x p) (e :: es) [] pos) (lE X.K W (rCall sp dD qs)) :=
  PE.imp (pe_callSD G hr hg hm hk hb hd (fun σ => passAt tk σ) ha hdb he hpl) fun _ _ _ h => lE_call hD h
/-- without arguments -/
theorem pd_call0 (G : FnOk X.prog X.w X.K X.mg X.base (L2.CX X.prog X.w) k f fd ps (lP X.K sp)) (hr : Room k X.A) (hm : X.mg x = some (.ref f)) (hk : PySem.W.keepIn X.K (.ref f) = true) (hb : Binds X.K fd ps ds) (hd : Vals dvs ds) (hD : ∀ H, RpL X.K H dvs dD) (tk : Takes X W)
    (hg : Gl X x := by rfl) (hdb : (x == ("__debug__" : Str)) = false := by decide) : PE X (.Call (.Name x p) [] [] pos) (lE X.K W (rCall sp dD rNil)) := by
  refine PE.imp (t := fun σ H Q => lP X.K sp ([] ++ dvs) H Q (WE W σ)) ⟨fun pins s σ H Q I h => ?_⟩ fun σ H Q h => ?_
  · exact wpAny_Call_Name_kw (ld_glob I hg hm (PySem.W.callWith_K0 I.kIn hk (run_fnSD (us := []) G hr hb hd (passAt tk σ) I .nil h)) hdb)
  · obtain ⟨F, H0, m, δ, P, PX, ok, rs, h, g, gx⟩ := h
    exact ⟨F, H0, m, _, P, PX, ok, hD _, h, g, gx⟩
/-- how keywords bind, over data -/
structure KBd (K : PySem.W.Frag) (fd : FuncData) (ps : List Str) (n : Nat) (ks : List Str) (gD : List D → List D → List D) : Prop where
  ex : ∃ g gV, KBn K fd ps n ks g gV ∧ ∀ H vs ds zs es, vs.length = n → zs.length = ks.length → RpL K H vs ds → RpL K H zs es → RpL K H (gV vs zs) (gD ds es)
def rCallK (sp : SpD) (n j : Nat) (gD : List D → List D → List D) (qs qk : DA) : DE := fun δ m P PX => qs δ m (fun xs m1 => qk δ m1 (fun zs m2 => xs.length = n ∧ zs.length = j ∧ sp (gD xs zs) m2 P PX) PX) PX
theorem PK.imp {X : Cx} {e : List Keyword} {t t' : TA} (h : PK X e t) (k : ∀ σ H Q, t' σ H Q → t σ H Q) : PK X e t' := ⟨fun pos pins s σ H Q I w => h.run pos pins s σ H Q I (k σ H Q w)⟩
theorem dk_nil : PK X [] (lA X.K W rNil) := by
  refine PK.imp pk_nil fun σ H Q h => ?_
  obtain ⟨F, H0, m, δ, P, PX, ok, rs, h, g, gx⟩ := h
  exact g _ _ _ _ _ (Same.refl _) ok .nil h
theorem dk_cons {nm : Option Str} {kpos : Pos} {kws : List Keyword} (ha : PE X e (lE X.K W ra)) (hr : PK X kws (lA X.K W qs)) : PK X (⟨nm, e, kpos⟩ :: kws) (lA X.K W (rCons ra qs)) := by
  refine PK.imp (pk_cons ha hr) fun σ H Q h => ?_
  obtain ⟨F, H0, m, δ, P, PX, ok, rs, h, g, gx⟩ := h
  exact ⟨F, H0, m, δ, _, PX, ok, rs, h, fun x H1 H01 m1 d s1 ok1 r1 h1 => ⟨F, H01, m1, δ, _, PX, ok1, rs.mono s1, h1, fun xs H2 H02 m2 ds s2 ok2 r2 h2 => g _ _ _ _ _ (s1.trans s2) ok2 (.cons (r1.mono s2) r2) h2, gx.mono s1⟩, gx⟩
theorem run_kS {n : Nat} {g : List Value → List Value → List Value} {gV : List V → List V → List V} {spH : Sp} {E : XK} {pins : List (Addr × Obj)} {σ : St} {H : Hp} {s : Shared} {Q : VK} {us ws : List Value} {vs zs : List V} (G : FnOk X.prog X.w X.K X.mg X.base (L2.CX X.prog X.w) k f fd ps spH) (hr : Room k X.A) (hb : KBn X.K fd ps n ks g gV) (hx : PassesAt (L2.CX X.prog X.w) X σ E)
    (I : L2.Inv X pins σ H s) (r : Vals vs us) (rz : Vals zs ws) (l1 : vs.length = n) (l2 : zs.length = ks.length) (h : spH (gV vs zs) H Q E) : wpAny (model X.prog X.w) X.A (call (.ref f) us (ks.zip ws)) (EP X pins σ Q) X.xe s := by
  refine wpAny_call (codeAny_mono (G.run X.A X.stack s H _ (g us ws) (gV vs zs) Q E hr I.env0 (hb.to s us ws I.kIn (r.length.symm.trans l1) (rz.length.symm.trans l2)) (hb.rel r rz) h) fun rr s' hq => ?_)
  cases rr with
  | error er => exact hx pins H s er s' I hq
  | ok fl => cases fl with
    | ret u => exact I.after hq
    | _ => exact False.elim hq
theorem pd_callK {n : Nat} {gD : List D → List D → List D} {kws : List Keyword} (G : FnOk X.prog X.w X.K X.mg X.base (L2.CX X.prog X.w) k f fd ps (lP X.K sp)) (hr : Room k X.A) (hm : X.mg x = some (.ref f)) (hk : PySem.W.keepIn X.K (.ref f) = true) (hb : KBd X.K fd ps n ks gD) (tk : Takes X W)
    (ha : PA X (e :: es) (lA X.K W qs)) (hkw : PK X kws (lA X.K W qk)) (hall : (backToKw pos (keywordEach kws X.env)).all (·.1.isSome) = true := by rfl) (hks : (backToKw pos (keywordEach kws X.env)).filterMap (·.1) = ks := by rfl) (hg : Gl X x := by rfl)
    (hdb : (x == ("__debug__" : Str)) = false := by decide) (he : starEach (e :: es) X.env = (false, eval e X.env) :: starEach es X.env := by rfl)
    (hpl : ((backTo pos (starEach (e :: es) X.env)).any (·.1) || (backToKw pos (keywordEach kws X.env)).any (·.1.isNone)) = false := by rfl) :
    PE X (.Call (.Name x p) (e :: es) kws pos) (lE X.K W (rCallK sp n ks.length gD qs qk)) := by
  obtain ⟨gg, gV, hb, hR⟩ := hb.ex
  refine PE.imp (t := fun σ H Q => lA X.K W qs σ H fun vs H1 => lA X.K W qk σ H1 fun zs H2 => vs.length = n ∧ zs.length = ks.length ∧ lP X.K sp (gV vs zs) H2 Q (WE W σ)) ⟨fun pins s σ H Q I h => ?_⟩ fun σ H Q h => ?_
  · refine wpAny_Call_Name_kw (ld_glob I hg hm ?_ hdb)
    refine PySem.W.callWith_KW (h₀ := X.base) I.ok.mod.kin hk hall (thn (ha.run pos pins s σ H _ I h) fun us s1 hh => ?_) hpl he
    obtain ⟨vs, H1, I1, r, q⟩ := hh
    refine thn (hkw.run pos pins s1 σ H1 _ I1 q) fun ws s2 hh2 => ?_
    obtain ⟨zs, H2, I2, rz, l1, l2, q2⟩ := hh2
    refine ⟨I2.kIn, ?_⟩
    rw [hks]
    exact run_kS G hr hb (passAt tk σ) I2 r rz l1 l2 q2
  · obtain ⟨F, H0, m, δ, P, PX, ok, rs, h, g, gx⟩ := h
    refine ⟨F, H0, m, δ, _, PX, ok, rs, h, fun xs H1 H01 m1 ds s1 ok1 r1 h1 => ⟨F, H01, m1, δ, _, PX, ok1, rs.mono s1, h1, fun zs H2 H02 m2 es s2 ok2 r2 h2 => ?_, gx.mono s1⟩, gx⟩
    obtain ⟨e1, e2, h2⟩ := h2
    have l1 : xs.length = n := r1.length.trans e1
    have l2 : zs.length = ks.length := r2.length.trans e2
    exact ⟨l1, l2, F, H02, m2, _, P, PX, ok2, hR _ _ _ _ _ l1 l2 (r1.mono s2) r2, h2, g.mono (s1.trans s2), gx.mono (s1.trans s2)⟩
theorem pd_callK0 {gD : List D → List D → List D} {kws : List Keyword} (G : FnOk X.prog X.w X.K X.mg X.base (L2.CX X.prog X.w) k f fd ps (lP X.K sp)) (hr : Room k X.A) (hm : X.mg x = some (.ref f)) (hk : PySem.W.keepIn X.K (.ref f) = true) (hb : KBd X.K fd ps 0 ks gD) (tk : Takes X W)
    (hkw : PK X kws (lA X.K W qk)) (hall : (backToKw pos (keywordEach kws X.env)).all (·.1.isSome) = true := by rfl) (hks : (backToKw pos (keywordEach kws X.env)).filterMap (·.1) = ks := by rfl) (hg : Gl X x := by rfl)
    (hdb : (x == ("__debug__" : Str)) = false := by decide)
    (hpl : ((backTo pos (starEach [] X.env)).any (·.1) || (backToKw pos (keywordEach kws X.env)).any (·.1.isNone)) = false := by rfl) :
    PE X (.Call (.Name x p) [] kws pos) (lE X.K W (rCallK sp 0 ks.length gD rNil qk)) := by
  obtain ⟨gg, gV, hb, hR⟩ := hb.ex
  refine PE.imp (t := fun σ H Q => lA X.K W qk σ H fun zs H2 => zs.length = ks.length ∧ lP X.K sp (gV [] zs) H2 Q (WE W σ)) ⟨fun pins s σ H Q I h => ?_⟩ fun σ H Q h => ?_
  · refine wpAny_Call_Name_kw (ld_glob I hg hm ?_ hdb)
    refine PySem.W.callWith_KW0 (h₀ := X.base) I.ok.mod.kin hk hall ?_ hpl
    refine thn (hkw.run pos pins s σ H _ I h) fun ws s2 hh2 => ?_
    obtain ⟨zs, H2, I2, rz, l2, q2⟩ := hh2
    refine ⟨I2.kIn, ?_⟩
    rw [hks]
    exact run_kS (us := []) (vs := []) G hr hb (passAt tk σ) I2 .nil rz rfl l2 q2
  · obtain ⟨F, H0, m, δ, P, PX, ok, rs, h, g, gx⟩ := h
    refine ⟨F, H0, m, δ, _, PX, ok, rs, h, fun zs H2 H02 m2 es s2 ok2 r2 h2 => ?_, gx⟩
    obtain ⟨e1, e2, h2⟩ := h2
    have l2 : zs.length = ks.length := r2.length.trans e2
    exact ⟨l2, F, H02, m2, _, P, PX, ok2, hR _ _ _ _ _ rfl l2 .nil r2, h2, g.mono s2, gx.mono s2⟩

/-! ### statements -/
variable {st : Stmt} {rest : List Stmt} {us ut : DS} {qa : DT}
def sSeq (us ut : DS) : DS := fun DD δ m => us { DD with nx := ut DD } δ m
def sNext : DS := fun DD δ m => DD.nx δ m
theorem dss_nil : PSs X [] (lS X.K W sNext) := by
  refine PSs.imp pss_nil fun Dn σ H h => ?_
  obtain ⟨F, H0, m, δ, DD, ok, rs, h, g⟩ := h
  exact g.nx _ _ _ _ _ (Same.refl _) ok rs h
theorem dss_cons (h1 : PS X st (lS X.K W us)) (h2 : PSs X rest (lS X.K W ut)) : PSs X (st :: rest) (lS X.K W (sSeq us ut)) := by
  refine PSs.imp (pss_cons h1 h2) fun Dn σ H h => ?_
  obtain ⟨F, H0, m, δ, DD, ok, rs, h, g⟩ := h
  exact ⟨F, H0, m, δ, _, ok, rs, h, ⟨fun σ1 H1 H01 m1 δ1 s1 ok1 rs1 h1 => ⟨F, H01, m1, δ1, DD, ok1, rs1, h1, g.mono s1⟩, g.rt, g.bk, g.ct, g.xx⟩⟩
theorem dss_one (h1 : PS X st (lS X.K W us)) : PSs X [st] (lS X.K W us) := pss_one h1
def sSet (i : Nat) (ra : DE) : DS := fun DD δ m => ra δ m (fun d m1 => DD.nx (δ.set i (some d)) m1) fun c fs m1 => DD.xx c fs δ m1
theorem GW.at_ {K : PySem.W.Frag} {F H0 : Hp} {PX : Value → List (Str × D) → DSt → Mu → Prop} {W : WX} {σ : St} {δ : DSt} (g : GW K F H0 PX W) (rs : RpS K H0 σ δ) : GX K F H0 (fun c fs m1 => PX c fs δ m1) fun c xd H' => W c xd σ H' :=
  fun c xd H' H0' m' fs s ok x h => g c xd σ H' H0' m' fs δ s ok (rs.mono s) x h
theorem ds_set {i : Nat} {y : Str} {pos' : Pos} (hN : X.N.Nodup) (ha : PE X a (lE X.K W ra)) (hi : X.N[i]? = some y := by rfl) (hx : Loc X.env.scope y := by first | exact Or.inl rfl | exact Or.inr rfl) (hs : swapsWith a (some (.Name y pos')) pos.line X.env = pure false := by rfl) (hf : X.fn y = true ∨ X.env.scope.names.lookup y = some .local := by first | exact .inl rfl | exact .inr rfl) :
    PS X (.Assign [.Name y pos'] a pos) (lS X.K W (sSet i ra)) := by
  refine PS.imp (ps_set hN hi hx ha hs hf) fun Dn σ H h => ?_
  obtain ⟨F, H0, m, δ, DD, ok, rs, h, g⟩ := h
  exact ⟨F, H0, m, δ, _, _, ok, rs, h, fun v H1 H01 m1 d s1 ok1 r1 h1 => g.nx _ _ _ _ _ s1 ok1 ((rs.mono s1).set r1 i) h1, g.xx.at_ rs⟩
def sExpr (ra : DE) : DS := fun DD δ m => ra δ m (fun _ m1 => DD.nx δ m1) fun c fs m1 => DD.xx c fs δ m1
theorem ds_expr (ha : PE X a (lE X.K W ra)) (hs : swapsWith a none pos.line X.env = pure false := by rfl) : PS X (.Expr a pos) (lS X.K W (sExpr ra)) := by
  refine PS.imp (ps_expr ha hs) fun Dn σ H h => ?_
  obtain ⟨F, H0, m, δ, DD, ok, rs, h, g⟩ := h
  exact ⟨F, H0, m, δ, _, _, ok, rs, h, fun v H1 H01 m1 d s1 ok1 r1 h1 => g.nx _ _ _ _ _ s1 ok1 (rs.mono s1) h1, g.xx.at_ rs⟩
def sRet (ra : DE) : DS := fun DD δ m => ra δ m DD.rt fun c fs m1 => DD.xx c fs δ m1
theorem ds_ret (ha : PE X a (lE X.K W ra)) : PS X (.Return (some a) pos) (lS X.K W (sRet ra)) := by
  refine PS.imp (ps_ret ha) fun Dn σ H h => ?_
  obtain ⟨F, H0, m, δ, DD, ok, rs, h, g⟩ := h
  exact ⟨F, H0, m, δ, _, _, ok, rs, h, g.rt, g.xx.at_ rs⟩
def sIf (qa : DT) (us ut : DS) : DS := fun DD δ m => qa δ m (fun k m1 => match k with | true => us DD δ m1 | false => ut DD δ m1) fun c fs m1 => DD.xx c fs δ m1
theorem ds_if {body els : List Stmt} (hc : PT X c (lT X.K W qa)) (h1 : PSs X body (lS X.K W us)) (h2 : PSs X els (lS X.K W ut)) : PS X (.If c body els pos) (lS X.K W (sIf qa us ut)) := by
  refine PS.imp (ps_if hc h1 h2) fun Dn σ H h => ?_
  obtain ⟨F, H0, m, δ, DD, ok, rs, h, g⟩ := h
  refine ⟨F, H0, m, δ, _, _, ok, rs, h, fun k H1 H01 m1 s1 ok1 h1 => ?_, g.xx.at_ rs⟩
  cases k with
  | true => rw [if_pos rfl]; exact ⟨F, H01, m1, δ, DD, ok1, rs.mono s1, h1, g.mono s1⟩
  | false => rw [if_neg Bool.false_ne_true]; exact ⟨F, H01, m1, δ, DD, ok1, rs.mono s1, h1, g.mono s1⟩
/-- o[i] = v, o a list of ours -/
def sSetIx (rv ro ri : DE) : DS := fun DD δ m => rv δ m (fun v m1 => ro δ m1 (fun o m2 => ri δ m2 (fun i m3 => match o, i with
  | .adr p, .int k => match m3 p with
    | some (.lst ds) => match ixN ds.length k with
      | some j => DD.nx δ (mset m3 p (.lst (ds.set j v)))
      | none => False
    | _ => False
  | _, _ => False) fun c fs m1 => DD.xx c fs δ m1) fun c fs m1 => DD.xx c fs δ m1) fun c fs m1 => DD.xx c fs δ m1
theorem ds_setIx {o i : Expr} {ro ri rv : DE} {p2 : Pos} (hv : PE X a (lE X.K W rv)) (ho : PE X o (lE X.K W ro)) (hi : PE X i (lE X.K W ri))
    (hA : ∀ v, assign (.Subscript o i p2) X.env v = (do
      let ov ← holding [v] (eval o X.env)
      let iv ← holding [v, ov] (eval i X.env)
      standAt p2
      holding [v, ov, iv] (setItem ov iv v)
      release [v, ov, iv] []) := by intro _; rfl)
    (hs : swapsWithSole [.Subscript o i p2] a pos.line X.env = pure false := by rfl) (hw : swappedStores [.Subscript o i p2] a X.env = pure none := by rfl) (h1 : (assignEach [.Subscript o i p2] X.env).map (·.2) = [assign (.Subscript o i p2) X.env] := by rfl) :
    PS X (.Assign [.Subscript o i p2] a pos) (lS X.K W (sSetIx rv ro ri)) := by
  refine PS.imp (ps_asg hv (pg_sub ho hi set_list hA) hs hw h1) fun Dn σ H h => ?_
  obtain ⟨F, H0, m, δ, DD, ok, rs, h, g⟩ := h
  refine ⟨F, H0, m, δ, _, _, ok, rs, h, fun v H1 H01 m1 d1 s1 ok1 r1 h1 => ⟨F, H01, m1, δ, _, _, ok1, rs.mono s1, h1, fun o H2 H02 m2 d2 s2 ok2 r2 h2 => ⟨F, H02, m2, δ, _, _, ok2, (rs.mono s1).mono s2, h2, fun iv H3 H03 m3 d3 s3 ok3 r3 h3 => ?_, ((g.mono s1).mono s2).xx.at_ ((rs.mono s1).mono s2)⟩, (g.mono s1).xx.at_ (rs.mono s1)⟩, g.xx.at_ rs⟩
  dsimp only at h3
  split at h3
  · rename_i q k
    cases r3
    cases r2
    split at h3
    · rename_i ds e1
      obtain ⟨_, vs, hv3, rv3⟩ := ok3.cell q _ e1
      split at h3
      · rename_i j e2
        refine ⟨q, vs, k, j, rfl, rfl, hv3, by rw [rv3.length]; exact e2, ?_⟩
        have s123 := (s1.trans s2).trans s3
        exact g.nx _ _ _ _ _ s123 (ok3.write (o := .lst (ds.set j d1)) e1 ⟨_, upd_same, rv3.set ((r1.mono s2).mono s3) j⟩) (rs.mono s123) h3
      · exact h3.elim
    · exact h3.elim
  · exact h3.elim
/-- xs.append(v), xs a list of ours -/
def rApp (ro rv : DE) : DE := fun δ m P PX => ro δ m (fun o m1 => match o with
  | .adr p => (∃ es, m1 p = some (.lst es)) ∧ rv δ m1 (fun v m2 => match m2 p with
    | some (.lst ds) => ds.length < sizeLine ∧ P .non (mset m2 p (.lst (ds ++ [v])))
    | _ => False) PX
  | _ => False) PX
theorem pd_app {apos : Pos} (ho : PE X a (lE X.K W ra)) (hv : PE X b (lE X.K W rb)) (hbase : attributeBase a "append" X.env (eval a X.env) = eval a X.env := by rfl)
    (hfew : ((backTo pos (starEach [b] X.env)).all (fun x => !x.1) && (backToKw pos (keywordEach [] X.env)).all (fun x => x.1.isSome) && decide (([b] : List Expr).length + ([] : List Keyword).length + (if ([] : List Keyword).isEmpty then 0 else 1) < 30)) = true := by rfl)
    (hline : (apos.endLine == pos.line) = true := by rfl) (hs : starEach [b] X.env = (false, eval b X.env) :: starEach [] X.env := by rfl) (hpl : (backTo pos (starEach [] X.env)).any (·.1) = false := by rfl) :
    PE X (.Call (.Attribute a "append" apos) [b] [] pos) (lE X.K W (rApp ra rb)) := by
  refine PE.imp (pe_bm PySem.F.plainAttrs_list PySem.F.slot_list_append PySem.F.type_list_append mt_append ho (pa_cons hv pa_nil hs) hbase hfew hline hs hpl) fun σ H Q h => ?_
  obtain ⟨F, H0, m, δ, P, PX, ok, rs, h, g, gx⟩ := h
  have h' : ra δ m (fun o m1 => match o with
    | .adr p => (∃ es, m1 p = some (.lst es)) ∧ rb δ m1 (fun v m2 => match m2 p with
      | some (.lst ds) => ds.length < sizeLine ∧ P .non (mset m2 p (.lst (ds ++ [v])))
      | _ => False) PX
    | _ => False) PX := h
  refine ⟨F, H0, m, δ, _, PX, ok, rs, h', fun x H1 H01 m1 d s1 ok1 r1 h1 => ?_, gx⟩
  dsimp only at h1
  split at h1
  · rename_i q
    obtain ⟨⟨es, he⟩, h1⟩ := h1
    cases r1
    obtain ⟨_, vs, hv1, _⟩ := ok1.cell q _ he
    refine ⟨.inl ⟨rfl, vs, SqL.of hv1⟩, F, H01, m1, δ, _, PX, ok1, rs.mono s1, h1, fun v H2 H02 m2 d2 s2 ok2 r2 h2 => ?_, gx.mono s1⟩
    dsimp only at h2
    split at h2
    · rename_i ds e1
      obtain ⟨_, ws, hw, rw2⟩ := ok2.cell q _ e1
      refine ⟨q, ws, v, rfl, rfl, hw, by rw [rw2.length]; exact h2.1, ?_⟩
      exact g _ _ H02 _ _ (s1.trans s2) (ok2.write (o := .lst (ds ++ [d2])) e1 ⟨_, upd_same, rw2.snoc r2⟩) .non h2.2
    · exact h2.elim
  · exact h1.elim
end
end DL

namespace DL
open PySem L2
/-! ### what is walked: while Ph holds of what is ours, the items are ds -/
def ItD (K : PySem.W.Frag) (F : Hp) (J : It) (H0 : Hp) (Ph : Mu → Prop) (ds : List D) : Prop := ∀ (i : Nat) (H H1 : Hp) (m : Mu), Same H0 H1 → Ok K F H1 m H → Ph m →
  (∀ d, ds[i]? = some d → J.go i H ∧ ∀ x H', J.yld i H x H' → ∃ H2, Same H1 H2 ∧ Ok K F H2 m H' ∧ Rp K H2 x d) ∧ (i = ds.length → J.stop i H)
abbrev DI := DSt → Mu → ((Mu → Prop) → List D → Mu → Prop) → DX → Prop
/-- (whatever further frame stands around) -/
def GI (K : PySem.W.Frag) (F : Hp) (H0 : Hp) (P : (Mu → Prop) → List D → Mu → Prop) (R : It → Hp → Prop) : Prop := ∀ J H' H0' m' Ph ds, Same H0 H0' → Ok K F H0' m' H' → (∀ F', ItD K F' J H0' Ph ds) → Ph m' → P Ph ds m' → R J H'
def lI (K : PySem.W.Frag) (W : WX) (r : DI) : TI := fun σ H R => ∃ F H0 m δ P PX, Ok K F H0 m H ∧ RpS K H0 σ δ ∧ r δ m P PX ∧ GI K F H0 P R ∧ GX K F H0 PX fun c xd H' => W c xd σ H'
section
variable {X : Cx} {W : WX} {a b c tg : Expr} {ra rb rc : DE} {pos p : Pos} {e : Expr} {es : List Expr} {qs : DA}
theorem PI.imp {X : Cx} {tg e : Expr} {t t' : TI} (h : PI X tg e t) (k : ∀ σ H R, t' σ H R → t σ H R) : PI X tg e t' := ⟨fun pins s σ H R I w => h.run pins s σ H R I (k σ H R w)⟩
/-- a list, a tuple, a text -/
theorem pi_any {l : Expr} {tl : TE} (hl : PE X l tl) : PI X tg l (fun σ H R => tl σ H fun x H1 => (∃ a, x = .ref a ∧ (∃ xs, SqL X.K H1 a xs) ∧ R (Itl X.K a) H1) ∨ (∃ a, x = .ref a ∧ (∃ xs, SqT X.K H1 a xs) ∧ R (Itt X.K a) H1) ∨ ∃ z, x = .str z ∧ R (Its z) H1) := by
  refine ⟨fun pins s σ H R I h => thn (hl.run pins s σ H _ I h) fun v s1 hh => ?_⟩
  obtain ⟨x, H1, I1, r1, q1⟩ := hh
  rcases q1 with ⟨a, rfl, ⟨xs, hq⟩, q⟩ | ⟨a, rfl, ⟨xs, hq⟩, q⟩ | ⟨z, rfl, q⟩
  · cases r1
    obtain ⟨its, rv, pl, hz⟩ := I1.list hq
    exact wpAny_pyIter_list pl.isList (pi_one (tk := s1.toks) I1 _ (turn_list a _) ⟨_, Heap.get?_push_size _ rfl, rfl, rfl⟩ q)
  · cases r1
    obtain ⟨its, rv, pl, hz⟩ := I1.tuple hq
    exact wpAny_pyIter_tuple (show s1.heap.IsTuple a its.toArray from pl) (pi_one (tk := s1.toks) I1 _ (turn_tuple a _) ⟨_, Heap.get?_push_size _ rfl, rfl, rfl⟩ q)
  · obtain ⟨t, rfl⟩ := r1
    cases ha : z.cps.all (· < 128)
    · exact wpAny_pyIter_wide ha (pi_one (tk := s1.toks) I1 _ (turn_str _ z t "str_iterator" (.inr rfl)) ⟨_, Heap.get?_push_size _ rfl, rfl, rfl⟩ q)
    · exact wpAny_pyIter_ascii ha (pi_one (tk := s1.toks) I1 _ (turn_str _ z t "str_ascii_iterator" (.inl rfl)) ⟨_, Heap.get?_push_size _ rfl, rfl, rfl⟩ q)
def signs (z : Str) : List D := z.cps.toList.map fun c => .str ⟨#[c]⟩
def iAny (ra : DE) : DI := fun δ m P PX => ra δ m (fun x m1 => match x with
  | .tup ds => P (fun _ => True) ds m1
  | .lst ds => P (fun _ => True) ds m1
  | .str z => P (fun _ => True) (signs z) m1
  | .adr q => match m1 q with
    | some (.lst ds) => P (fun m => m q = some (.lst ds)) ds m1
    | _ => False
  | _ => False) PX
theorem ItD.list {K : PySem.W.Frag} {H0 : Hp} {q : Addr} {vs : List V} {ds : List D} {Ph : Mu → Prop} (r : RpL K H0 vs ds) (h : ∀ F H1 m H, Same H0 H1 → Ok K F H1 m H → Ph m → SqL K H q vs ∨ ∃ ws, SqL K H q ws ∧ RpL K H1 ws ds) (F : Hp) : ItD K F (Itl K q) H0 Ph ds := by
  intro i H H1 m s1 ok1 ph
  obtain ⟨ws, hq, rw1⟩ : ∃ ws, SqL K H q ws ∧ RpL K H1 ws ds := by
    rcases h F H1 m H s1 ok1 ph with h | h
    · exact ⟨vs, h, r.mono s1⟩
    · exact h
  refine ⟨fun d e => ?_, fun e => ⟨ws, hq, by rw [rw1.length, e]; exact Nat.le_refl _⟩⟩
  obtain ⟨v, e1, rv⟩ := rw1.get e
  refine ⟨⟨ws, v, hq, e1⟩, fun x H' y => ?_⟩
  obtain ⟨rfl, y⟩ := y
  have e2 := y ws hq
  rw [e1] at e2
  cases e2
  exact ⟨H1, Same.refl _, ok1, rv⟩
theorem ItD.tuple {K : PySem.W.Frag} {H0 : Hp} {q : Addr} {vs : List V} {ds : List D} {Ph : Mu → Prop} (r : RpL K H0 vs ds) (h : SqT K H0 q vs) (F : Hp) : ItD K F (Itt K q) H0 Ph ds := by
  intro i H H1 m s1 ok1 ph
  have hq := seqT_mono (s1.trans ok1.same) h
  refine ⟨fun d e => ?_, fun e => ⟨vs, hq, by rw [r.length, e]; exact Nat.le_refl _⟩⟩
  obtain ⟨v, e1, rv⟩ := r.get e
  refine ⟨⟨vs, v, hq, e1⟩, fun x H' y => ?_⟩
  obtain ⟨rfl, y⟩ := y
  have e2 := y vs hq
  rw [e1] at e2
  cases e2
  exact ⟨H1, Same.refl _, ok1, rv.mono s1⟩
theorem ItD.text {K : PySem.W.Frag} {H0 : Hp} {z : Str} {Ph : Mu → Prop} (F : Hp) : ItD K F (Its z) H0 Ph (signs z) := by
  intro i H H1 m s1 ok1 ph
  refine ⟨fun d e => ?_, fun e => ?_⟩
  · unfold signs at e
    rw [List.getElem?_map] at e
    cases hc : z.cps.toList[i]? with
    | none => rw [hc] at e; cases e
    | some c =>
      rw [hc] at e
      cases e
      have hlt : i < z.cps.size := by
        have := (List.getElem?_eq_some_iff.mp hc).1
        simpa using this
      refine ⟨hlt, fun x H' y => ?_⟩
      obtain ⟨rfl, c', e1, rfl⟩ := y
      have e2 : z.cps[i]? = some c := by simpa using hc
      rw [e2] at e1
      cases e1
      exact ⟨H1, Same.refl _, ok1, .str _⟩
  · show z.cps.size ≤ i
    rw [e]
    simp [signs]
theorem di_any (ha : PE X a (lE X.K W ra)) : PI X tg a (lI X.K W (iAny ra)) := by
  refine PI.imp (pi_any ha) fun σ H R h => ?_
  obtain ⟨F, H0, m, δ, P, PX, ok, rs, h, g, gx⟩ := h
  refine ⟨F, H0, m, δ, _, PX, ok, rs, h, fun x H1 H01 m1 d s1 ok1 r1 h1 => ?_, gx⟩
  dsimp only at h1
  split at h1
  · cases r1 with
    | tup q r => exact .inr (.inl ⟨_, rfl, ⟨_, seqT_mono ok1.same q⟩, g _ _ _ _ _ _ s1 ok1 (ItD.tuple r q) trivial h1⟩)
  · cases r1 with
    | lst q r => exact .inl ⟨_, rfl, ⟨_, ok1.same.seq q⟩, g _ _ _ _ _ _ s1 ok1 (ItD.list r fun F H1 m H s ok _ => .inl ((s.trans ok.same).seq q)) trivial h1⟩
  · cases r1
    exact .inr (.inr ⟨_, rfl, g _ _ _ _ _ _ s1 ok1 ItD.text trivial h1⟩)
  · rename_i q
    split at h1
    · rename_i ds e1
      cases r1
      obtain ⟨_, vs, hv, rv⟩ := ok1.cell q _ e1
      refine .inl ⟨q, rfl, ⟨vs, SqL.of hv⟩, g _ _ _ _ _ _ s1 ok1 (ItD.list rv fun F H1 m H s ok ph => ?_) e1 h1⟩
      obtain ⟨_, ws, hw, rw1⟩ := ok.cell q _ ph
      exact .inr ⟨ws, SqL.of hw, rw1⟩
    · exact h1.elim
  · exact h1.elim
def rangeD (lo : Int) (n : Nat) : List D := (List.range n).map fun i : Nat => .int (lo + i)
theorem ItD.range {K : PySem.W.Frag} {H0 : Hp} {lo : Int} {n : Nat} {Ph : Mu → Prop} (F : Hp) : ItD K F (Itr lo n) H0 Ph (rangeD lo n) := by
  intro i H H1 m s1 ok1 ph
  refine ⟨fun d e => ?_, fun e => ?_⟩
  · unfold rangeD at e
    rw [List.getElem?_map] at e
    by_cases hi : i < n
    · rw [List.getElem?_range hi] at e
      cases e
      refine ⟨hi, fun x H' y => ?_⟩
      obtain ⟨rfl, rfl⟩ := y
      exact ⟨H1, Same.refl _, ok1, .int _⟩
    · rw [List.getElem?_eq_none (by simpa using hi)] at e
      cases e
  · show n ≤ i
    rw [e]
    simp [rangeD]
def iRange (qs : DA) : DI := fun δ m P PX => qs δ m (fun xs m1 => match xs with
  | [.int j] => (-(2 ^ 62) ≤ j ∧ j < 2 ^ 62) ∧ P (fun _ => True) (rangeD 0 j.toNat) m1
  | _ => False) PX
theorem di_range {q : Pos} (hm : X.mg "range" = none) (ha : PA X [a] (lA X.K W qs)) (hg : Gl X "range" := by rfl) (hs : starEach [a] X.env = [(false, eval a X.env)] := by rfl) : PI X tg (.Call (.Name "range" q) [a] [] pos) (lI X.K W (iRange qs)) := by
  refine PI.imp (pi_range1 hg hm ha hs) fun σ H R h => ?_
  obtain ⟨F, H0, m, δ, P, PX, ok, rs, h, g, gx⟩ := h
  refine ⟨F, H0, m, δ, _, PX, ok, rs, h, fun xs H1 H01 m1 ds s1 ok1 r1 h1 => ?_, gx⟩
  dsimp only at h1
  split at h1
  · obtain ⟨v, rfl, q⟩ := r1.one
    cases q
    exact ⟨_, rfl, h1.1.1, h1.1.2, g _ _ _ _ _ _ s1 ok1 ItD.range trivial h1.2⟩
  · exact h1.elim
def enumD : Nat → List D → List D
  | _, [] => []
  | i, d :: ds => .tup [.int (i : Nat), d] :: enumD (i + 1) ds
theorem enumD_get : ∀ (ds : List D) (k i : Nat), (enumD k ds)[i]? = ds[i]?.map fun d => .tup [.int ((k + i : Nat) : Int), d]
  | [], k, i => by simp [enumD]
  | d :: ds, k, 0 => by simp [enumD]
  | d :: ds, k, i + 1 => by
    simp only [enumD, List.getElem?_cons_succ]
    rw [enumD_get ds (k + 1) i]
    have e : k + 1 + i = k + (i + 1) := by omega
    rw [e]
theorem enumD_length : ∀ (ds : List D) (k : Nat), (enumD k ds).length = ds.length
  | [], _ => rfl
  | _ :: ds, k => by simp [enumD, enumD_length ds]
def iEnumD (qs : DA) : DI := fun δ m P PX => qs δ m (fun xs m1 => match xs with
  | [.lst ds] => P (fun _ => True) (enumD 0 ds) m1
  | [.adr q] => match m1 q with
    | some (.lst ds) => P (fun m => m q = some (.lst ds)) (enumD 0 ds) m1
    | _ => False
  | _ => False) PX
theorem ItD.enum {K : PySem.W.Frag} {H0 : Hp} {q : Addr} {vs : List V} {ds : List D} {Ph : Mu → Prop} (r : RpL K H0 vs ds) (h : ∀ F H1 m H, Same H0 H1 → Ok K F H1 m H → Ph m → SqL K H q vs ∨ ∃ ws, SqL K H q ws ∧ RpL K H1 ws ds) (F : Hp) : ItD K F (Ite K q) H0 Ph (enumD 0 ds) := by
  intro i H H1 m s1 ok1 ph
  obtain ⟨ws, hq, rw1⟩ : ∃ ws, SqL K H q ws ∧ RpL K H1 ws ds := by
    rcases h F H1 m H s1 ok1 ph with h | h
    · exact ⟨vs, h, r.mono s1⟩
    · exact h
  refine ⟨fun d e => ?_, fun e => ⟨ws, hq, by rw [rw1.length, e, enumD_length]; exact Nat.le_refl _⟩⟩
  rw [enumD_get] at e
  cases e2 : ds[i]? with
  | none => rw [e2] at e; cases e
  | some d' =>
    rw [e2] at e
    cases e
    obtain ⟨v, e1, rv⟩ := rw1.get e2
    refine ⟨⟨ws, v, hq, e1⟩, fun x H' y => ?_⟩
    obtain ⟨T, x', rfl, hT, rfl, y⟩ := y
    have e3 := y ws hq
    rw [e1] at e3
    cases e3
    have sn := same_new (o := HO.tup [V.int (i : Nat), v]) (ok1.free hT).1
    refine ⟨_, sn, ok1.new hT _, .tup (SqT.of upd_same) (.cons ?_ (.cons (rv.mono sn) .nil))⟩
    have e4 : ((0 + i : Nat) : Int) = ((i : Nat) : Int) := by simp
    rw [e4]
    exact .int _
theorem di_enum {elts : List Expr} {kk : Nat} {tpos : Pos} {q : Pos} (hm : X.mg "enumerate" = none) (ha : PA X [a] (lA X.K W qs)) (hg : Gl X "enumerate" := by rfl) (hs : starEach [a] X.env = [(false, eval a X.env)] := by rfl) : PI X (.Tuple elts kk tpos) (.Call (.Name "enumerate" q) [a] [] pos) (lI X.K W (iEnumD qs)) := by
  refine PI.imp (pi_enum hg hm ha hs) fun σ H R h => ?_
  obtain ⟨F, H0, m, δ, P, PX, ok, rs, h, g, gx⟩ := h
  refine ⟨F, H0, m, δ, _, PX, ok, rs, h, fun xs H1 H01 m1 ds s1 ok1 r1 h1 => ?_, gx⟩
  dsimp only at h1
  split at h1
  · obtain ⟨v, rfl, r2⟩ := r1.one
    cases r2 with
    | lst q r => exact ⟨_, _, rfl, ok1.same.seq q, g _ _ _ _ _ _ s1 ok1 (ItD.enum r fun F H1 m H s ok _ => .inl ((s.trans ok.same).seq q)) trivial h1⟩
  · rename_i q
    obtain ⟨v, rfl, r2⟩ := r1.one
    cases r2
    split at h1
    · rename_i ds e1
      obtain ⟨_, vs, hv, rv⟩ := ok1.cell q _ e1
      refine ⟨q, vs, rfl, SqL.of hv, g _ _ _ _ _ _ s1 ok1 (ItD.enum rv fun F H1 m H s ok ph => ?_) e1 h1⟩
      obtain ⟨_, ws, hw, rw1⟩ := ok.cell q _ ph
      exact .inr ⟨ws, SqL.of hw, rw1⟩
    · exact h1.elim
  · exact h1.elim
end
end DL

namespace DL
open PySem L2
/-! ### targets -/
abbrev DG := D → DSt → Mu → (DSt → Mu → Prop) → Prop
def gN (i : Nat) : DG := fun d δ m P => P (δ.set i (some d)) m
def asg (δ : DSt) : List Nat → List D → DSt
  | j :: js, d :: ds => asg (δ.set j (some d)) js ds
  | _, _ => δ
def asgV (σ : St) : List Nat → List V → St
  | j :: js, v :: vs => asgV (σ.set j (some v)) js vs
  | _, _ => σ
def gT (js : List Nat) : DG := fun d δ m P => match d with
  | .tup ds => ds.length = js.length ∧ P (asg δ js ds) m
  | _ => False
theorem RpS.asg {K : PySem.W.Frag} {H0 : Hp} : ∀ {js : List Nat} {vs : List V} {ds : List D} {σ : St} {δ : DSt}, RpL K H0 vs ds → RpS K H0 σ δ → RpS K H0 (asgV σ js vs) (DL.asg δ js ds)
  | [], _, _, _, _, _, h => h
  | _ :: _, _, _, _, _, .nil, h => h
  | j :: js, _, _, _, _, .cons q r, h => RpS.asg (js := js) r (h.set q j)
theorem wipe_get (σ : St) : ∀ (vs : List Nat) (i : Nat), (wipe σ vs)[i]? = if i ∈ vs ∧ i < σ.length then some none else σ[i]?
  | [], i => by simp [wipe]
  | v :: vs, i => by
    have ih := wipe_get σ vs i
    unfold wipe
    by_cases hv : v = i
    · subst hv
      by_cases hl : v < σ.length
      · rw [List.getElem?_set_self (by rw [wipe_length]; exact hl), if_pos ⟨List.mem_cons_self, hl⟩]
      · rw [List.getElem?_eq_none (by simpa [wipe_length] using hl), if_neg (fun z => hl z.2), List.getElem?_eq_none (by simpa using hl)]
    · rw [List.getElem?_set_ne hv, ih]
      have e : (i ∈ v :: vs ∧ i < σ.length) ↔ (i ∈ vs ∧ i < σ.length) := by
        constructor
        · rintro ⟨h1, h2⟩
          rcases List.mem_cons.mp h1 with h | h
          · exact absurd h.symm hv
          · exact ⟨h, h2⟩
        · rintro ⟨h1, h2⟩
          exact ⟨List.mem_cons_of_mem _ h1, h2⟩
      by_cases hc : i ∈ vs ∧ i < σ.length
      · rw [if_pos hc, if_pos (e.mpr hc)]
      · rw [if_neg hc, if_neg (fun z => hc (e.mp z))]
theorem wipe_same {σ σ' : St} {vs : List Nat} (hl : σ'.length = σ.length) (h : ∀ i, i ∉ vs → σ'[i]? = σ[i]?) : wipe σ' vs = wipe σ vs := by
  apply List.ext_getElem?
  intro i
  rw [wipe_get, wipe_get, hl]
  by_cases hi : i ∈ vs
  · by_cases hlt : i < σ.length
    · rw [if_pos ⟨hi, hlt⟩, if_pos ⟨hi, hlt⟩]
    · rw [if_neg (fun z => hlt z.2), if_neg (fun z => hlt z.2), List.getElem?_eq_none (by omega), List.getElem?_eq_none (by omega)]
  · rw [if_neg (fun z => hi z.1), if_neg (fun z => hi z.1)]
    exact h i hi
theorem asgV_length : ∀ (js : List Nat) (vs : List V) (σ : St), (asgV σ js vs).length = σ.length
  | [], _, _ => rfl
  | _ :: _, [], _ => rfl
  | j :: js, v :: vs, σ => by
    show (asgV (σ.set j (some v)) js vs).length = σ.length
    rw [asgV_length js vs, List.length_set]
theorem asgV_out : ∀ (js : List Nat) (vs : List V) (σ : St) (i : Nat), i ∉ js → (asgV σ js vs)[i]? = σ[i]?
  | [], _, _, _, _ => rfl
  | _ :: _, [], _, _, _ => rfl
  | j :: js, v :: vs, σ, i, h => by
    show (asgV (σ.set j (some v)) js vs)[i]? = σ[i]?
    rw [asgV_out js vs _ i (fun z => h (List.mem_cons_of_mem _ z)), List.getElem?_set_ne (fun z => h (by rw [z]; exact List.mem_cons_self))]
/-- a target: what it does to the slots of js alone -/
def Gok (K : PySem.W.Frag) (js : List Nat) (g : TG) (rg : DG) : Prop := ∀ F H0 m H σ δ v d P Q, Ok K F H0 m H → RpS K H0 σ δ → Rp K H0 v d → rg d δ m P → (∀ σ' δ', RpS K H0 σ' δ' → wipe σ' js = wipe σ js → P δ' m → Q σ' H) → g v σ H Q
theorem gN_ok {K : PySem.W.Frag} {j : Nat} : Gok K [j] (gName j) (gN j) := fun F H0 m H σ δ v d P Q ok rs r h k =>
  k _ _ (rs.set r j) (wipe_same (by simp) fun i hi => List.getElem?_set_ne fun z => hi (by simp [z])) h
/-- a tuple of names -/
def gNames (js : List Nat) : TGs := fun vs σ H Q => vs.length = js.length ∧ Q (asgV σ js vs) H
section
variable {X : Cx} {W : WX} {a b c tg : Expr} {ra rb rc : DE} {pos p : Pos} {e : Expr} {es : List Expr} {qs : DA}
theorem PGs.imp {X : Cx} {e : List Expr} {t t' : TGs} (h : PGs X e t) (k : ∀ v σ H Q, t' v σ H Q → t v σ H Q) : PGs X e t' := ⟨fun pins s σ H vs us Q I r w => h.run pins s σ H vs us Q I r (k vs σ H Q w)⟩
theorem PG.imp {X : Cx} {e : Expr} {t t' : TG} (h : PG X e t) (k : ∀ v σ H Q, t' v σ H Q → t v σ H Q) : PG X e t' := ⟨fun pins s σ H v u Q I r w => h.run pins s σ H v u Q I r (k v σ H Q w)⟩
theorem dgs_nil : PGs X [] (gNames []) := PGs.imp pgs_nil fun vs σ H Q h => by
  have e : vs = [] := List.eq_nil_of_length_eq_zero h.1
  subst e
  exact ⟨rfl, h.2⟩
theorem dgs_cons {j : Nat} {js : List Nat} (h1 : PG X e (gName j)) (h2 : PGs X es (gNames js)) (hs : (assignEach (e :: es) X.env).map (·.2) = assign e X.env :: (assignEach es X.env).map (·.2) := by rfl) : PGs X (e :: es) (gNames (j :: js)) :=
  PGs.imp (pgs_cons h1 h2 hs) fun vs σ H Q h => by
    cases vs with
    | nil => exact absurd h.1 (by simp)
    | cons v vs => exact ⟨v, vs, rfl, by simpa using h.1, h.2⟩
theorem gT_ok {K : PySem.W.Frag} {js : List Nat} : Gok K js (gTup K js.length (gNames js)) (gT js) := by
  intro F H0 m H σ δ v d P Q ok rs r h k
  unfold gT at h
  split at h
  · obtain ⟨q, vs, rfl, hq, rv⟩ := tup_rp ok r
    have hl : vs.length = js.length := rv.length.trans h.1
    exact ⟨q, vs, rfl, hq, hl, hl, k _ _ (rs.asg rv) (wipe_same (asgV_length _ _ _) fun i hi => asgV_out _ _ _ i hi) h.2⟩
  · exact h.elim
/-! ### for -/
def sLoop0 (Ph : Mu → Prop) (rg : DG) (rb : DS) (DD : DEnds) : List D → DSt → Mu → Prop
  | [], δ, m => Ph m ∧ DD.nx δ m
  | d :: ds, δ, m => Ph m ∧ rg d δ m fun δ' m' => rb { DD with nx := sLoop0 Ph rg rb DD ds, ct := sLoop0 Ph rg rb DD ds, bk := DD.nx } δ' m'
@[irreducible] def sLoop (Ph : Mu → Prop) (rg : DG) (rb : DS) (DD : DEnds) (ds : List D) (δ : DSt) (m : Mu) : Prop := sLoop0 Ph rg rb DD ds δ m
theorem sLoop_nil {Ph : Mu → Prop} {rg : DG} {rb : DS} {DD : DEnds} {δ : DSt} {m : Mu} : sLoop Ph rg rb DD [] δ m = (Ph m ∧ DD.nx δ m) := by unfold sLoop; rfl
theorem sLoop_cons {Ph : Mu → Prop} {rg : DG} {rb : DS} {DD : DEnds} {δ : DSt} {m : Mu} {d : D} {ds : List D} : sLoop Ph rg rb DD (d :: ds) δ m = (Ph m ∧ rg d δ m fun δ' m' => rb { DD with nx := sLoop Ph rg rb DD ds, ct := sLoop Ph rg rb DD ds, bk := DD.nx } δ' m') := by
  have e : sLoop Ph rg rb DD ds = sLoop0 Ph rg rb DD ds := by funext δ m; unfold sLoop; rfl
  rw [e]
  unfold sLoop
  rfl
def sFor (ri : DI) (rg : DG) (rb : DS) : DS := fun DD δ m => ri δ m (fun Ph ds m1 => sLoop Ph rg rb DD ds δ m1) fun c fs m1 => DD.xx c fs δ m1
theorem ds_for {iter : Expr} {body : List Stmt} {ri : DI} {g : TG} {rg : DG} {rb : DS} {js : List Nat} (hp : PassesOwn (model X.prog X.w) X.A X.env X.xe) (hc : X.calm = true) (hi : PI X tg iter (lI X.K W ri)) (hg : PG X tg g) (go : Gok X.K js g rg) (hb : PSs X body (lS X.K W rb))
    (hs : ∀ x, foldedSetIterable iter X.env x = pure x := by intro _; rfl) : PS X (.For tg iter body [] pos) (lS X.K W (sFor ri rg rb)) := by
  refine PS.imp (ps_for hp hc hi hg hb hs) fun Dn σ H h => ?_
  obtain ⟨F, H0, m, δ, DD, ok, rs, h, gd⟩ := h
  refine ⟨F, H0, m, δ, _, _, ok, rs, h, fun J H1 H01 m1 Ph ds s1 ok1 it ph h1 => ?_, gd.xx.at_ rs⟩
  refine ⟨fun i k σ' H' => ∃ H0' m' δ', Same H01 H0' ∧ Ok X.K F H0' m' H' ∧ RpS X.K H0' σ' δ' ∧ i + k = ds.length ∧ sLoop Ph rg rb DD (ds.drop i) δ' m', ⟨ds.length, H01, m1, δ, Same.refl _, ok1, rs.mono s1, by omega, h1⟩, ?_⟩
  rintro i k σ2 H2 ⟨H02, m2, δ2, s2, ok2, rs2, hik, h2⟩
  by_cases hlt : i < ds.length
  · have e1 : ds[i]? = some ds[i] := List.getElem?_eq_getElem hlt
    rw [List.drop_eq_getElem_cons hlt, sLoop_cons] at h2
    obtain ⟨ph2, h2⟩ := h2
    obtain ⟨go1, yl⟩ := (it F i H2 H02 m2 s2 ok2 ph2).1 _ e1
    refine .inr ⟨go1, fun σ' H' => ∃ H0' m' δ', Same H01 H0' ∧ Ok X.K F H0' m' H' ∧ RpS X.K H0' σ' δ' ∧ sLoop Ph rg rb DD (ds.drop (i + 1)) δ' m', fun σ' H' hN => ?_, fun x H' y => ?_⟩
    · obtain ⟨H0', m', δ', z1, z2, z3, z4⟩ := hN
      exact ⟨k - 1, by omega, H0', m', δ', z1, z2, z3, by omega, z4⟩
    · obtain ⟨H03, s3, ok3, r3⟩ := yl x H' y
      refine go F H03 m2 H' σ2 δ2 x _ _ _ ok3 (rs2.mono s3) r3 h2 fun σ4 δ4 rs4 _ h4 => ?_
      have s13 := s1.trans (s2.trans s3)
      refine ⟨F, H03, m2, δ4, _, ok3, rs4, h4, ⟨fun σ5 H5 H05 m5 δ5 s5 ok5 rs5 h5 => ⟨H05, m5, δ5, (s2.trans s3).trans s5, ok5, rs5, h5⟩, (gd.mono s13).rt, (gd.mono s13).nx, fun σ5 H5 H05 m5 δ5 s5 ok5 rs5 h5 => ⟨H05, m5, δ5, (s2.trans s3).trans s5, ok5, rs5, h5⟩, (gd.mono s13).xx⟩⟩
  · have e : i = ds.length := by omega
    subst e
    rw [List.drop_length, sLoop_nil] at h2
    exact .inl ⟨(it F _ H2 H02 m2 s2 ok2 h2.1).2 rfl, gd.nx _ _ _ _ _ (s1.trans s2) ok2 rs2 h2.2⟩
/-! ### list comprehensions -/
def wipeD (δ : DSt) : List Nat → DSt
  | [] => δ
  | v :: vs => (wipeD δ vs).set v none
theorem RpS.wipe {K : PySem.W.Frag} {H0 : Hp} {σ : St} {δ : DSt} (r : RpS K H0 σ δ) : ∀ vs : List Nat, RpS K H0 (L2.wipe σ vs) (wipeD δ vs)
  | [] => r
  | v :: vs => (RpS.wipe r vs).clear v
theorem wipe_twice (σ : St) (vs : List Nat) : wipe (wipe σ vs) vs = wipe σ vs := wipe_same (wipe_length σ vs) fun i hi => by rw [wipe_get, if_neg fun z => hi z.1]
abbrev noX : DX := fun _ _ _ => False
abbrev noW : WX := fun _ _ _ _ => False
def rComp0 (Ph : Mu → Prop) (rg : DG) (qt : DT) (re : DE) (δ : DSt) (P : List D → Mu → Prop) : List D → List D → Mu → Prop
  | [], acc, m => Ph m ∧ P acc m
  | d :: ds, acc, m => Ph m ∧ rg d δ m fun δ' m' => qt δ' m' (fun k m1 => match k with
    | true => re δ' m1 (fun x m2 => acc.length < sizeLine ∧ rComp0 Ph rg qt re δ P ds (acc ++ [x]) m2) noX
    | false => rComp0 Ph rg qt re δ P ds acc m1) noX
@[irreducible] def rComp (Ph : Mu → Prop) (rg : DG) (qt : DT) (re : DE) (δ : DSt) (P : List D → Mu → Prop) (ds acc : List D) (m : Mu) : Prop := rComp0 Ph rg qt re δ P ds acc m
theorem rComp_nil {Ph : Mu → Prop} {rg : DG} {qt : DT} {re : DE} {δ : DSt} {P : List D → Mu → Prop} {acc : List D} {m : Mu} : rComp Ph rg qt re δ P [] acc m = (Ph m ∧ P acc m) := by unfold rComp; rfl
theorem rComp_cons {Ph : Mu → Prop} {rg : DG} {qt : DT} {re : DE} {δ : DSt} {P : List D → Mu → Prop} {d : D} {ds acc : List D} {m : Mu} : rComp Ph rg qt re δ P (d :: ds) acc m = (Ph m ∧ rg d δ m fun δ' m' => qt δ' m' (fun k m1 => match k with
    | true => re δ' m1 (fun x m2 => acc.length < sizeLine ∧ rComp Ph rg qt re δ P ds (acc ++ [x]) m2) noX
    | false => rComp Ph rg qt re δ P ds acc m1) noX) := by
  have e : rComp Ph rg qt re δ P ds = rComp0 Ph rg qt re δ P ds := by funext acc m; unfold rComp; rfl
  rw [e]
  unfold rComp
  rfl
def rLc (ri : DI) (js : List Nat) (rg : DG) (qt : DT) (re : DE) : DE := fun δ m P PX => ri δ m (fun Ph ds m1 => rComp Ph rg qt re (wipeD δ js) (fun acc m2 => P (.lst acc) m2) ds [] m1) PX
def rLcM (ri : DI) (js : List Nat) (rg : DG) (qt : DT) (re : DE) : DE := fun δ m P PX => ri δ m (fun Ph ds m1 => rComp Ph rg qt re (wipeD δ js) (fun acc m2 => ∀ q, m2 q = none → P (.adr q) (mset m2 q (.lst acc))) ds [] m1) PX
theorem Ok.addF {K : PySem.W.Frag} {F H0 H : Hp} {m : Mu} {q : Addr} {o : HO} (ok : Ok K F H0 m H) (h : H q = none) : Ok K (upd F q o) H0 m (upd H q o) := by
  obtain ⟨h0, hm⟩ := ok.free h
  refine ⟨fun b u e => ?_, fun a u e => ?_, fun a u e => ?_⟩
  · rw [upd_ne (ne_of_none e h0)]; exact ok.same b u e
  · have ha : a ≠ q := fun z => by rw [z, hm] at e; cases e
    obtain ⟨c1, c2⟩ := ok.cell a u e
    exact ⟨c1, c2.mono (Same.refl _) (upd_ne ha)⟩
  · by_cases ha : a = q
    · subst ha; rw [upd_same] at e ⊢; exact ⟨e, h0, hm⟩
    · rw [upd_ne ha] at e ⊢; exact ok.fr a u e
theorem Ok.reF {K : PySem.W.Frag} {F H0 H : Hp} {m : Mu} {q : Addr} {o o' : HO} (ok : Ok K (upd F q o) H0 m H) : Ok K (upd F q o') H0 m (upd H q o') := by
  obtain ⟨h1, h0, hm⟩ := ok.fr q o upd_same
  refine ⟨fun b u e => ?_, fun a u e => ?_, fun a u e => ?_⟩
  · rw [upd_ne (ne_of_none e h0)]; exact ok.same b u e
  · have ha : a ≠ q := fun z => by rw [z, hm] at e; cases e
    obtain ⟨c1, c2⟩ := ok.cell a u e
    exact ⟨c1, c2.mono (Same.refl _) (upd_ne ha)⟩
  · by_cases ha : a = q
    · subst ha; rw [upd_same] at e ⊢; exact ⟨e, h0, hm⟩
    · rw [upd_ne ha] at e ⊢
      exact ok.fr a u (by rw [upd_ne ha]; exact e)
theorem Ok.promote {K : PySem.W.Frag} {F H0 H : Hp} {m : Mu} {q : Addr} {o : HO} (ok : Ok K F H0 m H) (h : H q = some o) (h0 : H0 q = none) (hm : m q = none) (hF : F q = none) : Ok K F (upd H0 q o) m H := by
  refine ⟨fun b u e => ?_, fun a u e => ?_, fun a u e => ?_⟩
  · by_cases hb : b = q
    · subst hb; rw [upd_same] at e; cases e; exact h
    · rw [upd_ne hb] at e; exact ok.same b u e
  · have ha : a ≠ q := fun z => by rw [z, hm] at e; cases e
    obtain ⟨c1, c2⟩ := ok.cell a u e
    exact ⟨by rw [upd_ne ha]; exact c1, c2.mono (same_new h0) rfl⟩
  · have ha : a ≠ q := ne_of_none e hF
    obtain ⟨c1, c2, c3⟩ := ok.fr a u e
    exact ⟨c1, by rw [upd_ne ha]; exact c2, c3⟩
theorem Ok.own {K : PySem.W.Frag} {F H0 H : Hp} {m : Mu} {q : Addr} {o : MO} (ok : Ok K F H0 m H) (h : MRep K H0 H q o) (h0 : H0 q = none) (hF : F q = none) : Ok K F H0 (mset m q o) H := by
  refine ⟨ok.same, fun a u e => ?_, fun a u e => ?_⟩
  · unfold mset at e
    by_cases ha : a = q
    · subst ha; rw [if_pos rfl] at e; cases e; exact ⟨h0, h⟩
    · rw [if_neg ha] at e; exact ok.cell a u e
  · have ha : a ≠ q := ne_of_none e hF
    obtain ⟨c1, c2, c3⟩ := ok.fr a u e
    exact ⟨c1, c2, by unfold mset; rw [if_neg ha]; exact c3⟩
theorem lc_lift {K : PySem.W.Frag} {ri : DI} {g : TG} {rg : DG} {qt : DT} {re : DE} {js : List Nat} {Pf : DK → List D → Mu → Prop} (go : Gok K js g rg)
    (fin : ∀ F H0 m H q vs acc P Q, Ok K F H0 m H → H q = some (.lst vs) → H0 q = none → m q = none → F q = none → RpL K H0 vs acc → Pf P acc m → GV K F H0 P Q → Q (.ref q) H)
    {σ : St} {H : Hp} {Q : VK} (h : lE K W (fun δ m P PX => ri δ m (fun Ph ds m1 => rComp Ph rg qt re (wipeD δ js) (Pf P) ds [] m1) PX) σ H Q) : tLc (lI K W ri) g (lT K noW qt) (lE K noW re) js σ H Q := by
  obtain ⟨F, H0, m, δ, P, PX, ok, rs, h, gv, gx⟩ := h
  refine ⟨F, H0, m, δ, _, _, ok, rs, h, fun J H1 H01 m1 Ph ds s1 ok1 it ph h1 q hq => ?_, gx⟩
  have hF : F q = none := ok1.freeF hq
  refine ⟨fun i k H' => ∃ H0' m' vs acc, Same H01 H0' ∧ Ok K (upd F q (.lst vs)) H0' m' H' ∧ RpL K H0' vs acc ∧ i + k = ds.length ∧ rComp Ph rg qt re (wipeD δ js) (Pf P) (ds.drop i) acc m', ⟨ds.length, H01, m1, [], [], Same.refl _, ok1.addF hq, .nil, by omega, h1⟩, ?_⟩
  rintro i k H2 ⟨H02, m2, vs, acc, s2, ok2, rl, hik, h2⟩
  by_cases hlt : i < ds.length
  · have e1 : ds[i]? = some ds[i] := List.getElem?_eq_getElem hlt
    rw [List.drop_eq_getElem_cons hlt, rComp_cons] at h2
    obtain ⟨ph2, h2⟩ := h2
    obtain ⟨go1, yl⟩ := (it _ i H2 H02 m2 s2 ok2 ph2).1 _ e1
    refine .inr ⟨go1, fun H' => ∃ H0' m' vs acc, Same H01 H0' ∧ Ok K (upd F q (.lst vs)) H0' m' H' ∧ RpL K H0' vs acc ∧ rComp Ph rg qt re (wipeD δ js) (Pf P) (ds.drop (i + 1)) acc m', fun H' hN => ?_, fun x H' y => ?_⟩
    · obtain ⟨H0', m', vs', acc', z1, z2, z3, z4⟩ := hN
      exact ⟨k - 1, by omega, H0', m', vs', acc', z1, z2, z3, by omega, z4⟩
    · obtain ⟨H03, s3, ok3, r3⟩ := yl x H' y
      have rs3 := (rs.wipe js).mono (s1.trans (s2.trans s3))
      refine go _ H03 m2 H' _ _ x _ _ _ ok3 rs3 r3 h2 fun σ4 δ4 rs4 hw4 h4 => ⟨by rw [hw4, wipe_twice], ?_⟩
      refine ⟨_, H03, m2, δ4, _, noX, ok3, rs4, h4, fun b H5 H05 m5 s5 ok5 h5 => ?_, fun _ _ _ _ _ _ _ _ _ z => z⟩
      cases b with
      | false =>
        rw [if_neg Bool.false_ne_true]
        exact ⟨H05, m5, vs, acc, (s2.trans s3).trans s5, ok5, (rl.mono s3).mono s5, h5⟩
      | true =>
        rw [if_pos rfl]
        refine ⟨_, H05, m5, δ4, _, noX, ok5, rs4.mono s5, h5, fun y H6 H06 m6 d6 s6 ok6 r6 h6 => ?_, fun _ _ _ _ _ _ _ _ _ z => z⟩
        have rl6 := ((rl.mono s3).mono s5).mono s6
        exact ⟨vs, (ok6.fr q _ upd_same).1, by rw [rl6.length]; exact h6.1, H06, m6, vs ++ [y], acc ++ [d6], ((s2.trans s3).trans s5).trans s6, ok6.reF, rl6.snoc r6, h6.2⟩
  · have e : i = ds.length := by omega
    subst e
    rw [List.drop_length, rComp_nil] at h2
    obtain ⟨ok3, z1, z2, z3⟩ := ok2.unframe hF
    exact .inl ⟨(it _ _ H2 H02 m2 s2 ok2 h2.1).2 rfl, fin F H02 m2 H2 q vs acc P Q ok3 z1 z2 z3 hF rl h2.2 (gv.mono (s1.trans s2))⟩
theorem lc_fin {K : PySem.W.Frag} : ∀ F H0 m H q vs acc P Q, Ok K F H0 m H → H q = some (.lst vs) → H0 q = none → m q = none → F q = none → RpL K H0 vs acc → P (.lst acc) m → GV K F H0 P Q → Q (.ref q) H :=
  fun F H0 m H q vs acc P Q ok h h0 hm hF r h1 g => g _ _ (upd H0 q (.lst vs)) m _ (same_new h0) (ok.promote h h0 hm hF) (.lst (SqL.of upd_same) (r.mono (same_new h0))) h1
theorem lc_finM {K : PySem.W.Frag} : ∀ F H0 m H q vs acc P Q, Ok K F H0 m H → H q = some (.lst vs) → H0 q = none → m q = none → F q = none → RpL K H0 vs acc → (∀ q, m q = none → P (.adr q) (mset m q (.lst acc))) → GV K F H0 P Q → Q (.ref q) H :=
  fun F H0 m H q vs acc P Q ok h h0 hm hF r h1 g => g _ _ H0 _ _ (Same.refl _) (ok.own (o := .lst acc) ⟨vs, h, r⟩ h0 hF) (.adr q) (h1 q hm)
variable {ifs : List Expr} {scope : Scope} {own : List (Str × Nat)} {ri : DI} {g : TG} {rg : DG} {qt : DT} {re : DE}
theorem pd_lc {elt iter : Expr} {js : List Nat} (hc : X.calm = true) (hN : X.N.Nodup) (hi : PI X tg iter (lI X.K W ri)) (ok : BlkOk X.N X.env.scope scope own) (go : Gok X.K js g rg) (hj : own.map (·.2) = js)
    (hg : ∀ (s : Shared) (H : Hp) (C : Addr) (cl : List (Str × Addr)) (fp : List Addr), PG (X.blk s H scope (compEnvC scope cl C X.env) fp) tg g) (ht : ∀ (s : Shared) (H : Hp) (C : Addr) (cl : List (Str × Addr)) (fp : List Addr), PTs (X.blk s H scope (compEnvC scope cl C X.env) fp) ifs (lT X.K noW qt))
    (he : ∀ (s : Shared) (H : Hp) (C : Addr) (cl : List (Str × Addr)) (fp : List Addr), PE (X.blk s H scope (compEnvC scope cl C X.env) fp) elt (lE X.K noW re)) (hs : ∀ x, foldedSetIterable iter X.env x = pure x := by intro _; rfl) :
    PE X (.ListComp elt [⟨tg, iter, ifs, 0⟩] scope pos) (lE X.K W (rLc ri js rg qt re)) := by
  subst hj
  exact PE.imp (pe_lc hc hN hi ok hg ht he hs) fun _ _ _ h => lc_lift go lc_fin h
theorem ds_setLc {elt iter : Expr} {js : List Nat} {i : Nat} {y : Str} {py spos : Pos} (hc : X.calm = true) (hN : X.N.Nodup) (hsw : swapsWith (.ListComp elt [⟨tg, iter, ifs, 0⟩] scope pos) (some (.Name y py)) spos.line X.env = pure true) (hi : PI X tg iter (lI X.K W ri)) (ok : BlkOk X.N X.env.scope scope own) (go : Gok X.K js g rg) (hj : own.map (·.2) = js)
    (hg : ∀ (s : Shared) (H : Hp) (C : Addr) (cl : List (Str × Addr)) (fp : List Addr), PG (X.blk s H scope (compEnvC scope cl C X.env) fp) tg g) (ht : ∀ (s : Shared) (H : Hp) (C : Addr) (cl : List (Str × Addr)) (fp : List Addr), PTs (X.blk s H scope (compEnvC scope cl C X.env) fp) ifs (lT X.K noW qt))
    (he : ∀ (s : Shared) (H : Hp) (C : Addr) (cl : List (Str × Addr)) (fp : List Addr), PE (X.blk s H scope (compEnvC scope cl C X.env) fp) elt (lE X.K noW re)) (hy : X.N[i]? = some y := by rfl) (hyl : X.env.scope.names.lookup y = some .local := by rfl) (hs : ∀ x, foldedSetIterable iter X.env x = pure x := by intro _; rfl) :
    PS X (.Assign [.Name y py] (.ListComp elt [⟨tg, iter, ifs, 0⟩] scope pos) spos) (lS X.K W (sSet i (rLc ri js rg qt re))) := by
  subst hj
  refine PS.imp (ps_setLc (i := i) hc hN hy hyl hsw hi ok hg ht he hs) fun Dn σ H h => ?_
  obtain ⟨F, H0, m, δ, DD, ok, rs, h, gd⟩ := h
  unfold sSet rLc at h
  refine lc_lift go lc_fin (Q := fun x H1 => gName i x σ H1 Dn.nx) ⟨F, H0, m, δ, fun d m1 => DD.nx (δ.set i (some d)) m1, fun c fs m1 => DD.xx c fs δ m1, ok, rs, h, fun v H1 H01 m1 d s1 ok1 r1 h1 => gd.nx _ _ _ _ _ s1 ok1 ((rs.mono s1).set r1 i) h1, gd.xx.at_ rs⟩
def qYes : DT := fun _ m P _ => P true m
theorem PTs.imp {X : Cx} {e : List Expr} {t t' : TT} (h : PTs X e t) (k : ∀ σ H Q, t' σ H Q → t σ H Q) : PTs X e t' := ⟨fun pins s σ H Q I w => h.run pins s σ H Q I (k σ H Q w)⟩
theorem dts_nil : PTs X [] (lT X.K W qYes) := PTs.imp pts_nil fun σ H Q h => by
  obtain ⟨F, H0, m, δ, P, PX, ok, rs, h, g, gx⟩ := h
  exact g _ _ _ _ (Same.refl _) ok h
theorem dts_one (h : PT X c (lT X.K W qt)) : PTs X [c] (lT X.K W qt) := pts_one h
end
/-! ### a def -/
def dstart (N : List Str) (ds : List D) : DSt := ds.map some ++ List.replicate (N.length - ds.length) none
def dEnds (P : DK) (PX : DX) : DEnds := { nx := fun _ m => P .non m, rt := P, bk := fun _ _ => False, ct := fun _ _ => False, xx := fun c fs _ m => PX c fs m }
theorem rps_start {K : PySem.W.Frag} {H0 : Hp} {N : List Str} {vs : List V} {ds : List D} (r : RpL K H0 vs ds) : RpS K H0 (L2.start N vs) (dstart N ds) := by
  have hl := r.length
  refine ⟨by simp [L2.start, dstart, hl], fun i d e => ?_⟩
  unfold dstart at e
  unfold L2.start
  by_cases hi : i < ds.length
  · rw [List.getElem?_append_left (by simpa using hi), List.getElem?_map] at e
    cases e2 : ds[i]? with
    | none => rw [e2] at e; cases e
    | some d' =>
      rw [e2] at e
      cases e
      obtain ⟨v, e3, rv⟩ := r.get e2
      exact ⟨v, by rw [List.getElem?_append_left (by simpa [hl] using hi), List.getElem?_map, e3]; rfl, rv⟩
  · rw [List.getElem?_append_right (by simpa using hi)] at e
    rw [List.getElem?_replicate] at e
    split at e <;> cases e
section
variable {P : Program} {w : World} {K : PySem.W.Frag} {mg : Str → Option Value} {base : Heap}
theorem fn_ok {x qual : Str} {st : Stmt} {f : Addr} {fd : FuncData} {N ps : List Str} {k : Nat} {sp : SpD} {r : DS} (G : Fun K x qual st f fd) (S : FnScope N ps (defScope st)) (hlen : ∀ ds m Q PX, sp ds m Q PX → ds.length = ps.length)
    (hd : ∀ (cdv : Value) (A : Around) (outer : List Env) (s : Shared) (H : Hp) (E : XK), Room k (A.deeper (PyProof.Rows.envOfC qual (defScope st) s.heap.objs.size f cdv)) →
      PSs (cxOf (L2.CX P w) P w K mg base N qual (defScope st) f cdv A outer s H E) (defBody st) (lS K (fun c d _ H => E c d H) r))
    (hp : ∀ ds m Q PX, sp ds m Q PX → r (dEnds Q PX) (dstart N ds) m) : FnOk P w K mg base (L2.CX P w) (k + 1) f fd ps (lP K sp) := by
  refine G.okX S (fun vs H Q E h => ?_) (fun cdv A outer s H vs Q E hr h => ⟨_, hd cdv A outer s H E hr, ?_⟩)
  · obtain ⟨F, H0, m, ds, Q', PX, ok, rl, h, _⟩ := h
    exact rl.length.trans (hlen _ _ _ _ h)
  · obtain ⟨F, H0, m, ds, Q', PX, ok, rl, h, g, gx⟩ := h
    exact ⟨F, H0, m, _, _, ok, rps_start rl, hp ds m Q' PX h, ⟨fun σ' H' H0' m' δ' s ok' _ z => g _ _ _ _ _ s ok' .non z, g, fun _ _ _ _ _ _ _ _ z => z.elim, fun _ _ _ _ _ _ _ _ z => z.elim, fun c xd σ' H' H0' m' fs δ' s ok' _ x z => gx c xd H' H0' m' fs s ok' x z⟩⟩
end
/-! ### the law -/
theorem rpl_ints {K : PySem.W.Frag} {H : Hp} : ∀ ns : List Int, RpL K H (ns.map V.int) (ns.map D.int)
  | [] => .nil
  | n :: ns => .cons (.int n) (rpl_ints ns)
def spLaw : SpD := fun ds _ P _ => ∃ ns : List Int, ds = [.lst (ns.map .int)] ∧ ns.length ≤ 63 ∧ ∀ m, P (.bl true) m
theorem law_sp (K : PySem.W.Frag) (H : Hp) (a : Addr) (ns : List Int) (hl : ns.length ≤ 63) (hS : SqL K H a (ns.map V.int)) : lP K spLaw [.ref a] H (fun v _ => v = .bl true) fun _ _ _ => False :=
  ⟨fun _ => none, H, fun _ => none, [.lst (ns.map .int)], fun d _ => d = .bl true, fun _ _ _ => False, ⟨Same.refl _, fun _ _ e => (by cases e), fun _ _ e => (by cases e)⟩, .cons (.lst hS (rpl_ints ns)) .nil, ⟨ns, rfl, hl, fun _ => rfl⟩, fun v H' H0' m' d _ _ r e => by subst e; cases r; rfl, fun _ _ _ _ _ _ _ _ _ z => z⟩
theorem cx_false {P : Program} {w : World} {H : Hp} {s : Shared} {e : Value} {s' : Shared} (h : L2.CX P w [] H s (fun _ _ _ => False) e s') : False := by
  obtain ⟨_, _, _, _, _, _, _, _, _, _, _, _, z⟩ := h
  exact z
end DL

namespace DL
open PySem L2
theorem units65 {k : Nat} {A : Around} (r : Room k A) : A.units + 65 < cLine := by have := r.un; omega
/-! ### a def of the text by its name -/
def FunAt (K : PySem.W.Frag) (mg : Str → Option Value) (x qual : Str) (st : Stmt) : Prop := ∃ f fd, mg x = some (.ref f) ∧ Fun K x qual st f fd
theorem funAt_mk {K : PySem.W.Frag} {h : Heap} {mg : Str → Option Value} {x : Str} {st : Stmt} {f : Addr} {oc : Value} {od an : Option Addr} {osl : Array (Option Value)} {kV doc pm cdv ct : Value} (X : K.In h) (G : h.Ns mainGlobals mg)
    (a : PySem.W.nsIn K mainGlobals x = some (some (.ref f))) (l : K.lookup f = some ⟨oc, od, .func (PySem.W.fnOf x x (defArgs st) (defBody st) (defScope st) .none kV doc pm an cdv ct), osl⟩)
    (c : PySem.W.codeIn K cdv x = true) (k : PySem.W.keepIn K (.ref f) = true) : FunAt K mg x x st := ⟨f, _, PySem.W.mg_of X G a, fun_mk l c k⟩
structure DefOk (P : Program) (w : World) (K : PySem.W.Frag) (mg : Str → Option Value) (base : Heap) (k : Nat) (x qual : Str) (st : Stmt) (ps : List Str) (sp : SpD) : Prop where
  ex : ∃ f fd, mg x = some (.ref f) ∧ Fun K x qual st f fd ∧ FnOk P w K mg base (L2.CX P w) k f fd ps (lP K sp)
def BindAll (x qual : Str) (st : Stmt) (ps : List Str) : Prop := ∀ (kV doc pm : Value) (an : Option Addr) (cdv ct : Value) (us : List Value), us.length = ps.length → bindArgs (PySem.W.fnOf x qual (defArgs st) (defBody st) (defScope st) .none kV doc pm an cdv ct) ⟨us, []⟩ = pure (ps.zip us)
section
variable {P : Program} {w : World} {K : PySem.W.Frag} {mg : Str → Option Value} {base : Heap}
theorem def_ok {x qual : Str} {st : Stmt} {N ps : List Str} {k : Nat} {sp : SpD} {r : DS} (G : FunAt K mg x qual st) (S : FnScope N ps (defScope st)) (hlen : ∀ ds m Q PX, sp ds m Q PX → ds.length = ps.length)
    (hd : ∀ (f : Addr) (cdv : Value) (A : Around) (outer : List Env) (s : Shared) (H : Hp) (E : XK), Room k (A.deeper (PyProof.Rows.envOfC qual (defScope st) s.heap.objs.size f cdv)) →
      PSs (cxOf (L2.CX P w) P w K mg base N qual (defScope st) f cdv A outer s H E) (defBody st) (lS K (fun c d _ H => E c d H) r))
    (hp : ∀ ds m Q PX, sp ds m Q PX → r (dEnds Q PX) (dstart N ds) m) : DefOk P w K mg base (k + 1) x qual st ps sp := by
  obtain ⟨f, fd, e, G⟩ := G
  exact ⟨f, fd, e, G, fn_ok G S hlen (hd f) hp⟩
theorem DefOk.mono {x qual : Str} {st : Stmt} {ps : List Str} {j k : Nat} {sp : SpD} (G : DefOk P w K mg base j x qual st ps sp) (h : j ≤ k) : DefOk P w K mg base k x qual st ps sp := by
  obtain ⟨f, fd, e, G1, G2⟩ := G.ex
  exact ⟨f, fd, e, G1, G2.mono h⟩
end
section
variable {X : Cx} {W : WX} {pos p : Pos} {e : Expr} {es : List Expr} {qs qk : DA} {k : Nat} {ps ks : List Str} {sp : SpD} {x qual : Str} {st : Stmt}
theorem pd_callD (G : DefOk X.prog X.w X.K X.mg X.base k x qual st ps sp) (B : BindAll x qual st ps) (hr : Room k X.A) (tk : Takes X W)
    (ha : PA X (e :: es) (lA X.K W qs)) (hg : Gl X x := by rfl) (hdb : (x == ("__debug__" : Str)) = false := by decide) (he : starEach (e :: es) X.env = (false, eval e X.env) :: starEach es X.env := by rfl) (hpl : (backTo pos (starEach es X.env)).any (·.1) = false := by rfl) :
    PE X (.Call (.Name x p) (e :: es) [] pos) (lE X.K W (rCall sp [] qs)) := by
  obtain ⟨f, fd, hm, G1, G2⟩ := G.ex
  exact pd_call G2 hr hm G1.kp (G1.binds B) .nil (fun _ => .nil) tk ha hg hdb he hpl
theorem pd_callD0 (G : DefOk X.prog X.w X.K X.mg X.base k x qual st ps sp) (B : BindAll x qual st ps) (hr : Room k X.A) (tk : Takes X W)
    (hg : Gl X x := by rfl) (hdb : (x == ("__debug__" : Str)) = false := by decide) : PE X (.Call (.Name x p) [] [] pos) (lE X.K W (rCall sp [] rNil)) := by
  obtain ⟨f, fd, hm, G1, G2⟩ := G.ex
  exact pd_call0 G2 hr hm G1.kp (G1.binds B) .nil (fun _ => .nil) tk hg hdb
/-- the arguments in the parameters' order: by their places, positional ones first, then keywords -/
def gI {α : Type} (ix : List Nat) (us ws : List α) : List α := ix.filterMap fun i => (us ++ ws)[i]?
theorem gI_rp {K : PySem.W.Frag} {H : Hp} {vs zs : List V} {ds es : List D} (r1 : RpL K H vs ds) (r2 : RpL K H zs es) : ∀ ix : List Nat, RpL K H (gI ix vs zs) (gI ix ds es)
  | [] => .nil
  | i :: ix => by
    have ih := gI_rp r1 r2 ix
    have r := r1.append r2
    unfold gI at ih ⊢
    rw [List.filterMap_cons, List.filterMap_cons]
    cases h : (ds ++ es)[i]? with
    | none =>
      have h2 : (vs ++ zs)[i]? = none := by
        have := List.getElem?_eq_none_iff.mp h
        exact List.getElem?_eq_none_iff.mpr (by rw [r.length]; exact this)
      rw [h2]
      exact ih
    | some d =>
      obtain ⟨v, h2, q⟩ := r.get h
      rw [h2]
      exact .cons q ih
theorem gI_vals {vs zs : List V} {us ws : List Value} (r1 : Vals vs us) (r2 : Vals zs ws) : ∀ ix : List Nat, Vals (gI ix vs zs) (gI ix us ws)
  | [] => .nil
  | i :: ix => by
    have ih := gI_vals r1 r2 ix
    have r : Vals (vs ++ zs) (us ++ ws) := r1.append r2
    unfold gI at ih ⊢
    rw [List.filterMap_cons, List.filterMap_cons]
    cases h : (vs ++ zs)[i]? with
    | none => rw [r.none_of h]; exact ih
    | some d =>
      obtain ⟨v, h2, q⟩ := r.get h
      rw [h2]
      exact .cons q ih
def BindKw (x qual : Str) (st : Stmt) (ps : List Str) (n : Nat) (ks : List Str) (ix : List Nat) : Prop := ∀ (kV doc pm : Value) (an : Option Addr) (cdv ct : Value) (us ws : List Value), us.length = n → ws.length = ks.length → bindArgs (PySem.W.fnOf x qual (defArgs st) (defBody st) (defScope st) .none kV doc pm an cdv ct) ⟨us, ks.zip ws⟩ = pure (ps.zip (gI ix us ws))
theorem kbd_of {K : PySem.W.Frag} {n : Nat} {ix : List Nat} {f : Addr} {fd : FuncData} (G : Fun K x qual st f fd) (B : BindKw x qual st ps n ks ix) : KBd K fd ps n ks (gI ix) := by
  obtain ⟨oc, od, kV, doc, pm, an, cdv, ct, osl, rfl, lk, hcd⟩ := G.ex
  exact ⟨gI ix, gI ix, ⟨fun s us ws _ l1 l2 => BindsTo.of_eq (B kV doc pm an cdv ct us ws l1 l2), fun r1 r2 => gI_vals r1 r2 ix⟩, fun H vs ds zs es _ _ r1 r2 => gI_rp r1 r2 ix⟩
theorem pd_callDK {n : Nat} {ix : List Nat} {kws : List Keyword} (G : DefOk X.prog X.w X.K X.mg X.base k x qual st ps sp) (B : BindKw x qual st ps n ks ix) (hr : Room k X.A) (tk : Takes X W)
    (ha : PA X (e :: es) (lA X.K W qs)) (hkw : PK X kws (lA X.K W qk)) (hall : (backToKw pos (keywordEach kws X.env)).all (·.1.isSome) = true := by rfl) (hks : (backToKw pos (keywordEach kws X.env)).filterMap (·.1) = ks := by rfl) (hg : Gl X x := by rfl)
    (hdb : (x == ("__debug__" : Str)) = false := by decide) (he : starEach (e :: es) X.env = (false, eval e X.env) :: starEach es X.env := by rfl)
    (hpl : ((backTo pos (starEach (e :: es) X.env)).any (·.1) || (backToKw pos (keywordEach kws X.env)).any (·.1.isNone)) = false := by rfl) :
    PE X (.Call (.Name x p) (e :: es) kws pos) (lE X.K W (rCallK sp n ks.length (gI ix) qs qk)) := by
  obtain ⟨f, fd, hm, G1, G2⟩ := G.ex
  exact pd_callK G2 hr hm G1.kp (kbd_of G1 B) tk ha hkw hall hks hg hdb he hpl
theorem pd_callDK0 {ix : List Nat} {kws : List Keyword} (G : DefOk X.prog X.w X.K X.mg X.base k x qual st ps sp) (B : BindKw x qual st ps 0 ks ix) (hr : Room k X.A) (tk : Takes X W)
    (hkw : PK X kws (lA X.K W qk)) (hall : (backToKw pos (keywordEach kws X.env)).all (·.1.isSome) = true := by rfl) (hks : (backToKw pos (keywordEach kws X.env)).filterMap (·.1) = ks := by rfl) (hg : Gl X x := by rfl)
    (hdb : (x == ("__debug__" : Str)) = false := by decide)
    (hpl : ((backTo pos (starEach [] X.env)).any (·.1) || (backToKw pos (keywordEach kws X.env)).any (·.1.isNone)) = false := by rfl) :
    PE X (.Call (.Name x p) [] kws pos) (lE X.K W (rCallK sp 0 ks.length (gI ix) rNil qk)) := by
  obtain ⟨f, fd, hm, G1, G2⟩ := G.ex
  exact pd_callK0 G2 hr hm G1.kp (kbd_of G1 B) tk hkw hall hks hg hdb hpl
end
/-- what the law's row asks of its def -/
theorem law_mk {P : Program} {w : World} {K : PySem.W.Frag} {mg : Str → Option Value} {k : Nat} {x : Str} {st : Stmt} {fa : Addr} (B : BindAll "law" "law" st [x]) (FA : FunAt K mg "law" "law" st) (hfa : mg "law" = some (.ref fa))
    (G : ∀ base : Heap, K.In base → base.Ns mainGlobals mg → DefOk P w K mg base k "law" "law" st [x] spLaw) :
    ∃ fd : FuncData, (∀ (s : Shared) (u : Value), BindsTo s fd ⟨[u], []⟩ [(x, u)]) ∧ ∀ base : Heap, K.In base → base.Ns mainGlobals mg → FnOk P w K mg base (L2.CX P w) k fa fd [x] (lP K spLaw) := by
  obtain ⟨f0, fd0, e0, F0⟩ := FA
  rw [hfa] at e0
  cases e0
  have look := F0
  obtain ⟨oc, od, kV, doc, pm, an, cdv, ct, osl, rfl, lk, hcd⟩ := F0.ex
  refine ⟨_, fun s u => BindsTo.of_eq (B kV doc pm an cdv ct [u] rfl), fun base hK hN => ?_⟩
  obtain ⟨f, fd, e, G1, G2⟩ := (G base hK hN).ex
  rw [hfa] at e
  cases e
  obtain ⟨oc', od', kV', doc', pm', an', cdv', ct', osl', e', lk', hcd'⟩ := G1.ex
  rw [lk] at lk'
  cases lk'
  exact G2
end DL

namespace DL
open PySem L2
section
variable {X : Cx} {W : WX} {a b c : Expr} {ra rb rc : DE} {pos p : Pos}
def rNeg (ra : DE) : DE := fun δ m P PX => ra δ m (fun x m1 => match x with | .int i => P (.int (-i)) m1 | _ => False) PX
theorem pd_neg (ha : PE X a (lE X.K W ra)) : PE X (.UnaryOp .USub a pos) (lE X.K W (rNeg ra)) := by
  refine PE.imp (pe_un un_neg ha) fun σ H Q h => ?_
  obtain ⟨F, H0, m, δ, P, PX, ok, rs, h, g, gx⟩ := h
  refine ⟨F, H0, m, δ, _, PX, ok, rs, h, fun x H1 H01 m1 d s1 ok1 r1 h1 => ?_, gx⟩
  dsimp only at h1
  split at h1
  · cases r1
    exact ⟨_, rfl, g _ _ _ _ _ s1 ok1 (.int _) h1⟩
  · exact h1.elim
/-! ### dicts that are handed about -/
def rDct0 : DE := fun _ m P _ => P (.dct []) m
theorem pd_dct0 : PE X (.Dict [] [] pos) (lE X.K W rDct0) := by
  refine PE.imp pe_dnewK fun σ H Q h => ?_
  obtain ⟨F, H0, m, δ, P, PX, ok, rs, h, g, gx⟩ := h
  exact fun q hq => g _ _ _ _ _ (same_new (ok.free hq).1) (ok.new hq (.dK [])) (.dct (kvs := []) upd_same rfl .nil) h
def keyD : D → Option Key
  | .int i => some (.inl i)
  | .str x => some (.inr x)
  | _ => none
def rDct1 (ra rb : DE) : DE := fun δ m P PX => ra δ m (fun x m1 => rb δ m1 (fun y m2 => match keyD x with
  | some k => P (.dct [(k, y)]) m2
  | none => False) PX) PX
theorem keyD_rp {K : PySem.W.Frag} {H : Hp} {v : V} {d : D} {k : Key} (r : Rp K H v d) (h : keyD d = some k) : v = kV k := by
  cases r <;> first | (cases h; rfl) | cases h
/-- while the new dict stands by itself -/
theorem pd_dct1 (ha : PE X a (lE X.K W ra)) (hb : PE X b (lE X.K W rb)) : PE X (.Dict [some a] [b] pos) (lE X.K W (rDct1 ra rb)) := by
  refine PE.imp (pe_disp (pps_cons ha hb pps_nil) (by rfl) (by rfl) (fun z => by cases z) (by simp)) fun σ H Q h => ?_
  obtain ⟨F, H0, m, δ, P, PX, ok, rs, h, g, gx⟩ := h
  intro q hq
  have hF : F q = none := ok.freeF hq
  have okq : Ok X.K (upd F q (.dK [])) H0 m (upd H q (.dK [])) := ok.addF hq
  have gx' : ∀ H1, Same H0 H1 → GX X.K (upd F q (.dK [])) H1 PX fun c xd H' => W c xd σ H' := fun H1 s c xd H' H0' m' fs s' ok' x z => gx c xd H' H0' m' fs (s.trans s') (ok'.unframe hF).1 x z
  refine ⟨_, H0, m, δ, _, PX, okq, rs, h, fun x H1 H01 m1 d1 s1 ok1 r1 h1 => ⟨_, H01, m1, δ, _, PX, ok1, rs.mono s1, h1, fun y H2 H02 m2 d2 s2 ok2 r2 h2 => ?_, gx' _ s1⟩, gx' _ (Same.refl _)⟩
  dsimp only at h2
  split at h2
  · rename_i k e
    have ek := keyD_rp r1 e
    subst ek
    obtain ⟨z1, z2, z3⟩ := ok2.fr q _ upd_same
    refine ⟨z1, [(k, y)], rfl, by simp, ?_⟩
    obtain ⟨ok3, w1, w2, w3⟩ := (ok2.reF (o' := .dK [(k, y)])).unframe hF
    have em : mergeK [] [(k, y)] = [(k, y)] := rfl
    rw [em]
    exact g _ _ _ _ _ ((s1.trans s2).trans (same_new w2)) (ok3.promote w1 w2 w3 hF) (.dct upd_same rfl (.cons (r2.mono (same_new w2)) .nil)) h2
  · exact h2.elim
end
end DL
namespace DL
open PySem L2
theorem constS_mk {K : PySem.W.Frag} {h : Heap} {mg : Str → Option Value} {x z : Str} {u : Value} (X : K.In h) (G : h.Ns mainGlobals mg) (a : PySem.W.nsIn K mainGlobals x = some (some u)) (r : ∃ t, u = .str z t) : ∃ t, mg x = some (.str z t) := by
  obtain ⟨t, rfl⟩ := r
  exact ⟨t, PySem.W.mg_of X G a⟩
theorem constI_mk {K : PySem.W.Frag} {h : Heap} {mg : Str → Option Value} {x : Str} {z : Int} {u : Value} (X : K.In h) (G : h.Ns mainGlobals mg) (a : PySem.W.nsIn K mainGlobals x = some (some u)) (r : ∃ t, u = .int z t) : ∃ t, mg x = some (.int z t) := by
  obtain ⟨t, rfl⟩ := r
  exact ⟨t, PySem.W.mg_of X G a⟩
end DL

namespace DL
open PySem L2
theorem isB_NoneType_int : isB "NoneType" "int" = some false := by decide +kernel
theorem isB_NoneType_bool : isB "NoneType" "bool" = some false := by decide +kernel
theorem isB_NoneType_str : isB "NoneType" "str" = some false := by decide +kernel
theorem isB_NoneType_tuple : isB "NoneType" "tuple" = some false := by decide +kernel
theorem isB_NoneType_list : isB "NoneType" "list" = some false := by decide +kernel
theorem isB_NoneType_dict : isB "NoneType" "dict" = some false := by decide +kernel
theorem isB_bool_int : isB "bool" "int" = some true := by decide +kernel
theorem isB_bool_bool : isB "bool" "bool" = some true := by decide +kernel
theorem isB_bool_str : isB "bool" "str" = some false := by decide +kernel
theorem isB_bool_tuple : isB "bool" "tuple" = some false := by decide +kernel
theorem isB_bool_list : isB "bool" "list" = some false := by decide +kernel
theorem isB_bool_dict : isB "bool" "dict" = some false := by decide +kernel
theorem isB_int_int : isB "int" "int" = some true := by decide +kernel
theorem isB_int_bool : isB "int" "bool" = some false := by decide +kernel
theorem isB_int_str : isB "int" "str" = some false := by decide +kernel
theorem isB_int_tuple : isB "int" "tuple" = some false := by decide +kernel
theorem isB_int_list : isB "int" "list" = some false := by decide +kernel
theorem isB_int_dict : isB "int" "dict" = some false := by decide +kernel
theorem isB_str_int : isB "str" "int" = some false := by decide +kernel
theorem isB_str_bool : isB "str" "bool" = some false := by decide +kernel
theorem isB_str_str : isB "str" "str" = some true := by decide +kernel
theorem isB_str_tuple : isB "str" "tuple" = some false := by decide +kernel
theorem isB_str_list : isB "str" "list" = some false := by decide +kernel
theorem isB_str_dict : isB "str" "dict" = some false := by decide +kernel
theorem isB_list_int : isB "list" "int" = some false := by decide +kernel
theorem isB_list_bool : isB "list" "bool" = some false := by decide +kernel
theorem isB_list_str : isB "list" "str" = some false := by decide +kernel
theorem isB_list_tuple : isB "list" "tuple" = some false := by decide +kernel
theorem isB_list_list : isB "list" "list" = some true := by decide +kernel
theorem isB_list_dict : isB "list" "dict" = some false := by decide +kernel
theorem isB_tuple_int : isB "tuple" "int" = some false := by decide +kernel
theorem isB_tuple_bool : isB "tuple" "bool" = some false := by decide +kernel
theorem isB_tuple_str : isB "tuple" "str" = some false := by decide +kernel
theorem isB_tuple_tuple : isB "tuple" "tuple" = some true := by decide +kernel
theorem isB_tuple_list : isB "tuple" "list" = some false := by decide +kernel
theorem isB_tuple_dict : isB "tuple" "dict" = some false := by decide +kernel
theorem isB_dict_int : isB "dict" "int" = some false := by decide +kernel
theorem isB_dict_bool : isB "dict" "bool" = some false := by decide +kernel
theorem isB_dict_str : isB "dict" "str" = some false := by decide +kernel
theorem isB_dict_tuple : isB "dict" "tuple" = some false := by decide +kernel
theorem isB_dict_list : isB "dict" "list" = some false := by decide +kernel
theorem isB_dict_dict : isB "dict" "dict" = some true := by decide +kernel
/-- the words of the readings, unfolded -/
local macro_rules | `(tactic| walk_at "dl") => `(tactic| simp only [rV, rC, rOp, rNil, rCons, rTup, rLst, rLstM, rCB, rCall, rCallK, rAndV, rOrV, rNotV, rIfE, rTru, rTst, rAnd, rOr, rNot, rChain, rSl, rNoP, rPart, rJoin, rApp, rLc, rLcM, rNeg, rDct0, rDct1, sSeq, sSet, sRet, sIf, sExpr, sNext, sFor, sSetIx, iAny, iRange, iEnumD, qYes, gN, gT, asg, wipeD, dEnds, dstart, oAdd, oI, oI0, oSub, oMul, oDiv, oMod, oPow, oLt, oLe, oGt, oGe, oIx, oSl, cLen, cInt, cStr, cLst, cTup, cIsi, asL, asLT, tyN, truD, gI, oIsN, isNone, isB_NoneType_int, isB_NoneType_bool, isB_NoneType_str, isB_NoneType_tuple, isB_NoneType_list, isB_NoneType_dict, isB_bool_int, isB_bool_bool, isB_bool_str, isB_bool_tuple, isB_bool_list, isB_bool_dict, isB_int_int, isB_int_bool, isB_int_str, isB_int_tuple, isB_int_list, isB_int_dict, isB_str_int, isB_str_bool, isB_str_str, isB_str_tuple, isB_str_list, isB_str_dict, isB_list_int, isB_list_bool, isB_list_str, isB_list_tuple, isB_list_list, isB_list_dict, isB_tuple_int, isB_tuple_bool, isB_tuple_str, isB_tuple_tuple, isB_tuple_list, isB_tuple_dict, isB_dict_int, isB_dict_bool, isB_dict_str, isB_dict_tuple, isB_dict_list, isB_dict_dict, List.getElem?_cons_zero, List.getElem?_cons_succ, List.set_cons_zero, List.set_cons_succ, List.map_cons, List.map_nil, List.length_cons, List.length_nil, List.cons_append, List.nil_append, List.append_nil, List.replicate, Nat.sub_self, Nat.reduceSub, Nat.reduceAdd, List.filterMap_cons, List.filterMap_nil, Bool.not_true, Bool.not_false, if_true, if_false, Bool.false_eq_true])
end DL

namespace DL
open PySem L2
/-! ### reading loops and comprehensions -/
section
variable {Ph : Mu → Prop} {rg : DG} {rb : DS} {DD : DEnds} {qt : DT} {re : DE} {δ : DSt} {P : List D → Mu → Prop}
theorem loop_inv {ds : List D} (I : Nat → DSt → Mu → Prop) (hs : ∀ (i : Nat) d δ m, ds[i]? = some d → I i δ m → Ph m ∧ ∀ Nx : DSt → Mu → Prop, (∀ δ' m', I (i + 1) δ' m' → Nx δ' m') → rg d δ m fun δ' m' => rb { DD with nx := Nx, ct := Nx, bk := DD.nx } δ' m')
    (hd : ∀ δ m, I ds.length δ m → Ph m ∧ DD.nx δ m) {δ : DSt} {m : Mu} (h0 : I 0 δ m) : sLoop Ph rg rb DD ds δ m := by
  have go : ∀ (k i : Nat) δ m, i + k = ds.length → I i δ m → sLoop Ph rg rb DD (ds.drop i) δ m := by
    intro k
    induction k with
    | zero =>
      intro i δ m e h
      have e : i = ds.length := by omega
      subst e
      rw [List.drop_length, sLoop_nil]
      exact hd δ m h
    | succ k ih =>
      intro i δ m e h
      have hlt : i < ds.length := by omega
      rw [List.drop_eq_getElem_cons hlt, sLoop_cons]
      obtain ⟨ph, h2⟩ := hs i _ δ m (List.getElem?_eq_getElem hlt) h
      exact ⟨ph, h2 _ fun δ' m' h' => ih (i + 1) δ' m' (by omega) h'⟩
  exact go ds.length 0 δ m (by omega) h0
theorem comp_inv {ds : List D} (I : Nat → List D → Mu → Prop) (hl : ∀ (i : Nat) acc m, I i acc m → acc.length ≤ i) (hn : ds.length ≤ 16777216)
    (hs : ∀ (i : Nat) d acc m, ds[i]? = some d → I i acc m → Ph m ∧ ∀ (Kt : D → Mu → Prop) (Kf : Mu → Prop), (∀ x m2, I (i + 1) (acc ++ [x]) m2 → Kt x m2) → (∀ m1, I (i + 1) acc m1 → Kf m1) → rg d δ m fun δ' m' => qt δ' m' (fun k m1 => match k with
      | true => re δ' m1 Kt noX
      | false => Kf m1) noX)
    (hd : ∀ acc m, I ds.length acc m → Ph m ∧ P acc m) {m : Mu} (h0 : I 0 [] m) : rComp Ph rg qt re δ P ds [] m := by
  have go : ∀ (k i : Nat) acc m, i + k = ds.length → I i acc m → rComp Ph rg qt re δ P (ds.drop i) acc m := by
    intro k
    induction k with
    | zero =>
      intro i acc m e h
      have e : i = ds.length := by omega
      subst e
      rw [List.drop_length, rComp_nil]
      exact hd acc m h
    | succ k ih =>
      intro i acc m e h
      have hlt : i < ds.length := by omega
      rw [List.drop_eq_getElem_cons hlt, rComp_cons]
      obtain ⟨ph, h2⟩ := hs i _ acc m (List.getElem?_eq_getElem hlt) h
      have hz : acc.length < sizeLine := by
        have h3 := hl i acc m h
        have h4 : sizeLine = 16777216 := sizeLine_eq
        omega
      exact ⟨ph, h2 (fun x m2 => acc.length < sizeLine ∧ rComp Ph rg qt re δ P (ds.drop (i + 1)) (acc ++ [x]) m2) (fun m1 => rComp Ph rg qt re δ P (ds.drop (i + 1)) acc m1) (fun x m2 h' => ⟨hz, ih (i + 1) _ m2 (by omega) h'⟩) (fun m1 h' => ih (i + 1) _ m1 (by omega) h')⟩
  exact go ds.length 0 [] m (by omega) h0
/-- where nothing changes -/
theorem comp_fm {ds : List D} {j : Nat} {m : Mu} (p : D → Bool) (f : D → D) (hn : ds.length ≤ 16777216) (ph : Ph m) (ht : ∀ d ∈ ds, ∀ Q : Bool → Mu → Prop, Q (p d) m → qt (δ.set j (some d)) m Q noX) (he : ∀ d ∈ ds, p d = true → ∀ Q : DK, Q (f d) m → re (δ.set j (some d)) m Q noX)
    (h : P ((ds.filter p).map f) m) : rComp Ph (gN j) qt re δ P ds [] m := by
  refine comp_inv (fun i acc m' => m' = m ∧ acc = ((ds.take i).filter p).map f) (fun i acc m' h => ?_) hn (fun i d acc m' e h => ?_) (fun acc m' h => ?_) ⟨rfl, by simp⟩
  · rw [h.2, List.length_map]
    exact Nat.le_trans (List.length_filter_le _ _) (by rw [List.length_take]; omega)
  · obtain ⟨rfl, rfl⟩ := h
    refine ⟨ph, fun Kt Kf h1 h2 => ?_⟩
    have hm := List.mem_of_getElem? e
    have e2 : ds.take (i + 1) = ds.take i ++ [d] := by
      rw [List.take_succ, e]; rfl
    show qt (δ.set j (some d)) m' _ noX
    refine ht d hm _ ?_
    cases hp : p d with
    | true => exact he d hm hp _ (h1 _ _ ⟨rfl, by rw [e2]; simp [hp]⟩)
    | false => exact h2 _ ⟨rfl, by rw [e2]; simp [hp]⟩
  · obtain ⟨rfl, rfl⟩ := h
    rw [List.take_length]
    exact ⟨ph, h⟩
theorem comp_map {ds : List D} {j : Nat} {m : Mu} (f : D → D) (hn : ds.length ≤ 16777216) (ph : Ph m) (he : ∀ d ∈ ds, ∀ Q : DK, Q (f d) m → re (δ.set j (some d)) m Q noX)
    (h : P (ds.map f) m) : rComp Ph (gN j) qYes re δ P ds [] m :=
  comp_fm (fun _ => true) f hn ph (fun _ _ _ q => q) (fun d hd _ => he d hd) (by rw [List.filter_eq_self.mpr (fun _ _ => rfl)]; exact h)
end
/-! ### what is ours -/
theorem mset_same {m : Mu} {a : Addr} {o : MO} : mset m a o a = some o := by unfold mset; rw [if_pos rfl]
theorem mset_ne {m : Mu} {a b : Addr} {o : MO} (h : b ≠ a) : mset m a o b = m b := by unfold mset; rw [if_neg h]
theorem asL_adr {m : Mu} {a : Addr} {ds : List D} (h : m a = some (.lst ds)) : asL m (.adr a) = some ds := by unfold asL; dsimp only; rw [h]
/-- things that may be handed about -/
def plain : D → Bool
  | .ty _ => false
  | .adr _ => false
  | .ins _ _ => false
  | _ => true
/-- a text's size -/
theorem len_line {n : Nat} (h : n ≤ 1000000) : n ≤ sizeLine := Nat.le_trans h (by decide)
/-! ### a well: three numbers -/
structure Wl (m : Mu) (w : Addr) (k : Nat) : Prop where
  ex : ∃ a b c : Int, m w = some (.lst [.int a, .int b, .int c]) ∧ 0 ≤ b ∧ b < 2147483629 ∧ 0 ≤ c ∧ c ≤ k
/-- nothing but the well has changed -/
def Only1 (w : Addr) (m m' : Mu) : Prop := ∀ a, a ≠ w → m' a = m a
theorem Only1.refl (w : Addr) (m : Mu) : Only1 w m m := fun _ _ => rfl
theorem Only1.trans {w : Addr} {m m1 m2 : Mu} (a : Only1 w m m1) (b : Only1 w m1 m2) : Only1 w m m2 := fun x h => (b x h).trans (a x h)
theorem Wl.mono {m : Mu} {w : Addr} {k j : Nat} (h : Wl m w k) (hj : k ≤ j) : Wl m w j := by
  obtain ⟨a, b, c, e, h1, h2, h3, h4⟩ := h.ex
  exact ⟨a, b, c, e, h1, h2, h3, by omega⟩
def spDraw : SpD := fun ds m P _ => ∃ (w : Addr) (many : Int) (k : Nat), ds = [.adr w, .int many] ∧ Wl m w k ∧ k ≤ 1000000000 ∧ 0 < many ∧ many.natAbs < 2 ^ 200 ∧
  ∀ (r : Int) m', 0 ≤ r → r < many → Only1 w m m' → Wl m' w (k + 1) → P (.int r) m'
def spWell : SpD := fun ds m P _ => ∃ c : Int, ds = [.int c] ∧ ∀ w m', m w = none → Only1 w m m' → Wl m' w 0 → P (.adr w) m'
def spCellAt : SpD := fun ds m P _ => ∃ (ns : List Int) (k : Nat), ds = [.lst (ns.map .int), .int k] ∧ ∀ c : Int, P (.int c) m
end DL

namespace DL
open PySem L2
local macro_rules | `(tactic| walk_at "dl") => `(tactic| ((conv => whnf); try dsimp only))
def rdDraw : DS :=
    sSeq (sIf (rTst (rOp oGt (rOp oIx (rV 0) (rC (.int 0))) (rC (.int 0)))) (sSeq (sSet 3 (rOp oMod (rCB cInt (rCons (rOp oIx (rV 0) (rC (.int 0))) (rNil))) (rV 1)))
    (sSeq (sSetIx (rOp oDiv (rOp oIx (rV 0) (rC (.int 0))) (rV 1)) (rV 0) (rC (.int 0)))
    (sRet (rV 3)))) (sNext))
    (sSeq (sSetIx (rOp oAdd (rOp oIx (rV 0) (rC (.int 2))) (rC (.int 1))) (rV 0) (rC (.int 2)))
    (sSeq (sSet 2 (rOp oMod (rCB cInt (rCons (rOp oPow (rOp oAdd (rOp oAdd (rOp oIx (rV 0) (rC (.int 1))) (rOp oMul (rC (.int 7919)) (rOp oIx (rV 0) (rC (.int 2))))) (rC (.int 1))) (rC (.int 5))) (rNil))) (rC (.int 2147483647))))
    (sSeq (sSet 2 (rOp oMod (rCB cInt (rCons (rOp oMul (rV 2) (rOp oAdd (rOp oAdd (rOp oDiv (rV 2) (rC (.int 1009))) (rC (.int 69621))) (rOp oIx (rV 0) (rC (.int 2))))) (rNil))) (rC (.int 2147483629))))
    (sRet (rOp oMod (rCB cInt (rCons (rOp oMod (rCB cInt (rCons (rOp oMul (rV 2) (rOp oAdd (rOp oDiv (rV 2) (rC (.int 2003))) (rC (.int 40692)))) (rNil))) (rC (.int 2147483399))) (rNil))) (rV 1))))))
theorem only_mset (w : Addr) (m : Mu) (o : MO) : Only1 w m (mset m w o) := fun _ h => mset_ne h
theorem draw_pure (x1 x2 x3 x4 : Str) : ∀ ds m Q PX, spDraw ds m Q PX → rdDraw (dEnds Q PX) (dstart [x1, x2, x3, x4] ds) m := by
  rintro ds m Q PX ⟨w, many, k, rfl, wl, hk, h0, hb, h⟩
  obtain ⟨a, b, c, e, hb1, hb2, hc1, hc2⟩ := wl.ex
  have dv : ∀ i : Int, CDivW i many := fun i => wide_div h0 hb (by decide) (by decide)
  walk_at "dl"
  rw [asL_adr e]
  walk_at "dl"
  cases ha : decide (0 < a) with
  | true =>
    walk_at "dl"
    rw [asL_adr e]
    walk_at "dl"
    refine ⟨h0, ?_⟩
    walk_at "dl"
    rw [asL_adr e]
    walk_at "dl"
    refine ⟨dv a, ?_⟩
    walk_at "dl"
    rw [e]
    walk_at "dl"
    exact h _ _ (Int.emod_nonneg _ (by omega)) (Int.emod_lt_of_pos _ h0) (only_mset _ _ _) ⟨_, b, c, mset_same, hb1, hb2, hc1, by omega⟩
  | false =>
    walk_at "dl"
    rw [asL_adr e]
    walk_at "dl"
    rw [e]
    walk_at "dl"
    rw [asL_adr mset_same]
    walk_at "dl"
    rw [asL_adr mset_same]
    walk_at "dl"
    refine ⟨.inl ⟨by decide, by decide⟩, ?_⟩
    walk_at "dl"
    have bound : ∀ z : Int, 0 ≤ z → z ≤ 10000000000000 → CPow (b + z + 1) 5 := fun z h1 h2 => ⟨by decide, by decide, by
      have : (2 : Nat) ^ 64 = 18446744073709551616 := by decide
      omega⟩
    refine ⟨bound _ (by omega) (by omega), ?_⟩
    walk_at "dl"
    refine ⟨(by show (0 : Int) < _; decide), ?_⟩
    walk_at "dl"
    generalize hF : (b + 7919 * (c + 1) + 1) ^ Int.toNat 5 % 2147483647 = f1
    have f1a : 0 ≤ f1 := by rw [← hF]; exact Int.emod_nonneg _ (by decide)
    have f1b : f1 < 2147483647 := by rw [← hF]; exact Int.emod_lt_of_pos _ (by decide)
    refine ⟨wide_div (b := 11) (by decide) (by decide) (by decide) (by decide), ?_⟩
    walk_at "dl"
    rw [asL_adr mset_same]
    walk_at "dl"
    refine ⟨.inl ⟨by omega, by omega⟩, ?_⟩
    walk_at "dl"
    refine ⟨(by show (0 : Int) < _; decide), ?_⟩
    walk_at "dl"
    generalize hF2 : f1 * (f1 / 1009 + 69621 + (c + 1)) % 2147483629 = f2
    have f2a : 0 ≤ f2 := by rw [← hF2]; exact Int.emod_nonneg _ (by decide)
    have f2b : f2 < 2147483629 := by rw [← hF2]; exact Int.emod_lt_of_pos _ (by decide)
    refine ⟨wide_div (b := 11) (by decide) (by decide) (by decide) (by decide), ?_⟩
    walk_at "dl"
    refine ⟨.inl ⟨by omega, by omega⟩, ?_⟩
    walk_at "dl"
    refine ⟨(by show (0 : Int) < _; decide), ?_⟩
    walk_at "dl"
    refine ⟨h0, ?_⟩
    exact h _ _ (Int.emod_nonneg _ (by omega)) (Int.emod_lt_of_pos _ h0) (only_mset _ _ _) ⟨a, b, c + 1, mset_same, hb1, hb2, by omega, by omega⟩
end DL
namespace DL
open PySem L2
local macro_rules | `(tactic| walk_at "dl") => `(tactic| ((conv => whnf); try dsimp only))
def rdWell : DS :=
    sRet (rLstM (rCons (rOp oIx (rLst (rCons (rC (.int 0)) (rCons (rV 0) (rNil)))) (rCB cInt (rCons (rOp oGe (rV 0) (rOp oPow (rC (.int 10)) (rC (.int 18)))) (rNil)))) (rCons (rOp oMod (rCB cInt (rCons (rV 0) (rNil))) (rC (.int 2147483629))) (rCons (rC (.int 0)) (rNil)))))
theorem well_pure (x1 : Str) : ∀ ds m Q PX, spWell ds m Q PX → rdWell (dEnds Q PX) (dstart [x1] ds) m := by
  rintro ds m Q PX ⟨c, rfl, h⟩
  walk_at "dl"
  refine ⟨len_line (by simp), ?_⟩
  walk_at "dl"
  refine ⟨⟨by decide, by decide, by decide⟩, ?_⟩
  have fin : ∀ z : Int, (rCons (rOp oMod (rCB cInt (rCons (rV 0) (rNil))) (rC (.int 2147483629))) (rCons (rC (.int 0)) (rNil))) [some (.int c)] m (fun xs m2 => ([D.int z] ++ xs).length ≤ sizeLine ∧ ∀ q, m2 q = none → Q (.adr q) (mset m2 q (.lst ([D.int z] ++ xs)))) (fun c fs m1 => PX c fs m1) := by
    intro z
    walk_at "dl"
    refine ⟨(by show (0 : Int) < _; decide), ?_⟩
    refine ⟨len_line (by show 3 ≤ 1000000; decide), fun q hq => h q _ hq (only_mset _ _ _) ⟨z, c % 2147483629, 0, mset_same, Int.emod_nonneg _ (by decide), Int.emod_lt_of_pos _ (by decide), by decide, by decide⟩⟩
  walk_at "dl"
  cases hc : decide (10 ^ Int.toNat 18 ≤ c) with
  | true => exact fin c
  | false => exact fin 0
def rdCellAt : DS :=
    sSeq (sIf (rTst (rOp oLt (rV 1) (rCB cLen (rCons (rV 0) (rNil))))) (sRet (rOp oIx (rV 0) (rV 1))) (sNext))
    (sRet (rC (.int 0)))
theorem atI_some {α : Type} {xs : List α} {i : Int} (h0 : 0 ≤ i) (h1 : i < xs.length) : ∃ x, atI xs i = some x ∧ xs[i.toNat]? = some x := by
  unfold atI ixN
  rw [if_pos h0, if_pos h1]
  have hl : i.toNat < xs.length := by omega
  exact ⟨xs[i.toNat], by simp [hl], by simp [hl]⟩
theorem cellAt_pure (x1 x2 : Str) : ∀ ds m Q PX, spCellAt ds m Q PX → rdCellAt (dEnds Q PX) (dstart [x1, x2] ds) m := by
  rintro ds m Q PX ⟨ns, k, rfl, h⟩
  walk_at "dl"
  cases hk : decide ((k : Int) < ((ns.map D.int).length : Nat)) with
  | true =>
    have hk' := of_decide_eq_true hk
    obtain ⟨x, e1, e2⟩ := atI_some (by omega) hk'
    walk_at "dl"
    rw [e1]
    rw [List.getElem?_map] at e2
    cases e3 : ns[((k : Nat) : Int).toNat]? with
    | none => rw [e3] at e2; cases e2
    | some n =>
      rw [e3] at e2
      cases e2
      exact h n
  | false => exact h 0
end DL

namespace DL
open PySem L2
/-! ### a new object that a rule of the ledger has laid -/
theorem obj_alive {P : Program} {w : World} {H : Hp} {h : Heap} {a : Addr} {o : HO} (x : ObjOk P w H h a o) : ∃ u, h.get? a = some u := by
  cases o with
  | lst xs => obtain ⟨_, _, _, _, e⟩ := x; exact ⟨_, e⟩
  | tup xs => obtain ⟨_, _, _, o, e, _⟩ := x; exact ⟨_, e⟩
  | dK kvs => obtain ⟨_, _, _, _, o, _, _, e, _⟩ := x; exact ⟨_, e⟩
  | dT kvs => obtain ⟨_, _, _, _, o, _, _, e, _⟩ := x; exact ⟨_, e⟩
  | set S n => obtain ⟨o, _, _, _, e, _⟩ := x; exact ⟨_, e⟩
  | ins C dx fs => obtain ⟨_, _, _, e, _⟩ := x; exact ⟨_, e⟩
  | own y => exact x
  | xd fs => obtain ⟨_, ⟨_, _, _, e, _⟩, _⟩ := x; exact ⟨_, e⟩
  | rng lo hi => obtain ⟨_, _, _, e⟩ := x; exact ⟨_, e⟩
  | frz ob u => obtain ⟨e, _⟩ := x; exact ⟨_, e⟩
  | tbl ps => exact ⟨_, x⟩
  | met f y => exact ⟨_, x⟩
  | ext φ => exact x.2.1
theorem inv_news {X : Cx} {pins : List (Addr × Obj)} {σ : St} {H : Hp} {s : Shared} {h' : Heap} {tk : Nat} {q : Addr} {o : Obj} {u : HO} {mm : Str → Option Value} (I : L2.Inv X pins σ H s) (F0 : PyProof.Rows.Fr X.base X.env.locals s.heap mm) (F' : PyProof.Rows.Fr X.base X.env.locals h' mm)
    (N' : PyProof.Rows.News X.base X.env.locals h' ((q, o) :: allNews X.base s.heap X.env.locals)) (l1 : ∀ z ∈ allNews X.base s.heap X.env.locals, z.1 < q)
    (new : ∀ H2, ObjOk X.prog X.w H2 h' q u) : L2.Inv X pins σ (upd H q u) { s with heap := h', toks := tk } ∧ H q = none := by
  have nq := N' _ List.mem_cons_self
  have keep : ∀ b ob, b ≠ X.env.locals → s.heap.get? b = some ob → h'.get? b = some ob := fun b ob hb e => by
    cases z : X.base.get? b with
    | some v =>
      have := I.bk b v z
      rw [e] at this; cases this
      exact F'.keep b _ z
    | none => exact (N' (b, ob) (List.mem_cons_of_mem _ (mem_allNews hb z e))).1
  have dead : s.heap.get? q = none := by
    cases z : s.heap.get? q with
    | none => rfl
    | some v => exact absurd (l1 (q, v) (mem_allNews nq.2.1 nq.2.2 z)) (Nat.lt_irrefl _)
  have hq : H q = none := by
    cases z : H q with
    | none => rfl
    | some v =>
      obtain ⟨w, hw⟩ := obj_alive (I.hok q v z)
      rw [dead] at hw; cases hw
  have ne : ∀ b ob, s.heap.get? b = some ob → b ≠ q := fun b ob e z => by rw [z, dead] at e; cases e
  refine ⟨I.step (g' := s.gens) (d' := s.drawn) (ch := []) (fun _ z => nomatch z) (fun b ob hb _ _ e _ => keep b ob hb e) (fun b ob hb _ _ e _ => ⟨ob.slots, keep b ob hb e⟩) (fun b ob _ e n => by rw [upd_ne (ne b ob e)]; exact n)
    (fun b ob _ e => ?_) (fun b xs e => by rw [upd_ne (ne_of_none e hq)]; exact e) (fun b ob xs e => by rw [upd_ne (ne_of_none e hq)]; exact e) (fun b ps e => ⟨#[], by rw [upd_ne (ne_of_none e hq), e]; simp⟩) (fun m2 hm => ?_) (fun b v e => ?_) I.bare, hq⟩
  · by_cases hb : b = X.env.locals
    · obtain ⟨ob2, _, _, e2, _⟩ := F'.ns
      exact ⟨ob2, by rw [hb]; exact e2⟩
    · exact ⟨ob, keep b ob hb e⟩
  · have e : m2 = mm := by rw [hm.eq_nsMap, F0.ns.eq_nsMap]
    rw [e]
    exact F'.ns
  · by_cases hb : b = q
    · subst hb
      rw [upd_same] at e; cases e
      exact new _
    · rw [upd_ne hb] at e
      refine (I.hok b v e).stay (fun c w hc z => keep c w ?_ z) (fun c z => by rw [upd_ne (ne_of_none z hq)]; exact z) fun c xs z => by rw [upd_ne (ne_of_none z hq)]; exact z
      rcases hc with rfl | hc
      · intro z; rw [z, I.free] at e; cases e
      · intro z; rw [z, I.free] at hc; cases hc
/-! ### x, *rest = a tuple or list -/
def gStarV (K : PySem.W.Frag) (i j : Nat) : TG := fun v σ H Q => ∃ a z zs, v = .ref a ∧ (SqL K H a (z :: zs) ∨ SqT K H a (z :: zs)) ∧ zs.length < 16000 ∧ ∀ q, H q = none → Q ((σ.set i (some z)).set j (some (.ref q))) (upd H q (.lst zs))
section
variable {X : Cx} {W : WX} {a b c : Expr} {ra rb rc : DE} {pos p : Pos}
theorem pg_star {i j : Nat} {x y : Str} {p1 p2 p3 : Pos} {k : Nat} (hc : X.calm = true) (hx : PG X (.Name x p1) (gName i)) (hy : PG X (.Name y p2) (gName j)) : PG X (.Tuple [.Name x p1, .Starred (.Name y p2) p3] k pos) (gStarV X.K i j) := by
  refine ⟨fun pins s σ H v u Q I r hw => ?_⟩
  obtain ⟨q, z, zs, rfl, hq, hl, hw⟩ := hw
  cases r
  obtain ⟨mm, F0⟩ := I.fr
  have names : PGs X [.Name x p1, .Name y p2] (gCons (gName i) (gCons (gName j) gNil)) := pgs_cons hx (pgs_cons hy pgs_nil)
  have fin : ∀ (z' : Value) (zs' : List Value) D h' tk, RelV z z' → Vals zs zs' → PyProof.Rows.Fr X.base X.env.locals h' mm → PyProof.Rows.News X.base X.env.locals h' ((D, PySem.W.listOf zs'.toArray 0) :: allNews X.base s.heap X.env.locals) → (∀ w ∈ allNews X.base s.heap X.env.locals, w.1 < D) →
      wpAny (model X.prog X.w) X.A (assignInOrder ((assignEach [.Name x p1, .Starred (.Name y p2) p3] X.env).map (·.2)) ([z'] ++ [.ref D] ++ [])) (fun _ s' => ∃ σ' H', L2.Inv X pins σ' H' s' ∧ Q σ' H') X.xe { s with heap := h', toks := tk } := fun z' zs' D h' tk rz rzs F' N' l1 => by
    have hlen := rzs.length
    obtain ⟨I', hD⟩ := inv_news (u := .lst zs) (tk := tk) I F0 F' N' l1 fun H2 => ⟨by rw [sizeLine_eq]; omega, zs', 0, rzs, (N' _ List.mem_cons_self).1⟩
    exact names.run pins _ σ _ [z, .ref D] [z', .ref D] Q I' (.cons rz (.cons rfl .nil)) ⟨z, _, rfl, _, _, rfl, rfl, hw D hD⟩
  rcases hq with hq | hq
  · obtain ⟨its, rv, pl, hz⟩ := I.list hq
    cases rv with
    | @cons _ z' _ zs' rz rzs =>
      have hlen := rzs.length
      exact PySem.W.kun_assignL (n := 2) (i := 1) (first := [z']) (mids := zs') (lasts := []) F0 news_all pl.isList (I.ok.hd hc) rfl rfl (by decide) (by simp) (by simp; omega) (by simp) (by simp) (by simp) fun D h' tk F' N' l1 => fin z' zs' D h' tk rz rzs F' N' l1
  · obtain ⟨its, rv, pl, hz⟩ := I.tuple hq
    cases rv with
    | @cons _ z' _ zs' rz rzs =>
      have hlen := rzs.length
      exact PySem.W.kun_assignT (n := 2) (i := 1) (first := [z']) (mids := zs') (lasts := []) F0 news_all pl (I.ok.hd hc) rfl rfl (by decide) (by simp) (by simp; omega) (by simp) (by simp) (by simp) fun D h' tk F' N' l1 => fin z' zs' D h' tk rz rzs F' N' l1
/-- over data -/
def sStar (i j : Nat) (ra : DE) : DS := fun DD δ m => ra δ m (fun d m1 => match asLT m1 d with
  | some (z :: zs) => zs.length < 16000 ∧ DD.nx ((δ.set i (some z)).set j (some (.lst zs))) m1
  | _ => False) fun c fs m1 => DD.xx c fs δ m1
theorem ds_star {i j : Nat} {x y : Str} {p1 p2 p3 p4 : Pos} {k : Nat} (hc : X.calm = true) (ha : PE X a (lE X.K W ra)) (hx : PG X (.Name x p1) (gName i)) (hy : PG X (.Name y p2) (gName j))
    (hs : swapsWithSole [.Tuple [.Name x p1, .Starred (.Name y p2) p3] k p4] a pos.line X.env = pure false := by rfl) (hw : swappedStores [.Tuple [.Name x p1, .Starred (.Name y p2) p3] k p4] a X.env = pure none := by rfl) (h1 : (assignEach [.Tuple [.Name x p1, .Starred (.Name y p2) p3] k p4] X.env).map (·.2) = [assign (.Tuple [.Name x p1, .Starred (.Name y p2) p3] k p4) X.env] := by rfl) :
    PS X (.Assign [.Tuple [.Name x p1, .Starred (.Name y p2) p3] k p4] a pos) (lS X.K W (sStar i j ra)) := by
  refine PS.imp (ps_asg ha (pg_star hc hx hy) hs hw h1) fun Dn σ H h => ?_
  obtain ⟨F, H0, m, δ, DD, ok, rs, h, g⟩ := h
  refine ⟨F, H0, m, δ, _, _, ok, rs, h, fun v H1 H01 m1 d s1 ok1 r1 h1 => ?_, g.xx.at_ rs⟩
  dsimp only at h1
  split at h1
  · rename_i z zs e1
    obtain ⟨q, vs, rfl, hq, rv⟩ := asLT_rp ok1 r1 e1
    cases rv with
    | @cons zv vs' _ _ rz rzs =>
      refine ⟨q, zv, vs', rfl, hq, by rw [rzs.length]; exact h1.1, fun D hD => ?_⟩
      have sn := same_new (o := HO.lst vs') (ok1.free hD).1
      exact g.nx _ _ _ _ _ (s1.trans sn) (ok1.new hD _) ((((rs.mono s1).mono sn).set (rz.mono sn) i).set (.lst (SqL.of upd_same) (rzs.mono sn)) j) h1.2
  · exact h1.elim
end
end DL

namespace DL
open PySem L2
/-! ### pairs of a dict -/
section
variable {κ : Type} [DecidableEq κ]
@[irreducible] def valD (kvs : List (κ × D)) (k : κ) : Option D := (kvs.find? fun kv => decide (kv.1 = k)).map (·.2)
theorem valD_nil {k : κ} : valD ([] : List (κ × D)) k = none := by unfold valD; rfl
theorem valD_pos {p : κ × D} {r : List (κ × D)} {k : κ} (e : p.1 = k) : valD (p :: r) k = some p.2 := by unfold valD; simp [List.find?_cons, e]
theorem valD_neg {p : κ × D} {r : List (κ × D)} {k : κ} (e : ¬ p.1 = k) : valD (p :: r) k = valD r k := by unfold valD; simp [List.find?_cons, e]
@[irreducible] def putD (kvs : List (κ × D)) (k : κ) (d : D) : List (κ × D) := if (valD kvs k).isSome then kvs.map (fun kv => if kv.1 = k then (kv.1, d) else kv) else kvs ++ [(k, d)]
theorem putD_new {kvs : List (κ × D)} {k : κ} {d : D} (h : valD kvs k = none) : putD kvs k d = kvs ++ [(k, d)] := by unfold putD; rw [h]; rfl
inductive RpK (K : PySem.W.Frag) (H : Hp) : List (κ × V) → List (κ × D) → Prop
  | nil : RpK K H [] []
  | cons {k : κ} {v : V} {d : D} {r : List (κ × V)} {t : List (κ × D)} : Rp K H v d → RpK K H r t → RpK K H ((k, v) :: r) ((k, d) :: t)
theorem rpK_of {K : PySem.W.Frag} {H : Hp} : ∀ {kv : List (κ × V)} {ds : List (κ × D)}, kv.map (·.1) = ds.map (·.1) → RpL K H (kv.map (·.2)) (ds.map (·.2)) → RpK K H kv ds
  | [], [], _, _ => .nil
  | [], _ :: _, e, _ => by simp at e
  | _ :: _, [], e, _ => by simp at e
  | (k, v) :: r, (k2, d) :: t, e, q => by
    simp only [List.map_cons, List.cons.injEq] at e
    obtain ⟨rfl, e⟩ := e
    cases q with
    | cons q1 q2 => exact .cons q1 (rpK_of e q2)
theorem RpK.keys {K : PySem.W.Frag} {H : Hp} {kv : List (κ × V)} {ds : List (κ × D)} (r : RpK K H kv ds) : kv.map (·.1) = ds.map (·.1) := by
  induction r with
  | nil => rfl
  | cons _ _ ih => simp [ih]
theorem RpK.vals {K : PySem.W.Frag} {H : Hp} {kv : List (κ × V)} {ds : List (κ × D)} (r : RpK K H kv ds) : RpL K H (kv.map (·.2)) (ds.map (·.2)) := by
  induction r with
  | nil => exact .nil
  | cons q _ ih => exact .cons q ih
theorem RpK.length {K : PySem.W.Frag} {H : Hp} {kv : List (κ × V)} {ds : List (κ × D)} (r : RpK K H kv ds) : kv.length = ds.length := by
  have := congrArg List.length r.keys; simpa using this
theorem RpK.mono {K : PySem.W.Frag} {H H' : Hp} (s : Same H H') {kv : List (κ × V)} {ds : List (κ × D)} (r : RpK K H kv ds) : RpK K H' kv ds := by
  induction r with
  | nil => exact .nil
  | cons q _ ih => exact .cons (q.mono s) ih
theorem RpK.val {K : PySem.W.Frag} {H : Hp} {kv : List (κ × V)} {ds : List (κ × D)} (r : RpK K H kv ds) (k : κ) : (valV kv k = none ∧ valD ds k = none) ∨ ∃ v d, valV kv k = some v ∧ valD ds k = some d ∧ Rp K H v d := by
  induction r with
  | nil => exact .inl ⟨valV_nil, valD_nil⟩
  | @cons k2 v d r t q _ ih =>
    by_cases e : k2 = k
    · exact .inr ⟨v, d, valV_pos e, valD_pos e, q⟩
    · rw [valV_neg e, valD_neg e]; exact ih
theorem RpK.append {K : PySem.W.Frag} {H : Hp} {kv kv' : List (κ × V)} {ds ds' : List (κ × D)} (r : RpK K H kv ds) (r' : RpK K H kv' ds') : RpK K H (kv ++ kv') (ds ++ ds') := by
  induction r with
  | nil => exact r'
  | cons q _ ih => exact .cons q ih
theorem RpK.put {K : PySem.W.Frag} {H : Hp} {kv : List (κ × V)} {ds : List (κ × D)} (r : RpK K H kv ds) (k : κ) {v : V} {d : D} (q : Rp K H v d) : RpK K H (putK kv k v) (putD ds k d) := by
  unfold putK putD
  rw [valV_any]
  have e : (valV kv k).isSome = (valD ds k).isSome := by
    rcases r.val k with ⟨a, b⟩ | ⟨_, _, a, b, _⟩ <;> rw [a, b] <;> rfl
  rw [e]
  split
  · rename_i hh
    clear e hh
    induction r with
    | nil => exact .nil
    | @cons k2 v2 d2 r t q2 _ ih =>
      simp only [List.map_cons]
      by_cases e : k2 = k
      · rw [if_pos e, if_pos e]; exact .cons q ih
      · rw [if_neg e, if_neg e]; exact .cons q2 ih
  · exact r.append (.cons q .nil)
end
def mergeD (kvs more : List (Key × D)) : List (Key × D) := more.foldl (fun acc kv => putD acc kv.1 kv.2) kvs
theorem RpK.merge {K : PySem.W.Frag} {H : Hp} {more : List (Key × V)} {mo : List (Key × D)} (q : RpK K H more mo) : ∀ {kv : List (Key × V)} {ds : List (Key × D)}, RpK K H kv ds → RpK K H (mergeK kv more) (mergeD ds mo) := by
  induction q with
  | nil => exact fun r => r
  | cons q _ ih => exact fun r => ih (r.put _ q)
theorem Rp.dctK {K : PySem.W.Frag} {H : Hp} {a : Addr} {kv : List (Key × V)} {ds : List (Key × D)} (h : H a = some (.dK kv)) (r : RpK K H kv ds) : Rp K H (.ref a) (.dct ds) := .dct h r.keys r.vals
section
variable {X : Cx} {W : WX} {a b c : Expr} {ra rb rc : DE} {pos p : Pos}
/-! ### {k: v, ..} -/
def rPairs : List (DE × DE) → DSt → Mu → (List (Key × D) → Mu → Prop) → DX → Prop
  | [], _, m, P, _ => P [] m
  | (ra, rb) :: r, δ, m, P, PX => ra δ m (fun x m1 => rb δ m1 (fun y m2 => match keyD x with
    | some k => rPairs r δ m2 (fun ps m3 => P ((k, y) :: ps) m3) PX
    | none => False) PX) PX
def lPair (K : PySem.W.Frag) (W : WX) (p : DE × DE) : TE × TE := (lE K W p.1, lE K W p.2)
theorem pairs_up {K : PySem.W.Frag} {F : Hp} {δ : DSt} {σ : St} {PX : DX} : ∀ (rs : List (DE × DE)) {H0 H : Hp} {m : Mu} {P : List (Key × D) → Mu → Prop} {Q : List (V × V) → Hp → Prop}, Ok K F H0 m H → RpS K H0 σ δ → rPairs rs δ m P PX →
    (∀ kvs H' H0' m' ds, Same H0 H0' → Ok K F H0' m' H' → RpK K H0' kvs ds → P ds m' → Q (kvs.map fun kv => (kV kv.1, kv.2)) H') → GX K F H0 PX (fun c xd H' => W c xd σ H') → tPairs (rs.map (lPair K W)) σ H Q
  | [], H0, H, m, P, Q, ok, rs, h, g, gx => g [] H H0 m [] (Same.refl _) ok .nil h
  | (ra, rb) :: r, H0, H, m, P, Q, ok, rs, h, g, gx => by
    refine ⟨F, H0, m, δ, _, PX, ok, rs, h, fun x H1 H01 m1 d1 s1 ok1 r1 h1 => ⟨F, H01, m1, δ, _, PX, ok1, rs.mono s1, h1, fun y H2 H02 m2 d2 s2 ok2 r2 h2 => ?_, gx.mono s1⟩, gx⟩
    dsimp only at h2
    split at h2
    · rename_i k e
      have ek := keyD_rp (r1.mono s2) e
      subst ek
      refine pairs_up r ok2 (rs.mono (s1.trans s2)) h2 (fun kvs H' H0' m' ds s3 ok3 rk h3 => ?_) (gx.mono (s1.trans s2))
      exact g ((k, y) :: kvs) H' H0' m' _ ((s1.trans s2).trans s3) ok3 (.cons (r2.mono s3) rk) h3
    · exact h2.elim
def rDctN (rs : List (DE × DE)) : DE := fun δ m P PX => rPairs rs δ m (fun ps m1 => ps.length ≤ 15 ∧ P (.dct (mergeD [] ps)) m1) PX
theorem dps_nil : PPs X pos [] [] ([].map (lPair X.K W)) := pps_nil
theorem dps_cons {k v : Expr} {ks : List (Option Expr)} {vs : List Expr} {rs : List (DE × DE)} (ha : PE X k (lE X.K W ra)) (hb : PE X v (lE X.K W rb)) (hr : PPs X pos ks vs (rs.map (lPair X.K W))) : PPs X pos (some k :: ks) (v :: vs) (((ra, rb) :: rs).map (lPair X.K W)) := pps_cons ha hb hr
theorem pd_dctN {keys : List (Option Expr)} {values : List Expr} {rs : List (DE × DE)} (h : PPs X pos keys values (rs.map (lPair X.K W))) (hall : keys.all (·.isSome) = true := by rfl) (hl : keys.length = values.length := by rfl) (h0 : keys ≠ [] := by intro z; cases z) (h15 : keys.length ≤ 15 := by decide) :
    PE X (.Dict keys values pos) (lE X.K W (rDctN rs)) := by
  refine PE.imp (pe_disp h hall hl h0 h15) fun σ H Q h => ?_
  obtain ⟨F, H0, m, δ, P, PX, ok, rs, h, g, gx⟩ := h
  intro q hq
  have hF : F q = none := ok.freeF hq
  have okq : Ok X.K (upd F q (.dK [])) H0 m (upd H q (.dK [])) := ok.addF hq
  refine pairs_up _ okq rs h (fun kvs H' H0' m' ds s1 ok1 rk h1 => ?_) fun c xd H' H0' m' fs s' ok' x z => gx c xd H' H0' m' fs s' (ok'.unframe hF).1 x z
  obtain ⟨z1, z2, z3⟩ := ok1.fr q _ upd_same
  refine ⟨z1, kvs, rfl, by rw [rk.length]; exact h1.1, ?_⟩
  obtain ⟨ok3, w1, w2, w3⟩ := (ok1.reF (o' := .dK (mergeK [] kvs))).unframe hF
  exact g _ _ _ _ _ (s1.trans (same_new w2)) (ok3.promote w1 w2 w3 hF) (.dctK upd_same ((rk.merge .nil).mono (same_new w2))) h1.2
/-! ### d[k] -/
def asDc (m : Mu) : D → Option (List (Key × D))
  | .dct kvs => some kvs
  | .adr q => match m q with | some (.dct kvs) => some kvs | _ => none
  | _ => none
theorem asDc_rp {K : PySem.W.Frag} {F H0 H : Hp} {m : Mu} {v : V} {d : D} {ds : List (Key × D)} (ok : Ok K F H0 m H) (r : Rp K H0 v d) (h : asDc m d = some ds) : ∃ q kv, v = .ref q ∧ H q = some (.dK kv) ∧ RpK K H0 kv ds := by
  cases d with
  | dct kvs =>
    cases h
    cases r with
    | dct e1 e2 e3 => exact ⟨_, _, rfl, ok.same _ _ e1, rpK_of e2 e3⟩
  | adr q =>
    cases r
    change (match m q with | some (.dct kvs) => some kvs | _ => none) = some ds at h
    cases e : m q with
    | none => rw [e] at h; cases h
    | some o =>
      rw [e] at h
      cases o with
      | dct kvs =>
        cases h
        obtain ⟨_, kv, e1, e2, e3⟩ := ok.cell q _ e
        exact ⟨q, kv, rfl, e1, rpK_of e2 e3⟩
      | _ => cases h
  | _ => cases h
def oDGet : DO := fun x y m P => match asDc m x, keyD y with
  | some kvs, some k => match valD kvs k with | some d => P d m | none => False
  | _, _ => False
theorem pd_dget (hu : X.A.units + 1 < cLine) (ha : PE X a (lE X.K W ra)) (hb : PE X b (lE X.K W rb)) (hs : NoSl b := by intro _ _; rfl) : PE X (.Subscript a b pos) (lE X.K W (rOp oDGet ra rb)) := by
  refine PE.imp (pe_dget hu ha hb hs) fun σ H Q h => ?_
  obtain ⟨F, H0, m, δ, P, PX, ok, rs, h, g, gx⟩ := h
  refine ⟨F, H0, m, δ, _, PX, ok, rs, h, fun x H1 H01 m1 d1 s1 ok1 r1 h1 => ⟨F, H01, m1, δ, _, PX, ok1, rs.mono s1, h1, fun y H2 H02 m2 d2 s2 ok2 r2 h2 => ?_, gx.mono s1⟩, gx⟩
  unfold oDGet at h2
  dsimp only at h2
  split at h2
  · rename_i kvs k e1 e2
    obtain ⟨q, kv, rfl, e3, rk⟩ := asDc_rp ok2 (r1.mono s2) e1
    have ek := keyD_rp r2 e2
    subst ek
    rcases rk.val k with ⟨_, z⟩ | ⟨v, d, z1, z2, z3⟩
    · rw [z] at h2; exact h2.elim
    · rw [z2] at h2
      exact ⟨q, v, rfl, z1 ▸ DGet.k e3, g _ _ _ _ _ (s1.trans s2) ok2 z3 h2⟩
  · exact h2.elim
/-! ### while -/
def sWhile (rt : DT) (rb : DS) : DS := fun DD δ m => ∃ I : Nat → DSt → Mu → Prop, (∃ n, I n δ m) ∧ ∀ n δ m, I n δ m → rt δ m (fun b m1 => match b with
  | true => rb { DD with nx := fun δ' m' => ∃ n', n' < n ∧ I n' δ' m', ct := fun δ' m' => ∃ n', n' < n ∧ I n' δ' m', bk := DD.nx } δ m1
  | false => DD.nx δ m1) fun c fs m1 => DD.xx c fs δ m1
theorem ds_while {body : List Stmt} {rt : DT} {rb : DS} (hp : PassesOwn (model X.prog X.w) X.A X.env X.xe) (hc : PT X c (lT X.K W rt)) (hb : PSs X body (lS X.K W rb)) : PS X (.While c body [] pos) (lS X.K W (sWhile rt rb)) := by
  refine PS.imp (ps_while hp hc hb) fun Dn σ H h => ?_
  obtain ⟨F, H0, m, δ, DD, ok, rs, ⟨I, ⟨n, h0⟩, hI⟩, gd⟩ := h
  refine ⟨fun n σ' H' => ∃ H0' m' δ', Same H0 H0' ∧ Ok X.K F H0' m' H' ∧ RpS X.K H0' σ' δ' ∧ I n δ' m', ⟨n, H0, m, δ, Same.refl _, ok, rs, h0⟩, ?_⟩
  rintro k σ1 H1 ⟨H01, m1, δ1, s1, ok1, rs1, i1⟩
  have gd1 := gd.mono s1
  refine ⟨F, H01, m1, δ1, _, _, ok1, rs1, hI k δ1 m1 i1, fun b H2 H02 m2 s2 ok2 h2 => ?_, gd1.xx.at_ rs1⟩
  have gd2 := gd1.mono s2
  cases b with
  | true =>
    dsimp only
    rw [if_pos rfl]
    refine ⟨fun σ' H' => ∃ n', n' < k ∧ ∃ H0' m' δ', Same H0 H0' ∧ Ok X.K F H0' m' H' ∧ RpS X.K H0' σ' δ' ∧ I n' δ' m', fun σ' H' z => z, F, H02, m2, δ1, _, ok2, rs1.mono s2, h2, ?_⟩
    have again : GS X.K F H02 (fun δ' m' => ∃ n', n' < k ∧ I n' δ' m') fun σ' H' => ∃ n', n' < k ∧ ∃ H0' m' δ', Same H0 H0' ∧ Ok X.K F H0' m' H' ∧ RpS X.K H0' σ' δ' ∧ I n' δ' m' := fun σ3 H3 H03 m3 δ3 s3 ok3 rs3 ⟨n', l, z⟩ => ⟨n', l, H03, m3, δ3, (s1.trans s2).trans s3, ok3, rs3, z⟩
    exact ⟨again, gd2.rt, gd2.nx, again, gd2.xx⟩
  | false =>
    dsimp only
    rw [if_neg Bool.false_ne_true]
    exact gd2.nx _ _ _ _ _ (Same.refl _) ok2 (rs1.mono s2) h2
/-- by a word and a measure -/
theorem while_inv {rt : DT} {rb : DS} {DD : DEnds} {δ : DSt} {m : Mu} (I : Nat → DSt → Mu → Prop) (n : Nat) (h0 : I n δ m) (h : ∀ n δ m, I n δ m → rt δ m (fun b m1 => match b with
  | true => rb { DD with nx := fun δ' m' => ∃ n', n' < n ∧ I n' δ' m', ct := fun δ' m' => ∃ n', n' < n ∧ I n' δ' m', bk := DD.nx } δ m1
  | false => DD.nx δ m1) fun c fs m1 => DD.xx c fs δ m1) : sWhile rt rb DD δ m := ⟨I, ⟨n, h0⟩, h⟩
end
/-! ### a def that calls itself: at depth 0 nothing is promised -/
def spNo : SpD := fun _ _ _ _ => False
theorem def_no {P : Program} {w : World} {K : PySem.W.Frag} {mg : Str → Option Value} {base : Heap} {x qual : Str} {st : Stmt} {ps : List Str} {sp : SpD} (k : Nat) (G : FunAt K mg x qual st) (h : ∀ ds m Q PX, ¬ sp ds m Q PX) : DefOk P w K mg base k x qual st ps sp := by
  obtain ⟨f, fd, e, G⟩ := G
  exact ⟨f, fd, e, G, fun vs H Q E ⟨_, _, _, _, _, _, _, _, z, _⟩ => (h _ _ _ _ z).elim, fun A outer s H args us vs Q E _ _ _ _ ⟨_, _, _, _, _, _, _, _, z, _⟩ => (h _ _ _ _ z).elim⟩
end DL
namespace DL
open PySem L2
theorem units1 {k : Nat} {A : Around} (r : Room k A) : A.units + 1 < cLine := by have := r.un; omega
end DL

namespace DL
open PySem L2
/-! ### == of data without truths -/
mutual
def pur : D → Bool
  | .non => true
  | .int _ => true
  | .str _ => true
  | .lst ds => purL ds
  | .tup ds => purL ds
  | .bl _ => false
  | .ty _ => false
  | .adr _ => false
  | .dct _ => false
  | .ins _ _ => false
def purL : List D → Bool
  | [] => true
  | d :: ds => pur d && purL ds
end
mutual
theorem eqv_iff : ∀ (d e : D), pur d = true → pur e = true → (PyData.eqv (py d) (py e) = true ↔ d = e)
  | .non, e, h1, h2 => by cases e <;> simp [pur, py, PyData.eqv] at h2 ⊢
  | .int i, e, h1, h2 => by cases e <;> simp [pur, py, PyData.eqv] at h2 ⊢
  | .str i, e, h1, h2 => by cases e <;> simp [pur, py, PyData.eqv] at h2 ⊢
  | .lst ds, e, h1, h2 => by
    rw [pur] at h1
    cases e with
    | lst es => rw [pur] at h2; rw [py, py, PyData.eqv, eqvL_iff ds es h1 h2]; simp
    | _ => simp [pur, py, PyData.eqv] at h2 ⊢
  | .tup ds, e, h1, h2 => by
    rw [pur] at h1
    cases e with
    | tup es => rw [pur] at h2; rw [py, py, PyData.eqv, eqvL_iff ds es h1 h2]; simp
    | _ => simp [pur, py, PyData.eqv] at h2 ⊢
  | .bl _, _, h1, _ => by rw [pur] at h1; cases h1
  | .ty _, _, h1, _ => by rw [pur] at h1; cases h1
  | .adr _, _, h1, _ => by rw [pur] at h1; cases h1
  | .dct _, _, h1, _ => by rw [pur] at h1; cases h1
  | .ins _ _, _, h1, _ => by rw [pur] at h1; cases h1
theorem eqvL_iff : ∀ (ds es : List D), purL ds = true → purL es = true → (PyData.eqvAll (pyL ds) (pyL es) = true ↔ ds = es)
  | [], [], _, _ => by rw [pyL, PyData.eqvAll]; simp
  | [], _ :: _, _, _ => by rw [pyL, pyL, PyData.eqvAll]; simp
  | _ :: _, [], _, _ => by rw [pyL, pyL, PyData.eqvAll]; simp
  | d :: ds, e :: es, h1, h2 => by
    rw [purL, Bool.and_eq_true] at h1 h2
    rw [pyL, pyL, PyData.eqvAll, Bool.and_eq_true, eqv_iff d e h1.1 h2.1, eqvL_iff ds es h1.2 h2.2]
    simp
end
theorem deq_iff {d e : D} (h1 : pur d = true) (h2 : pur e = true) : deq d e = true ↔ d = e := eqv_iff d e h1 h2
theorem purL_all {ds : List D} (h : ∀ d ∈ ds, pur d = true) : purL ds = true := by
  induction ds with
  | nil => rw [purL]
  | cons d ds ih => rw [purL, h d List.mem_cons_self, ih fun e he => h e (List.mem_cons_of_mem _ he)]; rfl
/-! ### data that == may look at -/
def fitD : Nat → D → Prop
  | _, .non => True
  | _, .bl _ => True
  | _, .int _ => True
  | _, .str x => ∀ c ∈ x.cps.toList, c < 1114112
  | n + 1, .lst ds => ∀ d ∈ ds, fitD n d
  | n + 1, .tup ds => ∀ d ∈ ds, fitD n d
  | _, _ => False
theorem fit_lay : ∀ (n : Nat) (d : D), fitD n d → PyData.canLay0 (py d) = true ∧ PyData.depth (py d) ≤ n + 1 := by
  have str : ∀ (n : Nat) (x : Str), (∀ c ∈ x.cps.toList, c < 1114112) → PyData.canLay0 (py (.str x)) = true ∧ PyData.depth (py (.str x)) ≤ n + 1 := fun n x h => by
    rw [py, PyData.canLay0, PyData.depth, PyData.strOk]
    refine ⟨?_, Nat.zero_le _⟩
    rw [← Array.all_toList, List.all_eq_true]
    intro c hc
    exact decide_eq_true (h c hc)
  intro n
  induction n with
  | zero =>
    intro d h
    cases d with
    | str x => exact str 0 x h
    | lst ds => exact h.elim
    | tup ds => exact h.elim
    | non => rw [py, PyData.canLay0, PyData.depth]; exact ⟨rfl, Nat.zero_le _⟩
    | bl b => rw [py, PyData.canLay0, PyData.depth]; exact ⟨rfl, Nat.zero_le _⟩
    | int i => rw [py, PyData.canLay0, PyData.depth]; exact ⟨rfl, Nat.zero_le _⟩
    | _ => exact h.elim
  | succ n ih =>
    have all : ∀ ds : List D, (∀ d ∈ ds, fitD n d) → PyData.canLayAll0 (pyL ds) = true ∧ PyData.depthAll (pyL ds) ≤ n + 1 := fun ds => by
      induction ds with
      | nil => intro _; rw [pyL, PyData.canLayAll0, PyData.depthAll]; exact ⟨rfl, Nat.zero_le _⟩
      | cons d ds ih2 =>
        intro h
        obtain ⟨a1, a2⟩ := ih d (h d List.mem_cons_self)
        obtain ⟨b1, b2⟩ := ih2 fun e he => h e (List.mem_cons_of_mem _ he)
        rw [pyL, PyData.canLayAll0, PyData.depthAll, a1, b1]
        exact ⟨rfl, Nat.max_le.mpr ⟨a2, b2⟩⟩
    intro d h
    cases d with
    | str x => exact str (n + 1) x h
    | lst ds =>
      obtain ⟨a1, a2⟩ := all ds h
      rw [py, PyData.canLay0, PyData.depth]
      exact ⟨a1, by omega⟩
    | tup ds =>
      obtain ⟨a1, a2⟩ := all ds h
      rw [py, PyData.canLay0, PyData.depth]
      exact ⟨a1, by omega⟩
    | non => rw [py, PyData.canLay0, PyData.depth]; exact ⟨rfl, Nat.zero_le _⟩
    | bl b => rw [py, PyData.canLay0, PyData.depth]; exact ⟨rfl, Nat.zero_le _⟩
    | int i => rw [py, PyData.canLay0, PyData.depth]; exact ⟨rfl, Nat.zero_le _⟩
    | _ => exact h.elim
theorem shp_of {n : Nat} {d : D} (h : fitD n d) (hn : n ≤ 60 := by decide) : shp d := by
  obtain ⟨a, b⟩ := fit_lay n d h
  unfold shp SeqAt.shaped
  rw [a]
  simp
  omega
theorem valD_put {κ : Type} [DecidableEq κ] (kvs : List (κ × D)) (k j : κ) (d : D) : valD (putD kvs k d) j = if j = k then some d else valD kvs j := by
  unfold putD
  split
  · rename_i h
    induction kvs with
    | nil => rw [valD_nil] at h; cases h
    | cons p r ih =>
      simp only [List.map_cons]
      by_cases e : p.1 = k
      · rw [if_pos e]
        by_cases ej : j = k
        · rw [if_pos ej]; exact valD_pos (p := (p.1, d)) (e.trans ej.symm)
        · rw [if_neg ej, valD_neg (by intro z; exact ej (z.symm.trans e)), valD_neg (by intro z; exact ej (z.symm.trans e))]
          clear ih h
          induction r with
          | nil => rfl
          | cons p2 r2 ih2 =>
            simp only [List.map_cons]
            by_cases e2 : p2.1 = k
            · rw [if_pos e2, valD_neg (by intro z; exact ej (z.symm.trans e2)), valD_neg (by intro z; exact ej (z.symm.trans e2))]; exact ih2
            · rw [if_neg e2]
              by_cases e3 : p2.1 = j
              · rw [valD_pos e3, valD_pos e3]
              · rw [valD_neg e3, valD_neg e3]; exact ih2
      · rw [if_neg e]
        rw [valD_neg e] at h
        by_cases e3 : p.1 = j
        · rw [valD_pos e3, valD_pos e3, if_neg (fun z => e (e3.trans z))]
        · rw [valD_neg e3, valD_neg e3]; exact ih h
  · rename_i h
    have h : valD kvs k = none := by cases z : valD kvs k with
      | none => rfl
      | some d => rw [z] at h; exact absurd rfl h
    induction kvs with
    | nil =>
      by_cases ej : j = k
      · rw [if_pos ej]; exact valD_pos ej.symm
      · rw [if_neg ej]; exact valD_neg (fun z => ej z.symm)
    | cons p r ih =>
      have e : ¬ p.1 = k := fun z => by rw [valD_pos z] at h; cases h
      rw [valD_neg e] at h
      by_cases e3 : p.1 = j
      · rw [List.cons_append, valD_pos e3, valD_pos e3, if_neg (fun z => e (e3.trans z))]
      · rw [List.cons_append, valD_neg e3, valD_neg e3]; exact ih (by rename_i q _; rw [h]; simp) h
/-! ### texts -/
theorem cps_app (x y : Str) : (x ++ y).cps.toList = x.cps.toList ++ y.cps.toList := PyProof.Rows.cps_toList_append x y
theorem str_ext {x y : Str} (h : x.cps.toList = y.cps.toList) : x = y := by
  cases x; cases y
  congr
  exact Array.toList_inj.mp h
/-- parted by a sign that is in neither -/
theorem sep_inj {c : Nat} : ∀ {x y r s : List Nat}, c ∉ x → c ∉ y → x ++ c :: r = y ++ c :: s → x = y ∧ r = s
  | [], [], r, s, _, _, h => by simp at h; exact ⟨rfl, h⟩
  | [], b :: y, r, s, _, hy, h => by simp at h; exact absurd h.1 (fun z => hy (by rw [z]; simp))
  | a :: x, [], r, s, hx, _, h => by simp at h; exact absurd h.1 (fun z => hx (by rw [z]; simp))
  | a :: x, b :: y, r, s, hx, hy, h => by
    simp at h
    obtain ⟨e1, e2⟩ := sep_inj (fun z => hx (by simp [z])) (fun z => hy (by simp [z])) h.2
    exact ⟨by rw [h.1, e1], e2⟩
theorem sep_no {c : Nat} {x y s : List Nat} (hx : c ∉ x) : x ≠ y ++ c :: s := fun h => hx (by rw [h]; simp)
/-! ### a number's text -/
abbrev dig (n : Int) : Str := (toString n : String)
theorem dig_free {k : Nat} (n : Int) (hk : k ≠ 45 ∧ (k < 48 ∨ 57 < k) := by decide) : k ∉ (dig n).cps.toList := PyProof.Rows.int_text_free' k hk n
theorem dig_nat (m : Nat) : (dig (m : Nat)).cps.toList = (Nat.toDigits 10 m).map Char.toNat := PySem.W.KIN.signs_num m
theorem dig_neg (m : Nat) : (dig (-((m + 1 : Nat) : Int))).cps.toList = 45 :: (dig ((m + 1 : Nat) : Int)).cps.toList := by
  show (Str.ofString (toString (Int.negSucc m))).cps.toList = _
  rw [PyProof.Rows.signs_ofString]
  show ("-" ++ Nat.repr (m + 1)).toList.map Char.toNat = _
  rw [String.toList_append, List.map_append]
  show [45] ++ (Nat.repr (m + 1)).toList.map Char.toNat = _
  rw [← PyProof.Rows.signs_ofString]
  rfl
theorem dig_nat_free (m : Nat) : (45 : Nat) ∉ (dig (m : Nat)).cps.toList := by
  rw [dig_nat]
  intro h
  obtain ⟨ch, hch, e⟩ := List.mem_map.mp h
  have r := PyProof.Rows.digit_range (Nat.isDigit_of_mem_toDigits (by decide) (by decide) hch)
  omega
theorem dig_ne (n : Int) : (dig n).cps.toList ≠ [] := by
  cases n with
  | ofNat m =>
    show (dig ((m : Nat) : Int)).cps.toList ≠ []
    rw [dig_nat]
    intro e
    have h := PySem.toDigits_len_ge 10 m
    rw [List.map_eq_nil_iff.mp e] at h
    exact absurd h (by decide)
  | negSucc m =>
    show (dig (-((m + 1 : Nat) : Int))).cps.toList ≠ []
    rw [dig_neg]
    simp
theorem dig_inj {a b : Int} (h : (dig a).cps.toList = (dig b).cps.toList) : a = b := by
  have nat : ∀ m k : Nat, (dig (m : Nat)).cps.toList = (dig (k : Nat)).cps.toList → m = k := fun m k h => by
    rw [dig_nat, dig_nat] at h
    have := congrArg PySem.NumText.digitsVal h
    rw [PySem.W.KIN.val_back, PySem.W.KIN.val_back] at this
    exact this
  cases a with
  | ofNat m =>
    cases b with
    | ofNat k => rw [nat m k h]
    | negSucc k =>
      change (dig ((m : Nat) : Int)).cps.toList = (dig (-((k + 1 : Nat) : Int))).cps.toList at h
      rw [dig_neg] at h
      exact absurd (by rw [h]; simp) (dig_nat_free m)
  | negSucc m =>
    cases b with
    | ofNat k =>
      change (dig (-((m + 1 : Nat) : Int))).cps.toList = (dig ((k : Nat) : Int)).cps.toList at h
      rw [dig_neg] at h
      exact absurd (by rw [← h]; simp) (dig_nat_free k)
    | negSucc k =>
      change (dig (-((m + 1 : Nat) : Int))).cps.toList = (dig (-((k + 1 : Nat) : Int))).cps.toList at h
      rw [dig_neg, dig_neg] at h
      have := nat _ _ (List.cons.inj h).2
      have : m = k := by omega
      rw [this]
theorem dig_step (m : Nat) (h : 9 < m) : (dig (m : Nat)).cps.toList = (dig ((m / 10 : Nat) : Int)).cps.toList ++ (dig ((m % 10 : Nat) : Int)).cps.toList := by
  rw [dig_nat, dig_nat, dig_nat, ← List.map_append]
  have hm : m % 10 < 10 := Nat.mod_lt m (by decide)
  have t : Nat.toDigits 10 (m / 10) ++ Nat.toDigits 10 (m % 10) = Nat.toDigits 10 (10 * (m / 10) + m % 10) := Nat.toDigits_append_toDigits (by decide) (by omega) hm
  rw [Nat.div_add_mod] at t
  rw [t]
theorem dig_len {n : Int} (h : n.natAbs < 2 ^ 200) : (dig n).length ≤ 201 := PySem.int_text_length_le (k := 200) (by decide) (PySem.Flt.log2_lt_of (by decide) h) |> fun h => by
  have e : (dig n).length = (toString n).length := by
    show (Str.ofString (toString n)).cps.size = _
    rw [← Array.length_toList, PyProof.Rows.signs_ofString, List.length_map]
    rfl
  rw [e]; exact h
/-! ### what stays: all but ws -/
def Kp (ws : List Addr) (m m' : Mu) : Prop := ∀ a o, a ∉ ws → m a = some o → m' a = some o
theorem Kp.refl (ws : List Addr) (m : Mu) : Kp ws m m := fun _ _ _ h => h
theorem Kp.trans {ws : List Addr} {m m1 m2 : Mu} (a : Kp ws m m1) (b : Kp ws m1 m2) : Kp ws m m2 := fun x o h e => b x o h (a x o h e)
theorem Kp.more {ws vs : List Addr} {m m' : Mu} (a : Kp ws m m') (h : ∀ x ∈ ws, x ∈ vs) : Kp vs m m' := fun x o hx e => a x o (fun z => hx (h x z)) e
theorem Only1.kp {w : Addr} {m m' : Mu} (h : Only1 w m m') : Kp [w] m m' := fun a o ha e => by rw [h a (by simpa using ha)]; exact e
theorem kp_new {ws : List Addr} {m : Mu} {q : Addr} {o : MO} (h : m q = none) : Kp ws m (mset m q o) := fun a u _ e => by
  rw [mset_ne (fun z => by rw [z, h] at e; cases e)]; exact e
theorem kp_set {ws : List Addr} {m : Mu} {q : Addr} {o : MO} (h : q ∈ ws) : Kp ws m (mset m q o) := fun a u ha e => by
  rw [mset_ne (fun z => ha (by rw [z]; exact h))]; exact e
/-- drawn from the well w in at most n turns -/
def Dr (w : Addr) (n : Nat) (R : D → Prop) (m : Mu) (P : DK) : Prop := ∃ k, Wl m w k ∧ k + n ≤ 1000000000 ∧ ∀ d m', R d → Kp [w] m m' → Wl m' w (k + n) → P d m'
theorem Wl.keep {m m' : Mu} {w : Addr} {k : Nat} {ws : List Addr} (h : Wl m w k) (kp : Kp ws m m') (hw : w ∉ ws) : Wl m' w k := by
  obtain ⟨a, b, c, e, r⟩ := h.ex
  exact ⟨a, b, c, kp w _ hw e, r⟩
def spDrawK : SpD := fun ds m P _ => ∃ (w : Addr) (many : Int), ds = [.adr w, .int many] ∧ 0 < many ∧ many.natAbs < 2 ^ 200 ∧ Dr w 1 (fun d => ∃ r : Int, 0 ≤ r ∧ r < many ∧ d = .int r) m P
theorem drawK_draw {ds : List D} {m : Mu} {P : DK} {PX : DX} (h : spDrawK ds m P PX) : spDraw ds m P PX := by
  obtain ⟨w, many, rfl, h0, h1, k, wl, hk, h⟩ := h
  exact ⟨w, many, k, rfl, wl, by omega, h0, h1, fun r m' r0 r1 o w1 => h _ m' ⟨r, r0, r1, rfl⟩ o.kp w1⟩
def spWellK : SpD := fun ds m P _ => ∃ c : Int, ds = [.int c] ∧ ∀ w m', m w = none → Kp [] m m' → Wl m' w 0 → P (.adr w) m'
theorem wellK_well {ds : List D} {m : Mu} {P : DK} {PX : DX} (h : spWellK ds m P PX) : spWell ds m P PX := by
  obtain ⟨c, rfl, h⟩ := h
  refine ⟨c, rfl, fun w m' hw o w1 => h w m' hw (fun a q _ e => ?_) w1⟩
  rw [o a (fun z => by rw [z, hw] at e; cases e)]
  exact e
end DL

namespace DL
open PySem L2
local macro_rules | `(tactic| walk_at "dl") => `(tactic| ((conv => whnf); try dsimp only))
/-! ### looks -/
inductive Lk where
  | any | is (n : Int) | frm (n : Int) | upto (n : Int) | inn (a b : Int) | one (ns : List Int) | but (l : Lk)
def Lk.d : Lk → D
  | .any => .tup [.str "any"]
  | .is n => .tup [.str "is", .int n]
  | .frm n => .tup [.str "from", .int n]
  | .upto n => .tup [.str "to", .int n]
  | .inn a b => .tup [.str "in", .int a, .int b]
  | .one ns => .tup [.str "one", .tup (ns.map .int)]
  | .but l => .tup [.str "but", l.d]
def Lk.dep : Lk → Nat
  | .but l => l.dep + 1
  | _ => 1
def Lk.nums : Lk → List Int
  | .any => []
  | .is n => [n]
  | .frm n => [n]
  | .upto n => [n]
  | .inn a b => [a, b]
  | .one ns => ns
  | .but l => l.nums
def Lk.few : Lk → Prop
  | .one ns => ns.length ≤ 4
  | .but l => l.few
  | _ => True
/-- numbers of a fit size -/
def Nm (n : Int) : Prop := n.natAbs < 2 ^ 1900
structure Lk.Ok (l : Lk) : Prop where
  nm : ∀ n ∈ l.nums, Nm n
  few : l.few
  dp : l.dep ≤ 2
theorem Lk.Ok.but {l : Lk} (ok : (Lk.but l).Ok) : l.Ok := ⟨ok.nm, ok.few, Nat.le_trans (Nat.le_succ _) ok.dp⟩
def Lk.text : Lk → Str
  | .any => "*"
  | .is n => dig n
  | .frm n => dig n ++ (".." : Str)
  | .upto n => (".." : Str) ++ dig n
  | .inn a b => dig a ++ (".." : Str) ++ dig b
  | .one ns => ("{" : Str) ++ Txt.join "," (ns.map dig) ++ ("}" : Str)
  | .but l => ("!" : Str) ++ l.text
theorem Nm.log {n : Int} (h : Nm n) : n.natAbs.log2 < 1920 := Nat.lt_of_lt_of_le (PySem.Flt.log2_lt_of (by decide : 0 < 1900) h) (by decide)
theorem Nm.len {n : Int} (h : Nm n) : (dig n).length ≤ 1901 := PySem.int_text_length_le (k := 1900) (by decide) (PySem.Flt.log2_lt_of (by decide) h) |> fun h => by
  have e : (dig n).length = (toString n).length := by
    show (Str.ofString (toString n)).cps.size = _
    rw [← Array.length_toList, PyProof.Rows.signs_ofString, List.length_map]
    rfl
  rw [e]; exact h
def sp_look_text : Nat → SpD
  | 0 => spNo
  | k + 1 => fun ds m P _ => ∃ l : Lk, ds = [l.d] ∧ l.dep ≤ k + 1 ∧ l.Ok ∧ P (.str l.text) m
def rd_look_text (self : SpD) : DS :=
    sSeq (sStar 3 4 (rV 0))
    (sSeq (sIf (rTst (rOp oEq (rV 3) (rC (.str "but")))) (sRet (rOp oAdd (rC (.str "!")) (rCall self [] (rCons (rOp oIx (rV 4) (rC (.int 0))) (rNil))))) (sNext))
    (sSeq (sIf (rTst (rOp oEq (rV 3) (rC (.str "any")))) (sRet (rC (.str "*"))) (sNext))
    (sSeq (sIf (rTst (rOp oEq (rV 3) (rC (.str "one")))) (sRet (rOp oAdd (rOp oAdd (rC (.str "{")) (rJoin (rC (.str ",")) (rLc (iAny (rOp oIx (rV 4) (rC (.int 0)))) [5] (gN 5) (qYes) (rCB cStr (rCons (rV 5) (rNil)))))) (rC (.str "}")))) (sNext))
    (sSeq (sSet 1 (rCB cStr (rCons (rOp oIx (rV 4) (rC (.int 0))) (rNil))))
    (sSeq (sSet 2 (rDctN [(rC (.str "is"), rV 1), (rC (.str "from"), rOp oAdd (rV 1) (rC (.str ".."))), (rC (.str "to"), rOp oAdd (rC (.str "..")) (rV 1)), (rC (.str "in"), rOp oAdd (rOp oAdd (rV 1) (rC (.str ".."))) (rCB cStr (rCons (rOp oIx (rV 4) (rNeg (rC (.int 1)))) (rNil))))]))
    (sRet (rOp oDGet (rV 2) (rV 3))))))))
theorem ln_look_text : ∀ kk ds m Q PX, sp_look_text kk ds m Q PX → ds.length = 1
  | 0, _, _, _, _, h => h.elim
  | _ + 1, _, _, _, _, ⟨_, e, _⟩ => by rw [e]; rfl
theorem val4a (a b c d : D) : valD (mergeD [] [((.inr "is" : Key), a), (.inr "from", b), (.inr "to", c), (.inr "in", d)]) (.inr "is") = some a := by
  simp only [mergeD, List.foldl]
  rw [valD_put, if_neg (by decide), valD_put, if_neg (by decide), valD_put, if_neg (by decide), valD_put, if_pos rfl]
theorem val4b (a b c d : D) : valD (mergeD [] [((.inr "is" : Key), a), (.inr "from", b), (.inr "to", c), (.inr "in", d)]) (.inr "from") = some b := by
  simp only [mergeD, List.foldl]
  rw [valD_put, if_neg (by decide), valD_put, if_neg (by decide), valD_put, if_pos rfl]
theorem val4c (a b c d : D) : valD (mergeD [] [((.inr "is" : Key), a), (.inr "from", b), (.inr "to", c), (.inr "in", d)]) (.inr "to") = some c := by
  simp only [mergeD, List.foldl]
  rw [valD_put, if_neg (by decide), valD_put, if_pos rfl]
theorem val4d (a b c d : D) : valD (mergeD [] [((.inr "is" : Key), a), (.inr "from", b), (.inr "to", c), (.inr "in", d)]) (.inr "in") = some d := by
  simp only [mergeD, List.foldl]
  rw [valD_put, if_pos rfl]
theorem l_dots : Str.length ".." = 2 := by decide
theorem textsD_strs {α : Type} (f : α → Str) (l : List α) : textsD (l.map fun x => D.str (f x)) = some (l.map f) := by
  rw [← textsD_map, List.map_map]; rfl
theorem sum_len {l : List Str} {k : Nat} (h : ∀ x ∈ l, x.length ≤ k) : (l.map (·.length)).sum ≤ l.length * k := by
  induction l with
  | nil => simp
  | cons x l ih =>
    have h1 := h x List.mem_cons_self
    have h2 := ih fun y hy => h y (List.mem_cons_of_mem _ hy)
    simp only [List.map_cons, List.sum_cons, List.length_cons, Nat.add_mul]
    omega
theorem join_len (s : Str) : ∀ l : List Str, (Txt.join s l).length ≤ (l.map (·.length)).sum + l.length * s.length := by
  intro l
  rw [TL.join_eq]
  induction l with
  | nil => exact Nat.zero_le _
  | cons x l ih =>
    cases l with
    | nil => rw [PyProof.Rows.join_one]; simp
    | cons y r =>
      rw [PyProof.Rows.join_cons_cons, PySem.Str.length_append, PySem.Str.length_append]
      simp only [List.map_cons, List.sum_cons, List.length_cons, Nat.add_mul] at ih ⊢
      omega
theorem Lk.dig_sum {ns : List Int} (hn : ∀ n ∈ ns, Nm n) (hl : ns.length ≤ 4) : ((ns.map dig).map (·.length)).sum + (ns.map dig).length * Str.length "," ≤ 8000 := by
  have h1 : ((ns.map dig).map (·.length)).sum ≤ (ns.map dig).length * 1901 := sum_len fun x hx => by
    obtain ⟨n, hn', rfl⟩ := List.mem_map.mp hx
    exact (hn n hn').len
  rw [List.length_map] at h1 ⊢
  have e : Str.length "," = 1 := by decide
  rw [e]
  omega
theorem Lk.text_len : ∀ (l : Lk), l.Ok → l.text.length ≤ 10000 + l.dep
  | .any, _ => by show Str.length "*" ≤ _; have : Str.length "*" = 1 := by decide
                  omega
  | .is n, ok => by have := (ok.nm n (by simp [Lk.nums])).len; show (dig n).length ≤ _; omega
  | .frm n, ok => by have := (ok.nm n (by simp [Lk.nums])).len; show (dig n ++ (".." : Str)).length ≤ _; rw [PySem.Str.length_append, l_dots]; omega
  | .upto n, ok => by have := (ok.nm n (by simp [Lk.nums])).len; show ((".." : Str) ++ dig n).length ≤ _; rw [PySem.Str.length_append, l_dots]; omega
  | .inn a b, ok => by
    have h1 := (ok.nm a (by simp [Lk.nums])).len
    have h2 := (ok.nm b (by simp [Lk.nums])).len
    show (dig a ++ (".." : Str) ++ dig b).length ≤ _; rw [PySem.Str.length_append, PySem.Str.length_append, l_dots]; omega
  | .one ns, ok => by
    have h1 := Lk.dig_sum (ns := ns) (fun n hn => ok.nm n hn) ok.few
    have h2 := join_len "," (ns.map dig)
    have e1 : Str.length "{" = 1 := by decide
    have e2 : Str.length "}" = 1 := by decide
    show (("{" : Str) ++ Txt.join "," (ns.map dig) ++ ("}" : Str)).length ≤ _
    rw [PySem.Str.length_append, PySem.Str.length_append, e1, e2]
    omega
  | .but l, ok => by
    have ih := Lk.text_len l ok.but
    have e1 : Str.length "!" = 1 := by decide
    show (("!" : Str) ++ l.text).length ≤ _
    rw [PySem.Str.length_append, e1]
    show _ ≤ 10000 + (l.dep + 1)
    omega
theorem pu_look_text : ∀ kk ds m Q PX, sp_look_text (kk + 1) ds m Q PX → rd_look_text (sp_look_text kk) (dEnds Q PX) (dstart ["look", "first", "some", "word", "rest", "number"] ds) m := by
  rintro kk ds m Q PX ⟨l, rfl, hd, ok, h⟩
  have l2 := l_dots
  cases l with
  | any =>
    walk_at "dl"
    refine ⟨by decide, ?_⟩
    walk_at "dl"
    exact h
  | is n =>
    have hn : Nm n := ok.nm n (by simp [Lk.nums])
    have hl : (Str.ofString (toString n)).length ≤ 1901 := hn.len
    have hb : Nm n := ok.nm n (by simp [Lk.nums])
    have hlb : (Str.ofString (toString n)).length ≤ 1901 := hb.len
    walk_at "dl"
    refine ⟨by show 1 < _; decide, ?_⟩
    walk_at "dl"
    refine ⟨hn.log, ?_⟩
    walk_at "dl"
    refine ⟨len_line (by omega), ?_⟩
    walk_at "dl"
    refine ⟨len_line (by omega), ?_⟩
    walk_at "dl"
    refine ⟨len_line (by omega), ?_⟩
    walk_at "dl"
    refine ⟨hb.log, ?_⟩
    walk_at "dl"
    refine ⟨len_line (by rw [PySem.Str.length_append]; omega), ?_⟩
    walk_at "dl"
    refine ⟨by show 4 ≤ _; decide, ?_⟩
    walk_at "dl"
    rw [val4a]
    exact h
  | frm n =>
    have hn : Nm n := ok.nm n (by simp [Lk.nums])
    have hl : (Str.ofString (toString n)).length ≤ 1901 := hn.len
    have hb : Nm n := ok.nm n (by simp [Lk.nums])
    have hlb : (Str.ofString (toString n)).length ≤ 1901 := hb.len
    walk_at "dl"
    refine ⟨by show 1 < _; decide, ?_⟩
    walk_at "dl"
    refine ⟨hn.log, ?_⟩
    walk_at "dl"
    refine ⟨len_line (by omega), ?_⟩
    walk_at "dl"
    refine ⟨len_line (by omega), ?_⟩
    walk_at "dl"
    refine ⟨len_line (by omega), ?_⟩
    walk_at "dl"
    refine ⟨hb.log, ?_⟩
    walk_at "dl"
    refine ⟨len_line (by rw [PySem.Str.length_append]; omega), ?_⟩
    walk_at "dl"
    refine ⟨by show 4 ≤ _; decide, ?_⟩
    walk_at "dl"
    rw [val4b]
    exact h
  | upto n =>
    have hn : Nm n := ok.nm n (by simp [Lk.nums])
    have hl : (Str.ofString (toString n)).length ≤ 1901 := hn.len
    have hb : Nm n := ok.nm n (by simp [Lk.nums])
    have hlb : (Str.ofString (toString n)).length ≤ 1901 := hb.len
    walk_at "dl"
    refine ⟨by show 1 < _; decide, ?_⟩
    walk_at "dl"
    refine ⟨hn.log, ?_⟩
    walk_at "dl"
    refine ⟨len_line (by omega), ?_⟩
    walk_at "dl"
    refine ⟨len_line (by omega), ?_⟩
    walk_at "dl"
    refine ⟨len_line (by omega), ?_⟩
    walk_at "dl"
    refine ⟨hb.log, ?_⟩
    walk_at "dl"
    refine ⟨len_line (by rw [PySem.Str.length_append]; omega), ?_⟩
    walk_at "dl"
    refine ⟨by show 4 ≤ _; decide, ?_⟩
    walk_at "dl"
    rw [val4c]
    exact h
  | inn a b =>
    have hn : Nm a := ok.nm a (by simp [Lk.nums])
    have hl : (Str.ofString (toString a)).length ≤ 1901 := hn.len
    have hb : Nm b := ok.nm b (by simp [Lk.nums])
    have hlb : (Str.ofString (toString b)).length ≤ 1901 := hb.len
    walk_at "dl"
    refine ⟨by show 2 < _; decide, ?_⟩
    walk_at "dl"
    refine ⟨hn.log, ?_⟩
    walk_at "dl"
    refine ⟨len_line (by omega), ?_⟩
    walk_at "dl"
    refine ⟨len_line (by omega), ?_⟩
    walk_at "dl"
    refine ⟨len_line (by omega), ?_⟩
    walk_at "dl"
    refine ⟨hb.log, ?_⟩
    walk_at "dl"
    refine ⟨len_line (by rw [PySem.Str.length_append]; omega), ?_⟩
    walk_at "dl"
    refine ⟨by show 4 ≤ _; decide, ?_⟩
    walk_at "dl"
    rw [val4d]
    exact h
  | one ns =>
    walk_at "dl"
    refine ⟨by show 1 < _; decide, ?_⟩
    walk_at "dl"
    refine comp_map (fun d => match d with | .int n => .str (dig n) | d => d) (by rw [List.length_map]; exact Nat.le_trans ok.few (by decide)) trivial (fun d hd Q q => ?_) ?_
    · obtain ⟨n, hn, rfl⟩ := List.mem_map.mp hd
      walk_at "dl"
      exact ⟨(ok.nm n hn).log, q⟩
    · rw [List.map_map]
      walk_at "dl"
      show (match textsD (ns.map fun n => D.str (dig n)) with | some ys => _ | none => False)
      rw [textsD_strs]
      walk_at "dl"
      have hs := Lk.dig_sum (ns := ns) (fun n hn => ok.nm n hn) ok.few
      have hj := join_len "," (ns.map dig)
      have e1 : Str.length "{" = 1 := by decide
      have e2 : Str.length "}" = 1 := by decide
      refine ⟨Nat.le_trans hs (by decide), ?_⟩
      walk_at "dl"
      refine ⟨len_line (by omega), ?_⟩
      walk_at "dl"
      refine ⟨len_line (by rw [PySem.Str.length_append]; omega), ?_⟩
      exact h
  | but l =>
    walk_at "dl"
    refine ⟨by show 1 < _; decide, ?_⟩
    walk_at "dl"
    have hdp : l.dep ≤ kk := by have : l.dep + 1 ≤ kk + 1 := hd; omega
    cases kk with
    | zero => cases l <;> simp [Lk.dep] at hdp
    | succ k =>
      have okl : l.Ok := ok.but
      have hdp2 := okl.dp
      refine ⟨l, rfl, hdp, okl, ?_⟩
      walk_at "dl"
      have hl := l.text_len okl
      have e1 : Str.length "!" = 1 := by decide
      exact ⟨len_line (by omega), h⟩
/-! ### two looks written alike are alike -/
theorem tl_of (x : Str) : TL.tl x = x.cps.toList := rfl
theorem dots_tl : (Str.ofString "..").cps.toList = [46, 46] := by decide
theorem Lk.text_any : Lk.any.text.cps.toList = [42] := by decide
theorem Lk.text_is (n : Int) : (Lk.is n).text.cps.toList = (dig n).cps.toList := rfl
theorem Lk.text_frm (n : Int) : (Lk.frm n).text.cps.toList = (dig n).cps.toList ++ 46 :: [46] := by
  show (dig n ++ (".." : Str)).cps.toList = _
  rw [cps_app, dots_tl]
theorem Lk.text_upto (n : Int) : (Lk.upto n).text.cps.toList = [] ++ 46 :: 46 :: (dig n).cps.toList := by
  show ((".." : Str) ++ dig n).cps.toList = _
  rw [cps_app, dots_tl]; rfl
theorem Lk.text_inn (a b : Int) : (Lk.inn a b).text.cps.toList = (dig a).cps.toList ++ 46 :: 46 :: (dig b).cps.toList := by
  show (dig a ++ (".." : Str) ++ dig b).cps.toList = _
  rw [cps_app, cps_app, dots_tl]; simp
theorem Lk.text_one (ns : List Int) : (Lk.one ns).text.cps.toList = 123 :: ((Txt.join "," (ns.map dig)).cps.toList ++ [125]) := by
  show (("{" : Str) ++ Txt.join "," (ns.map dig) ++ ("}" : Str)).cps.toList = _
  have e1 : (Str.ofString "{").cps.toList = [123] := by decide
  have e2 : (Str.ofString "}").cps.toList = [125] := by decide
  rw [cps_app, cps_app, e1, e2]; simp
theorem Lk.text_but (l : Lk) : (Lk.but l).text.cps.toList = 33 :: l.text.cps.toList := by
  show (("!" : Str) ++ l.text).cps.toList = _
  have e1 : (Str.ofString "!").cps.toList = [33] := by decide
  rw [cps_app, e1]; rfl
theorem dig_head {k : Nat} {r : List Nat} {n : Int} (h : (dig n).cps.toList = k :: r) (hk : k ≠ 45 ∧ (k < 48 ∨ 57 < k) := by decide) : False := dig_free (k := k) n hk (by rw [h]; simp)
theorem dig_headA {k : Nat} {r s : List Nat} {n : Int} (h : (dig n).cps.toList ++ s = k :: r) (hk : k ≠ 45 ∧ (k < 48 ∨ 57 < k) := by decide) : False := by
  cases e : (dig n).cps.toList with
  | nil => exact dig_ne n e
  | cons a t =>
    rw [e] at h
    have : a = k := (List.cons.inj h).1
    rw [this] at e
    exact dig_head e hk
theorem join_free {c : Nat} (hc : c ≠ 44 := by decide) : ∀ ns : List Int, (c ≠ 45 ∧ (c < 48 ∨ 57 < c)) → c ∉ (Txt.join "," (ns.map dig)).cps.toList := by
  intro ns hk
  rw [TL.join_eq]
  induction ns with
  | nil => exact fun h => by simp [PyProof.Rows.join_nil, Str.empty] at h
  | cons n ns ih =>
    cases ns with
    | nil => rw [List.map_cons, List.map_nil, PyProof.Rows.join_one]; exact dig_free n hk
    | cons k r =>
      rw [List.map_cons, List.map_cons, PyProof.Rows.join_cons_cons, cps_app, cps_app]
      have e1 : (Str.ofString ",").cps.toList = [44] := by decide
      rw [e1]
      intro h
      rcases List.mem_append.mp h with h | h
      · rcases List.mem_append.mp h with h | h
        · exact dig_free n hk h
        · exact hc (List.mem_singleton.mp h)
      · exact ih h
theorem join_inj : ∀ {ns ks : List Int}, (Txt.join "," (ns.map dig)).cps.toList = (Txt.join "," (ks.map dig)).cps.toList → ns = ks := by
  intro ns ks
  rw [TL.join_eq, TL.join_eq]
  have e1 : (Str.ofString ",").cps.toList = [44] := by decide
  induction ns generalizing ks with
  | nil =>
    intro h
    cases ks with
    | nil => rfl
    | cons k ks =>
      cases ks with
      | nil => exact absurd h.symm (dig_ne k)
      | cons j r =>
        rw [List.map_cons, List.map_cons, PyProof.Rows.join_cons_cons, cps_app, cps_app, e1] at h
        exact absurd h (by simp [PyProof.Rows.join_nil, Str.empty])
  | cons n ns ih =>
    intro h
    cases ks with
    | nil =>
      cases ns with
      | nil => exact absurd h (dig_ne n)
      | cons j r =>
        rw [List.map_cons, List.map_cons, PyProof.Rows.join_cons_cons, cps_app, cps_app, e1] at h
        exact absurd h (by simp [PyProof.Rows.join_nil, Str.empty])
    | cons k ks =>
      cases ns with
      | nil =>
        cases ks with
        | nil =>
          rw [dig_inj (a := n) (b := k) h]
        | cons j r =>
          have h2 : (Str.join "," (([k, j] ++ r).map dig)).cps.toList = (dig k).cps.toList ++ 44 :: (Str.join "," ((j :: r).map dig)).cps.toList := by
            simp only [List.cons_append, List.nil_append]
            rw [List.map_cons, List.map_cons, PyProof.Rows.join_cons_cons, cps_app, cps_app, e1]; simp
          exact absurd (h.trans h2) (sep_no (dig_free n))
      | cons i q =>
        have h1 : (Str.join "," (([n, i] ++ q).map dig)).cps.toList = (dig n).cps.toList ++ 44 :: (Str.join "," ((i :: q).map dig)).cps.toList := by
          simp only [List.cons_append, List.nil_append]
          rw [List.map_cons, List.map_cons, PyProof.Rows.join_cons_cons, cps_app, cps_app, e1]; simp
        cases ks with
        | nil => exact absurd (h1.symm.trans h).symm (sep_no (dig_free k))
        | cons j r =>
          have h2 : (Str.join "," (([k, j] ++ r).map dig)).cps.toList = (dig k).cps.toList ++ 44 :: (Str.join "," ((j :: r).map dig)).cps.toList := by
            simp only [List.cons_append, List.nil_append]
            rw [List.map_cons, List.map_cons, PyProof.Rows.join_cons_cons, cps_app, cps_app, e1]; simp
          obtain ⟨a, b⟩ := sep_inj (dig_free n) (dig_free k) (h1.symm.trans (h.trans h2))
          rw [dig_inj a, ih b]
theorem Lk.text_inj : ∀ (l k : Lk), l.text.cps.toList = k.text.cps.toList → l = k := by
  have nod : ∀ n : Int, (46 : Nat) ∉ (dig n).cps.toList := fun n => dig_free n
  have nil : ∀ n : Int, (46 : Nat) ∉ ([] : List Nat) := fun n => by simp
  intro l
  induction l with
  | any =>
    intro k h
    cases k with
    | any => rfl
    | is n => rw [text_any, text_is] at h; exact (dig_head h.symm).elim
    | frm n => rw [text_any, text_frm] at h; exact (dig_headA h.symm).elim
    | upto n => rw [text_any, text_upto] at h; simp at h
    | inn a b => rw [text_any, text_inn] at h; exact (dig_headA h.symm).elim
    | one ns => rw [text_any, text_one] at h; simp at h
    | but l => rw [text_any, text_but] at h; simp at h
  | is n =>
    intro k h
    cases k with
    | any => rw [text_any, text_is] at h; exact (dig_head h).elim
    | is k => rw [dig_inj (a := n) (b := k) h]
    | frm k => rw [text_is, text_frm] at h; exact absurd h (sep_no (nod n))
    | upto k => rw [text_is, text_upto] at h; exact absurd h (sep_no (nod n))
    | inn a b => rw [text_is, text_inn] at h; exact absurd h (sep_no (nod n))
    | one ns => rw [text_is, text_one] at h; exact (dig_head h).elim
    | but l => rw [text_is, text_but] at h; exact (dig_head h).elim
  | frm n =>
    intro k h
    cases k with
    | any => rw [text_any, text_frm] at h; exact (dig_headA h).elim
    | is k => rw [text_is, text_frm] at h; exact absurd h.symm (sep_no (nod k))
    | frm k => rw [text_frm, text_frm] at h; rw [dig_inj (sep_inj (nod n) (nod k) h).1]
    | upto k => rw [text_frm, text_upto] at h; exact absurd (sep_inj (nod n) (nil 0) h).1 (dig_ne n)
    | inn a b =>
      rw [text_frm, text_inn] at h
      have := (sep_inj (nod n) (nod a) h).2
      exact absurd (List.cons.inj this).2.symm (dig_ne b)
    | one ns => rw [text_frm, text_one] at h; exact (dig_headA h).elim
    | but l => rw [text_frm, text_but] at h; exact (dig_headA h).elim
  | upto n =>
    intro k h
    cases k with
    | any => rw [text_any, text_upto] at h; simp at h
    | is k => rw [text_is, text_upto] at h; exact absurd h.symm (sep_no (nod k))
    | frm k => rw [text_frm, text_upto] at h; exact absurd (sep_inj (nil 0) (nod k) h).1.symm (dig_ne k)
    | upto k =>
      rw [text_upto, text_upto] at h
      have := (sep_inj (nil 0) (nil 0) h).2
      rw [dig_inj (List.cons.inj this).2]
    | inn a b => rw [text_upto, text_inn] at h; exact absurd (sep_inj (nil 0) (nod a) h).1.symm (dig_ne a)
    | one ns => rw [text_upto, text_one] at h; simp at h
    | but l => rw [text_upto, text_but] at h; simp at h
  | inn a b =>
    intro k h
    cases k with
    | any => rw [text_any, text_inn] at h; exact (dig_headA h).elim
    | is k => rw [text_is, text_inn] at h; exact absurd h.symm (sep_no (nod k))
    | frm k =>
      rw [text_frm, text_inn] at h
      have := (sep_inj (nod a) (nod k) h).2
      exact absurd (List.cons.inj this).2 (dig_ne b)
    | upto k => rw [text_upto, text_inn] at h; exact absurd (sep_inj (nod a) (nil 0) h).1 (dig_ne a)
    | inn c d =>
      rw [text_inn, text_inn] at h
      obtain ⟨e1, e2⟩ := sep_inj (nod a) (nod c) h
      rw [dig_inj e1, dig_inj (List.cons.inj e2).2]
    | one ns => rw [text_inn, text_one] at h; exact (dig_headA h).elim
    | but l => rw [text_inn, text_but] at h; exact (dig_headA h).elim
  | one ns =>
    intro k h
    cases k with
    | any => rw [text_any, text_one] at h; simp at h
    | is k => rw [text_is, text_one] at h; exact (dig_head h.symm).elim
    | frm k => rw [text_frm, text_one] at h; exact (dig_headA h.symm).elim
    | upto k => rw [text_upto, text_one] at h; simp at h
    | inn a b => rw [text_inn, text_one] at h; exact (dig_headA h.symm).elim
    | one ks =>
      rw [text_one, text_one] at h
      have := (List.cons.inj h).2
      rw [join_inj (List.append_cancel_right this)]
    | but l => rw [text_one, text_but] at h; simp at h
  | but l ih =>
    intro k h
    cases k with
    | any => rw [text_any, text_but] at h; simp at h
    | is k => rw [text_is, text_but] at h; exact (dig_head h.symm).elim
    | frm k => rw [text_frm, text_but] at h; exact (dig_headA h.symm).elim
    | upto k => rw [text_upto, text_but] at h; simp at h
    | inn a b => rw [text_inn, text_but] at h; exact (dig_headA h.symm).elim
    | one ks => rw [text_one, text_but] at h; simp at h
    | but k =>
      rw [text_but, text_but] at h
      rw [ih k (List.cons.inj h).2]
/-! ### looks as data -/
theorem pur_ints (ns : List Int) : purL (ns.map .int) = true := purL_all fun d hd => by obtain ⟨n, _, rfl⟩ := List.mem_map.mp hd; rw [pur]
theorem Lk.pur : ∀ l : Lk, DL.pur l.d = true
  | .any => by simp [Lk.d, DL.pur, purL]
  | .is n => by simp [Lk.d, DL.pur, purL]
  | .frm n => by simp [Lk.d, DL.pur, purL]
  | .upto n => by simp [Lk.d, DL.pur, purL]
  | .inn a b => by simp [Lk.d, DL.pur, purL]
  | .one ns => by simp [Lk.d, DL.pur, purL, pur_ints]
  | .but l => by simp [Lk.d, DL.pur, purL, Lk.pur l]
theorem fit_txt (s : String) (n : Nat) : fitD n (.str (Str.ofString s)) := by
  have h : ∀ c ∈ (Str.ofString s).cps.toList, c < 1114112 := fun c hc => by
    rw [PyProof.Rows.signs_ofString] at hc
    obtain ⟨ch, _, rfl⟩ := List.mem_map.mp hc
    have := ch.valid
    simp only [UInt32.isValidChar, Nat.isValidChar] at this
    show ch.val.toNat < 1114112
    omega
  cases n <;> exact h
theorem fit_ints {ns : List Int} (n : Nat) : fitD (n + 1) (.tup (ns.map .int)) := fun d hd => by obtain ⟨k, _, rfl⟩ := List.mem_map.mp hd; cases n <;> trivial
theorem fit_two {n : Nat} {a b : D} (h1 : fitD n a) (h2 : fitD n b) : fitD (n + 1) (.tup [a, b]) := fun d hd => by
  simp only [List.mem_cons, List.not_mem_nil, or_false] at hd
  rcases hd with rfl | rfl
  · exact h1
  · exact h2
theorem fit_int {n : Nat} {i : Int} : fitD n (.int i) := by cases n <;> trivial
theorem Lk.fit : ∀ (l : Lk) (n : Nat), l.dep + 1 ≤ n → fitD n l.d
  | .any, n + 1, _ => fun d hd => by rw [List.mem_singleton.mp hd]; exact fit_txt _ _
  | .is k, n + 1, _ => fit_two (fit_txt _ _) fit_int
  | .frm k, n + 1, _ => fit_two (fit_txt _ _) fit_int
  | .upto k, n + 1, _ => fit_two (fit_txt _ _) fit_int
  | .inn a b, n + 1, _ => fun d hd => by
    simp only [List.mem_cons, List.not_mem_nil, or_false] at hd
    rcases hd with rfl | rfl | rfl
    · exact fit_txt _ _
    · exact fit_int
    · exact fit_int
  | .one ns, n + 2, _ => fit_two (fit_txt _ _) (fit_ints n)
  | .one ns, 1, h => by simp [Lk.dep] at h
  | .but l, n + 1, h => fit_two (fit_txt _ _) (l.fit n (by have : l.dep + 1 + 1 ≤ n + 1 := h; omega))
theorem map_ints_inj : ∀ {ns ks : List Int}, ns.map D.int = ks.map D.int → ns = ks
  | [], [], _ => rfl
  | [], _ :: _, h => by simp at h
  | _ :: _, [], h => by simp at h
  | n :: ns, k :: ks, h => by
    simp only [List.map_cons, List.cons.injEq, D.int.injEq] at h
    rw [h.1, map_ints_inj h.2]
theorem Lk.d_inj : ∀ {l k : Lk}, l.d = k.d → l = k := by
  intro l
  induction l with
  | but l ih =>
    intro k h
    cases k with
    | but k =>
      simp only [Lk.d, D.tup.injEq, List.cons.injEq] at h
      rw [ih h.2.1]
    | _ => simp only [Lk.d, D.tup.injEq, List.cons.injEq, D.str.injEq] at h; exact absurd h.1 (by decide)
  | one ns =>
    intro k h
    cases k with
    | one ks =>
      simp only [Lk.d, D.tup.injEq, List.cons.injEq] at h
      have : ns = ks := map_ints_inj h.2.1
      rw [this]
    | _ => simp only [Lk.d, D.tup.injEq, List.cons.injEq, D.str.injEq] at h; exact absurd h.1 (by decide)
  | _ =>
    intro k h
    cases k <;> first | (simp only [Lk.d, D.tup.injEq, List.cons.injEq, D.str.injEq, D.int.injEq] at h; first | (simp [h]; done) | exact absurd h.1 (by decide))
end DL

namespace DL
open PySem L2
local macro_rules | `(tactic| walk_at "dl") => `(tactic| ((conv => whnf); try dsimp only))
abbrev sp__law_cell_at : SpD := spCellAt
abbrev rd__law_cell_at : DS := rdCellAt
theorem ln__law_cell_at : ∀ ds m Q PX, sp__law_cell_at ds m Q PX → ds.length = 2 := by rintro ds m Q PX ⟨d, k, rfl, _⟩; rfl
theorem pu__law_cell_at : ∀ ds m Q PX, sp__law_cell_at ds m Q PX → rd__law_cell_at (dEnds Q PX) (dstart ["_law_script", "_law_k"] ds) m := cellAt_pure _ _
abbrev sp__law_well : SpD := spWellK
abbrev rd__law_well : DS := rdWell
theorem ln__law_well : ∀ ds m Q PX, sp__law_well ds m Q PX → ds.length = 1 := by rintro ds m Q PX ⟨d, rfl, _⟩; rfl
theorem pu__law_well : ∀ ds m Q PX, sp__law_well ds m Q PX → rd__law_well (dEnds Q PX) (dstart ["_law_cell"] ds) m := fun ds m Q PX h => well_pure _ ds m Q PX (wellK_well h)
abbrev sp__law_draw : SpD := spDrawK
abbrev rd__law_draw : DS := rdDraw
theorem ln__law_draw : ∀ ds m Q PX, sp__law_draw ds m Q PX → ds.length = 2 := by rintro ds m Q PX ⟨d, k, rfl, _⟩; rfl
theorem pu__law_draw : ∀ ds m Q PX, sp__law_draw ds m Q PX → rd__law_draw (dEnds Q PX) (dstart ["_law_well_here", "_law_many", "_law_number", "_law_digit"] ds) m := fun ds m Q PX h => draw_pure _ _ _ _ ds m Q PX (drawK_draw h)
/-- one draw of a number below many, at its place in a reading -/
theorem Dr.num {w : Addr} {n : Nat} {m : Mu} {P P2 : DK} {many : Int} {R : D → Prop} (h : Dr w n R m P) (hn : 1 ≤ n) (h0 : 0 < many) (h1 : many.natAbs < 2 ^ 200)
    (h2 : ∀ (r : Int) m', 0 ≤ r → r < many → Kp [w] m m' → Dr w (n - 1) R m' P → P2 (.int r) m') : spDrawK [.adr w, .int many] m P2 fun _ _ _ => False := by
  obtain ⟨k, wl, hk, h⟩ := h
  refine ⟨w, many, rfl, h0, h1, k, wl, by omega, fun d m' hr kp wl' => ?_⟩
  obtain ⟨r, r0, r1, rfl⟩ := hr
  exact h2 r m' r0 r1 kp ⟨k + 1, wl', by omega, fun d2 m2 hd kp2 w2 => h d2 m2 hd (kp.trans kp2) (by rw [show k + 1 + (n - 1) = k + n by omega] at w2; exact w2)⟩
theorem Dr.sub {w : Addr} {n j : Nat} {m : Mu} {P P2 : DK} {R R2 : D → Prop} (h : Dr w n R m P) (hn : j ≤ n) (h2 : ∀ d m', R2 d → Kp [w] m m' → Dr w (n - j) R m' P → P2 d m') : Dr w j R2 m P2 := by
  obtain ⟨k, wl, hk, h⟩ := h
  refine ⟨k, wl, by omega, fun d m' hr kp wl' => h2 d m' hr kp ⟨k + j, wl', by omega, fun d2 m2 hd kp2 w2 => h d2 m2 hd (kp.trans kp2) (by rw [show k + j + (n - j) = k + n by omega] at w2; exact w2)⟩⟩
theorem Dr.done {w : Addr} {n : Nat} {m : Mu} {P : DK} {R : D → Prop} {d : D} (h : Dr w n R m P) (hd : R d) : P d m := by
  obtain ⟨k, wl, hk, h⟩ := h
  exact h d m hd (Kp.refl _ _) (wl.mono (by omega))
theorem Dr.imp {w : Addr} {n : Nat} {m : Mu} {P P2 : DK} {R R2 : D → Prop} (h : Dr w n R m P) (h1 : ∀ d, R2 d → R d) (h2 : ∀ d m', Kp [w] m m' → R2 d → P d m' → P2 d m') : Dr w n R2 m P2 := by
  obtain ⟨k, wl, hk, h⟩ := h
  exact ⟨k, wl, hk, fun d m' hd kp w' => h2 d m' kp hd (h d m' (h1 d hd) kp w')⟩
/-- something else of ours is new -/
theorem Dr.new {w : Addr} {n : Nat} {m m1 : Mu} {P : DK} {R : D → Prop} (h : Dr w n R m P) (kp : Kp [] m m1) : Dr w n R m1 P := by
  obtain ⟨k, wl, hk, h⟩ := h
  exact ⟨k, wl.keep kp (by simp), hk, fun d m' hd kp2 w' => h d m' hd ((kp.more (by simp)).trans kp2) w'⟩
/-- items that can be told by their place -/
def sqD : D → Option (List D)
  | .lst xs => some xs
  | .tup xs => some xs
  | _ => none
def sp__law_one : SpD := fun ds m P _ => ∃ (w : Addr) (X : D) (xs : List D), ds = [.adr w, X] ∧ sqD X = some xs ∧ 0 < xs.length ∧ xs.length ≤ 1000000 ∧ Dr w 1 (fun d => d ∈ xs) m P
def rd__law_one : DS :=
    sRet (rOp oIx (rV 1) (rCall sp__law_draw [] (rCons (rV 0) (rCons (rCB cLen (rCons (rV 1) (rNil))) (rNil)))))
theorem ln__law_one : ∀ ds m Q PX, sp__law_one ds m Q PX → ds.length = 2 := by rintro ds m Q PX ⟨d, k, _, rfl, _⟩; rfl
theorem pu__law_one : ∀ ds m Q PX, sp__law_one ds m Q PX → rd__law_one (dEnds Q PX) (dstart ["_law_well_here", "_law_some"] ds) m := by
  rintro ds m Q PX ⟨w, X, xs, rfl, hX, h0, h1, h⟩
  have pw : (2 : Nat) ^ 200 > 1000000 := by decide
  have fin : spDrawK [.adr w, .int (xs.length : Nat)] m (fun y m2 => oIx X y m2 Q) PX := by
    obtain ⟨k, wl, hk, h⟩ := h
    refine ⟨w, _, rfl, by omega, by omega, k, wl, hk, fun d m' hd kp w' => ?_⟩
    obtain ⟨r, r0, r1, rfl⟩ := hd
    obtain ⟨x, e1, e2⟩ := atI_some r0 r1
    have hq := h x m' (List.mem_of_getElem? e2) kp w'
    cases X with
    | lst ys => cases hX; show (match atI xs r with | some d => Q d m' | none => False); rw [e1]; exact hq
    | tup ys => cases hX; show (match atI xs r with | some d => Q d m' | none => False); rw [e1]; exact hq
    | _ => cases hX
  cases X with
  | lst ys => cases hX; exact fin
  | tup ys => cases hX; exact fin
  | _ => cases hX
/-- whole numbers below 2 ^ b -/
def Bd (b : Nat) (n : Int) : Prop := n.natAbs < 2 ^ b
theorem Bd.nm {b : Nat} {n : Int} (h : Bd b n) (hb : b ≤ 1900 := by decide) : Nm n := Nat.lt_of_lt_of_le h (Nat.pow_le_pow_right (by decide) hb)
theorem Bd.mono {b c : Nat} {n : Int} (h : Bd b n) (hb : b ≤ c := by omega) : Bd c n := Nat.lt_of_lt_of_le h (Nat.pow_le_pow_right (by decide) hb)
theorem Bd.add {b : Nat} {n k : Int} (h : Bd b n) (hk : Bd b k) : Bd (b + 1) (n + k) := by
  unfold Bd at *
  rw [Nat.pow_succ]
  omega
def isInts (b : Nat) (k : Nat) (d : D) : Prop := ∃ ns : List Int, d = .lst (ns.map .int) ∧ ns.length = k ∧ ∀ n ∈ ns, Bd b n
def sp__law_mids : SpD := fun ds m P _ => ∃ w : Addr, ds = [.adr w] ∧ Dr w 10 (isInts 140 3) m P
def rd__law_mids : DS :=
    sSeq (sSet 1 (rOp oIx (rLst (rCons (rOp oSub (rCall sp__law_draw [] (rCons (rV 0) (rCons (rC (.int 9)) (rNil)))) (rC (.int 4))) (rCons (rOp oSub (rCall sp__law_draw [] (rCons (rV 0) (rCons (rOp oMul (rC (.int 2)) (rOp oPow (rC (.int 10)) (rC (.int 40)))) (rNil)))) (rOp oPow (rC (.int 10)) (rC (.int 40)))) (rNil)))) (rCall sp__law_draw [] (rCons (rV 0) (rCons (rC (.int 2)) (rNil))))))
    (sRet (rLc (iRange (rCons (rC (.int 3)) (rNil))) [2] (gN 2) (qYes) (rOp oAdd (rV 1) (rCall sp__law_draw [] (rCons (rV 0) (rCons (rC (.int 6)) (rNil)))))))
theorem ln__law_mids : ∀ ds m Q PX, sp__law_mids ds m Q PX → ds.length = 1 := by rintro ds m Q PX ⟨d, rfl, _⟩; rfl
theorem pu__law_mids : ∀ ds m Q PX, sp__law_mids ds m Q PX → rd__law_mids (dEnds Q PX) (dstart ["_law_well_here", "_law_base", "_law_k"] ds) m := by
  rintro ds m Q PX ⟨w, rfl, k, wl, hk, h⟩
  have big : (10 : Int) ^ Int.toNat 40 = 10000000000000000000000000000000000000000 := by decide
  have pw : (2 : Nat) ^ 139 > 100000000000000000000000000000000000000000 := by decide
  walk_at "dl"
  refine ⟨w, 9, rfl, by decide, by decide, k, wl, by omega, fun d m1 hd kp1 w1 => ?_⟩
  obtain ⟨r, r0, r1, rfl⟩ := hd
  walk_at "dl"
  refine ⟨⟨by decide, by decide, by decide⟩, ?_⟩
  walk_at "dl"
  refine ⟨.inl ⟨by decide, by decide⟩, ?_⟩
  walk_at "dl"
  refine ⟨w, 2 * 10 ^ Int.toNat 40, rfl, by decide, by decide, _, w1, by omega, fun d m2 hd kp2 w2 => ?_⟩
  obtain ⟨s, s0, s1, rfl⟩ := hd
  rw [big] at s1
  walk_at "dl"
  refine ⟨⟨by decide, by decide, by decide⟩, ?_⟩
  walk_at "dl"
  refine ⟨len_line (by show 2 ≤ _; decide), ?_⟩
  walk_at "dl"
  refine ⟨w, 2, rfl, by decide, by decide, _, w2, by omega, fun d m3 hd kp3 w3 => ?_⟩
  obtain ⟨u, u0, u1, rfl⟩ := hd
  have fin : ∀ z : Int, Bd 139 z → sRet (rLc (iRange (rCons (rC (.int 3)) (rNil))) [2] (gN 2) (qYes) (rOp oAdd (rV 1) (rCall sp__law_draw [] (rCons (rV 0) (rCons (rC (.int 6)) (rNil)))))) (dEnds Q PX) [some (.adr w), some (.int z), none] m3 := by
    intro z hz
    walk_at "dl"
    refine ⟨⟨by decide, by decide⟩, ?_⟩
    refine comp_inv (fun i acc m' => Kp [w] m3 m' ∧ Wl m' w (k + 1 + 1 + 1 + i) ∧ ∃ ns : List Int, acc = ns.map .int ∧ ns.length = i ∧ ∀ n ∈ ns, Bd 140 n) (fun i acc m' hh => ?_) (by show 3 ≤ _; decide) (fun i d acc m' e hh => ?_) (fun acc m' hh => ?_) ⟨Kp.refl _ _, w3, [], rfl, rfl, fun _ z => by cases z⟩
    · obtain ⟨_, _, ns, rfl, hl, _⟩ := hh
      rw [List.length_map, hl]; exact Nat.le_refl _
    · obtain ⟨kp4, w4, ns, rfl, hl, hb⟩ := hh
      have hi : i < 3 := (List.getElem?_eq_some_iff.mp e).1
      refine ⟨trivial, fun Kt Kf k1 _ => ?_⟩
      walk_at "dl"
      refine ⟨w, 6, rfl, by decide, by decide, _, w4, by omega, fun d m5 hd kp5 w5 => ?_⟩
      obtain ⟨v, v0, v1, rfl⟩ := hd
      refine k1 _ _ ⟨kp4.trans kp5, w5, ns ++ [z + v], by simp, by simp [hl], fun n hn => ?_⟩
      rcases List.mem_append.mp hn with hn | hn
      · exact hb n hn
      · rw [List.mem_singleton.mp hn]
        exact Bd.add hz (by unfold Bd; omega)
    · obtain ⟨kp4, w4, ns, rfl, hl, hb⟩ := hh
      have hl3 : ns.length = 3 := hl
      have w5 : Wl m' w (k + 1 + 1 + 1 + 3) := w4
      exact ⟨trivial, h _ _ ⟨ns, rfl, hl3, hb⟩ (((kp1.trans kp2).trans kp3).trans kp4) (w5.mono (by omega))⟩
  have hu : u = 0 ∨ u = 1 := by omega
  rcases hu with rfl | rfl
  · exact fin _ (by unfold Bd; omega)
  · refine fin _ ?_
    rw [big]
    unfold Bd; omega
def sp__law_near : SpD := fun ds m P _ => ∃ (w : Addr) (ns : List Int) (b : Nat), ds = [.adr w, .lst (ns.map .int)] ∧ 3 ≤ b ∧ 0 < ns.length ∧ ns.length ≤ 1000000 ∧ (∀ n ∈ ns, Bd b n) ∧ Dr w 2 (fun d => ∃ n : Int, Bd (b + 1) n ∧ d = .int n) m P
def rd__law_near : DS :=
    sRet (rOp oSub (rOp oAdd (rCall sp__law_one [] (rCons (rV 0) (rCons (rV 1) (rNil)))) (rCall sp__law_draw [] (rCons (rV 0) (rCons (rC (.int 3)) (rNil))))) (rC (.int 1)))
theorem ln__law_near : ∀ ds m Q PX, sp__law_near ds m Q PX → ds.length = 2 := by rintro ds m Q PX ⟨d, _, _, rfl, _⟩; rfl
theorem pu__law_near : ∀ ds m Q PX, sp__law_near ds m Q PX → rd__law_near (dEnds Q PX) (dstart ["_law_well_here", "_law_mids_here"] ds) m := by
  rintro ds m Q PX ⟨w, ns, b, rfl, hb3, h0, h1, hb, k, wl, hk, h⟩
  have p3 : (2 : Nat) ^ 3 ≤ 2 ^ b := Nat.pow_le_pow_right (by decide) hb3
  walk_at "dl"
  refine ⟨w, _, _, rfl, rfl, by rw [List.length_map]; exact h0, by rw [List.length_map]; exact h1, k, wl, by omega, fun d m1 hd kp1 w1 => ?_⟩
  obtain ⟨n, hn, rfl⟩ := List.mem_map.mp hd
  walk_at "dl"
  refine ⟨w, 3, rfl, by decide, by decide, _, w1, by omega, fun d m2 hd kp2 w2 => ?_⟩
  obtain ⟨r, r0, r1, rfl⟩ := hd
  exact h _ _ ⟨n + r - 1, by have := hb n hn; unfold Bd at *; rw [Nat.pow_succ]; omega, rfl⟩ (kp1.trans kp2) w2
/-! ### each once -/
def unl (xs : List D) : List D := xs.foldl (fun acc x => if (acc.any fun z => deq z x) = true then acc else acc ++ [x]) []
theorem unl_snoc (xs : List D) (x : D) : unl (xs ++ [x]) = if ((unl xs).any fun z => deq z x) = true then unl xs else unl xs ++ [x] := by
  unfold unl; rw [List.foldl_append]; rfl
theorem snoc_ind {α : Type} {p : List α → Prop} (h0 : p []) (h1 : ∀ xs x, p xs → p (xs ++ [x])) (xs : List α) : p xs := by
  have : ∀ n (xs : List α), xs.length = n → p xs := by
    intro n
    induction n with
    | zero => intro xs e; rw [List.eq_nil_of_length_eq_zero e]; exact h0
    | succ n ih =>
      intro xs e
      have hne : xs ≠ [] := fun z => by rw [z] at e; cases e
      rw [← List.dropLast_concat_getLast hne]
      exact h1 _ _ (ih _ (by rw [List.length_dropLast, e]; rfl))
  exact this _ xs rfl
theorem any_deq {xs : List D} {x : D} (hx : pur x = true) (h : ∀ d ∈ xs, pur d = true) : (xs.any fun z => deq z x) = true ↔ x ∈ xs := by
  rw [List.any_eq_true]
  constructor
  · rintro ⟨z, hz, e⟩
    rw [← (deq_iff (h z hz) hx).mp e]; exact hz
  · intro hm
    exact ⟨x, hm, (deq_iff hx hx).mpr rfl⟩
theorem unl_facts : ∀ xs : List D, (∀ d ∈ xs, pur d = true) → (∀ d, d ∈ unl xs ↔ d ∈ xs) ∧ (unl xs).Nodup ∧ (unl xs).length ≤ xs.length := by
  intro xs
  induction xs using snoc_ind with
  | h0 => exact fun _ => ⟨fun d => Iff.rfl, List.nodup_nil, Nat.le_refl _⟩
  | h1 xs x ih =>
    intro h
    obtain ⟨a, b, c⟩ := ih fun d hd => h d (List.mem_append_left _ hd)
    have hx : pur x = true := h x (by simp)
    have hp : ∀ d ∈ unl xs, pur d = true := fun d hd => h d (List.mem_append_left _ ((a d).mp hd))
    rw [unl_snoc]
    by_cases e : ((unl xs).any fun z => deq z x) = true
    · rw [if_pos e]
      have hm := (any_deq hx hp).mp e
      refine ⟨fun d => ⟨fun z => List.mem_append_left _ ((a d).mp z), fun z => ?_⟩, b, by rw [List.length_append]; omega⟩
      rcases List.mem_append.mp z with z | z
      · exact (a d).mpr z
      · rw [List.mem_singleton.mp z]; exact hm
    · rw [if_neg e]
      have hm : x ∉ unl xs := fun z => e ((any_deq hx hp).mpr z)
      refine ⟨fun d => ?_, ?_, by rw [List.length_append, List.length_append]; exact Nat.add_le_add_right c 1⟩
      · rw [List.mem_append, List.mem_append, a d]
      · rw [List.nodup_append]
        refine ⟨b, by simp, fun p hp q hq => ?_⟩
        rw [List.mem_singleton.mp hq]
        exact fun z => hm (z ▸ hp)
def sp__law_unlike : SpD := fun ds m P _ => ∃ xs : List D, ds = [.lst xs] ∧ xs.length ≤ 1000000 ∧ (∀ d ∈ xs, pur d = true ∧ fitD 20 d) ∧ P (.lst (unl xs)) m
def rd__law_unlike : DS :=
    sRet (rLc (iEnumD (rCons (rV 0) (rNil))) [1, 2] (gT [1, 2]) (rTst (rOp (oInN true) (rV 2) (rSl (rV 0) rNoP (rPart (rV 1))))) (rV 2))
theorem ln__law_unlike : ∀ ds m Q PX, sp__law_unlike ds m Q PX → ds.length = 1 := by rintro ds m Q PX ⟨d, rfl, _⟩; rfl
theorem dat_pur {m : Mu} {d : D} (h : pur d = true) : dat m d = d := by
  cases d <;> first | rfl | (simp [pur] at h)
theorem cut_take (xs : List D) (i : Nat) : cutD xs none (some (i : Int)) = xs.take i := by
  unfold cutD
  rw [HT.sIx_nat, HT.sIx_none]
  simp only [List.drop_zero, Nat.sub_zero]
  by_cases h : i ≤ xs.length
  · rw [Nat.min_eq_left h]
  · rw [Nat.min_eq_right (by omega), List.take_of_length_le (Nat.le_refl _), List.take_of_length_le (by omega)]
theorem pu__law_unlike : ∀ ds m Q PX, sp__law_unlike ds m Q PX → rd__law_unlike (dEnds Q PX) (dstart ["_law_some", "_law_k", "_law_one_here"] ds) m := by
  rintro ds m Q PX ⟨xs, rfl, hl, hp, h⟩
  walk_at "dl"
  refine comp_inv (fun i acc m' => m' = m ∧ acc = unl (xs.take i)) (fun i acc m' hh => ?_) (by rw [enumD_length]; omega) (fun i d acc m' e hh => ?_) (fun acc m' hh => ?_) ⟨rfl, rfl⟩
  · rw [hh.2]
    refine Nat.le_trans (unl_facts _ fun d hd => (hp d (List.mem_of_mem_take hd)).1).2.2 ?_
    rw [List.length_take]; omega
  · obtain ⟨rfl, rfl⟩ := hh
    refine ⟨trivial, fun Kt Kf k1 k2 => ?_⟩
    rw [enumD_get] at e
    cases hx : xs[i]? with
    | none => rw [hx] at e; cases e
    | some x =>
      rw [hx] at e
      cases e
      have hm := List.mem_of_getElem? hx
      refine ⟨rfl, ?_⟩
      have e0 : ((0 + i : Nat) : Int) = (i : Int) := by simp
      have e2 : xs.take (i + 1) = xs.take i ++ [x] := by rw [List.take_succ, hx]; rfl
      have sub : ∀ d ∈ xs.take i, pur d = true := fun d hd => (hp d (List.mem_of_mem_take hd)).1
      obtain ⟨u1, u2, u3⟩ := unl_facts _ sub
      have hany : ((unl (xs.take i)).any fun z => deq z x) = ((xs.take i).any fun z => deq z x) := by
        rw [Bool.eq_iff_iff, any_deq (hp x hm).1 sub, any_deq (hp x hm).1 (fun d hd => sub d ((u1 d).mp hd)), u1 x]
      walk_at "dl"
      rw [e0, cut_take]
      refine ⟨.inr ⟨?_, ?_⟩, ?_⟩
      · rw [dat_pur (hp x hm).1]; exact shp_of (hp x hm).2
      · exact shp_of (n := 21) fun d hd => (hp d (List.mem_of_mem_take hd)).2
      · rw [dat_pur (hp x hm).1, ← hany]
        cases ha : (unl (xs.take i)).any fun z => deq z x with
        | true => exact k2 _ ⟨rfl, by rw [e2, unl_snoc, if_pos ha]⟩
        | false => exact k1 _ _ ⟨rfl, by rw [e2, unl_snoc, if_neg (by rw [ha]; exact Bool.false_ne_true)]⟩
  · obtain ⟨rfl, rfl⟩ := hh
    refine ⟨trivial, ?_⟩
    rw [enumD_length, List.take_length]
    exact h
/-- of whole numbers -/
theorem unl_ints (ns : List Int) : ∃ ks : List Int, unl (ns.map .int) = ks.map .int ∧ ks.length ≤ ns.length ∧ ks.Nodup ∧ ∀ k, k ∈ ks ↔ k ∈ ns := by
  have hp : ∀ d ∈ ns.map D.int, pur d = true := fun d hd => by obtain ⟨n, _, rfl⟩ := List.mem_map.mp hd; rw [pur]
  obtain ⟨a, b, c⟩ := unl_facts _ hp
  have ex : ∀ l : List D, (∀ d ∈ l, ∃ n : Int, d = .int n) → ∃ ks : List Int, l = ks.map .int := by
    intro l
    induction l with
    | nil => exact fun _ => ⟨[], rfl⟩
    | cons d l ih =>
      intro h
      obtain ⟨n, rfl⟩ := h d List.mem_cons_self
      obtain ⟨ks, rfl⟩ := ih fun e he => h e (List.mem_cons_of_mem _ he)
      exact ⟨n :: ks, rfl⟩
  obtain ⟨ks, e⟩ := ex (unl (ns.map .int)) fun d hd => by
    obtain ⟨n, _, rfl⟩ := List.mem_map.mp ((a d).mp hd); exact ⟨n, rfl⟩
  refine ⟨ks, e, ?_, ?_, fun k => ?_⟩
  · rw [e, List.length_map, List.length_map] at c; exact c
  · rw [e] at b
    exact (List.pairwise_map.mp b).imp fun h z => h (by rw [z])
  · have := a (.int k)
    rw [e] at this
    simpa using this
end DL

namespace DL
open PySem L2
local macro_rules | `(tactic| walk_at "dl") => `(tactic| ((conv => whnf); try dsimp only))
def Lk.uniq : Lk → Prop
  | .one ns => ns.Nodup
  | .but l => l.uniq
  | _ => True
structure Lk.Good (b : Nat) (l : Lk) : Prop where
  nm : ∀ n ∈ l.nums, Bd b n
  few : l.few
  dp : l.dep ≤ 2
  un : l.uniq
theorem Lk.Good.ok {b : Nat} {l : Lk} (h : l.Good b) (hb : b ≤ 1900 := by decide) : l.Ok := ⟨fun n hn => (h.nm n hn).nm hb, h.few, h.dp⟩
theorem Wl.some {m : Mu} {w : Addr} {k : Nat} (h : Wl m w k) : m w ≠ none := by
  obtain ⟨a, b, c, e, _⟩ := h.ex
  rw [e]; exact fun z => by cases z
def sp__law_look : SpD := fun ds m P _ => ∃ (w : Addr) (ns : List Int), ds = [.adr w, .lst (ns.map .int)] ∧ 0 < ns.length ∧ ns.length ≤ 1000000 ∧ (∀ n ∈ ns, Bd 140 n) ∧ Dr w 20 (fun d => ∃ l : Lk, l.Good 142 ∧ d = l.d) m P
def rd__law_look : DS :=
    sSeq (sSet 2 (rCall sp__law_draw [] (rCons (rV 0) (rCons (rC (.int 8)) (rNil)))))
    (sSeq (sSet 3 (rCall sp__law_near [] (rCons (rV 0) (rCons (rV 1) (rNil)))))
    (sSeq (sSet 4 (rLstM (rCons (rTup (rCons (rC (.str "any")) (rNil))) (rCons (rTup (rCons (rC (.str "is")) (rCons (rV 3) (rNil)))) (rCons (rTup (rCons (rC (.str "from")) (rCons (rV 3) (rNil)))) (rCons (rTup (rCons (rC (.str "to")) (rCons (rV 3) (rNil)))) (rCons (rTup (rCons (rC (.str "in")) (rCons (rV 3) (rCons (rOp oSub (rOp oAdd (rV 3) (rCall sp__law_draw [] (rCons (rV 0) (rCons (rC (.int 5)) (rNil))))) (rC (.int 1))) (rNil))))) (rNil))))))))
    (sSeq (sExpr (rApp (rV 4) (rTup (rCons (rC (.str "one")) (rCons (rCB cTup (rCons (rCall sp__law_unlike [] (rCons (rLc (iRange (rCons (rCall sp__law_draw [] (rCons (rV 0) (rCons (rC (.int 5)) (rNil)))) (rNil))) [5] (gN 5) (qYes) (rCall sp__law_near [] (rCons (rV 0) (rCons (rV 1) (rNil))))) (rNil))) (rNil))) (rNil))))))
    (sSeq (sIf (rTst (rOp oLt (rV 2) (rC (.int 6)))) (sRet (rOp oIx (rV 4) (rV 2))) (sNext))
    (sRet (rTup (rCons (rC (.str "but")) (rCons (rOp oIx (rV 4) (rCall sp__law_draw [] (rCons (rV 0) (rCons (rC (.int 6)) (rNil))))) (rNil)))))))))
theorem ln__law_look : ∀ ds m Q PX, sp__law_look ds m Q PX → ds.length = 2 := by rintro ds m Q PX ⟨d, _, rfl, _⟩; rfl
theorem pu__law_look : ∀ ds m Q PX, sp__law_look ds m Q PX → rd__law_look (dEnds Q PX) (dstart ["_law_well_here", "_law_mids_here", "_law_way", "_law_low", "_law_some", "_law_k"] ds) m := by
  rintro ds m Q PX ⟨w, ns, rfl, h0, h1, hb, k, wl, hk, h⟩
  walk_at "dl"
  refine ⟨w, 8, rfl, by decide, by decide, k, wl, by omega, fun d m1 hd kp1 w1 => ?_⟩
  obtain ⟨way, y0, y1, rfl⟩ := hd
  walk_at "dl"
  refine ⟨w, ns, 140, rfl, by decide, h0, h1, hb, _, w1, by omega, fun d m2 hd kp2 w2 => ?_⟩
  obtain ⟨low, hlow, rfl⟩ := hd
  walk_at "dl"
  repeat (refine ⟨len_line (by simp), ?_⟩; walk_at "dl")
  refine ⟨w, 5, rfl, by decide, by decide, _, w2, by omega, fun d m3 hd kp3 w3 => ?_⟩
  obtain ⟨up, u0, u1, rfl⟩ := hd
  walk_at "dl"
  refine ⟨len_line (by simp), ?_⟩
  walk_at "dl"
  refine ⟨len_line (by show 5 ≤ _; decide), fun q hq => ?_⟩
  walk_at "dl"
  have hqw : q ≠ w := fun z => w3.some (z ▸ hq)
  have kn : Kp [] m3 (mset m3 q (.lst [Lk.any.d, (Lk.is low).d, (Lk.frm low).d, (Lk.upto low).d, (Lk.inn low (low + up - 1)).d])) := kp_new hq
  have w4 := w3.keep kn (by simp)
  refine ⟨⟨_, mset_same⟩, ?_⟩
  walk_at "dl"
  refine ⟨w, 5, rfl, by decide, by decide, _, w4, by omega, fun d m5 hd kp5 w5 => ?_⟩
  obtain ⟨cnt, c0, c1, rfl⟩ := hd
  have e5 : m5 q = some (.lst [Lk.any.d, (Lk.is low).d, (Lk.frm low).d, (Lk.upto low).d, (Lk.inn low (low + up - 1)).d]) := kp5 q _ (by simpa using hqw) mset_same
  walk_at "dl"
  refine ⟨⟨by omega, by omega⟩, ?_⟩
  have hrl : (rangeD 0 cnt.toNat).length = cnt.toNat := by simp [rangeD]
  refine comp_inv (fun i acc m' => Kp [w] m5 m' ∧ Wl m' w (k + 1 + 2 + 1 + 1 + 2 * i) ∧ ∃ ks : List Int, acc = ks.map .int ∧ ks.length = i ∧ ∀ n ∈ ks, Bd 141 n) (fun i acc m' hh => ?_) (by rw [hrl]; omega) (fun i d acc m' e hh => ?_) (fun acc m' hh => ?_) ⟨Kp.refl _ _, w5, [], rfl, rfl, fun _ z => by cases z⟩
  · obtain ⟨_, _, ks, rfl, hl, _⟩ := hh
    rw [List.length_map, hl]; exact Nat.le_refl _
  · obtain ⟨kp6, w6, ks, rfl, hl, hks⟩ := hh
    have hi : i < cnt.toNat := by
      have := (List.getElem?_eq_some_iff.mp e).1
      rw [hrl] at this; exact this
    refine ⟨trivial, fun Kt Kf k1 _ => ?_⟩
    walk_at "dl"
    refine ⟨w, ns, 140, rfl, by decide, h0, h1, hb, _, w6, by omega, fun d m7 hd kp7 w7 => ?_⟩
    obtain ⟨n, hn, rfl⟩ := hd
    refine k1 _ _ ⟨kp6.trans kp7, ?_, ks ++ [n], by simp, by simp [hl], fun j hj => ?_⟩
    · have e : k + 1 + 2 + 1 + 1 + 2 * i + 2 = k + 1 + 2 + 1 + 1 + 2 * (i + 1) := by omega
      rw [e] at w7; exact w7
    · rcases List.mem_append.mp hj with hj | hj
      · exact hks j hj
      · rw [List.mem_singleton.mp hj]; exact hn
  · obtain ⟨kp6, w6, ks, rfl, hl, hks⟩ := hh
    rw [hrl] at hl w6
    refine ⟨trivial, ?_⟩
    walk_at "dl"
    refine ⟨ks.map .int, rfl, by rw [List.length_map]; omega, fun d hd => ?_, ?_⟩
    · obtain ⟨n, _, rfl⟩ := List.mem_map.mp hd
      exact ⟨by rw [pur], fit_int⟩
    obtain ⟨us, e1, e2, e3, e4⟩ := unl_ints ks
    rw [e1]
    walk_at "dl"
    have e6 := kp6 q _ (by simpa using hqw) e5
    refine ⟨len_line (by simp), ?_⟩
    walk_at "dl"
    rw [e6]
    walk_at "dl"
    refine ⟨by show 5 < sizeLine; decide, ?_⟩
    walk_at "dl"
    have kpw : Kp [w] m m' := ((kp1.trans kp2).trans (kp3.trans (kn.more (by simp)))).trans (kp5.trans kp6)
    have low2 : Bd 142 low := hlow.mono
    have good : ∀ l ∈ [Lk.any, .is low, .frm low, .upto low, .inn low (low + up - 1), .one us], l.Good 142 ∧ l.dep ≤ 1 := by
      intro l hl
      simp only [List.mem_cons, List.not_mem_nil, or_false] at hl
      rcases hl with rfl | rfl | rfl | rfl | rfl | rfl
      · exact ⟨⟨by simp [Lk.nums], trivial, by simp [Lk.dep], trivial⟩, by simp [Lk.dep]⟩
      · exact ⟨⟨by simpa [Lk.nums] using low2, trivial, by simp [Lk.dep], trivial⟩, by simp [Lk.dep]⟩
      · exact ⟨⟨by simpa [Lk.nums] using low2, trivial, by simp [Lk.dep], trivial⟩, by simp [Lk.dep]⟩
      · exact ⟨⟨by simpa [Lk.nums] using low2, trivial, by simp [Lk.dep], trivial⟩, by simp [Lk.dep]⟩
      · refine ⟨⟨?_, trivial, by simp [Lk.dep], trivial⟩, by simp [Lk.dep]⟩
        intro n hn
        simp only [Lk.nums, List.mem_cons, List.not_mem_nil, or_false] at hn
        rcases hn with rfl | rfl
        · exact low2
        · have p : (2 : Nat) ^ 141 > 100 := by decide
          unfold Bd at *
          have : (2 : Nat) ^ 142 = 2 * 2 ^ 141 := by decide
          omega
      · refine ⟨⟨fun n hn => (hks n ((e4 n).mp hn)).mono, ?_, by simp [Lk.dep], e3⟩, by simp [Lk.dep]⟩
        show us.length ≤ 4
        omega
    generalize hm8 : mset m' q _ = m8
    have e8 : m8 q = some (.lst ([Lk.any, .is low, .frm low, .upto low, .inn low (low + up - 1), .one us].map Lk.d)) := by rw [← hm8]; exact mset_same
    have kp8 : Kp [w] m m8 := by
      intro a o ha e
      rw [← hm8, mset_ne ?_]
      · exact kpw a o ha e
      · intro z
        have := ((kp1.trans kp2).trans kp3) a o ha e
        rw [z, hq] at this; cases this
    have w8 : Wl m8 w (k + 1 + 2 + 1 + 1 + 2 * cnt.toNat) := by
      obtain ⟨a, b, c, e, r⟩ := w6.ex
      exact ⟨a, b, c, by rw [← hm8, mset_ne (fun z => hqw z.symm)]; exact e, r⟩
    have pick : ∀ i : Int, 0 ≤ i → i < 6 → ∃ l ∈ [Lk.any, .is low, .frm low, .upto low, .inn low (low + up - 1), .one us], atI ([Lk.any, .is low, .frm low, .upto low, .inn low (low + up - 1), .one us].map Lk.d) i = some l.d := by
      intro i i0 i1
      obtain ⟨x, a1, a2⟩ := atI_some (xs := [Lk.any, .is low, .frm low, .upto low, .inn low (low + up - 1), .one us].map Lk.d) i0 i1
      obtain ⟨l, hl, rfl⟩ := List.mem_map.mp (List.mem_of_getElem? a2)
      exact ⟨l, hl, a1⟩
    cases hw : decide (way < 6) with
    | true =>
      obtain ⟨l, hl, el⟩ := pick way y0 (of_decide_eq_true hw)
      walk_at "dl"
      rw [asL_adr e8]
      walk_at "dl"
      rw [el]
      exact h _ _ ⟨l, (good l hl).1, rfl⟩ kp8 (w8.mono (by omega))
    | false =>
      walk_at "dl"
      refine ⟨w, 6, rfl, by decide, by decide, _, w8, by omega, fun d m9 hd kp9 w9 => ?_⟩
      obtain ⟨i, i0, i1, rfl⟩ := hd
      obtain ⟨l, hl, el⟩ := pick i i0 i1
      have e9 := kp9 q _ (by simpa using hqw) e8
      walk_at "dl"
      rw [asL_adr e9]
      walk_at "dl"
      rw [el]
      obtain ⟨g1, g2⟩ := good l hl
      refine ⟨len_line (by simp), ?_⟩
      exact h _ _ ⟨.but l, ⟨g1.nm, g1.few, by show l.dep + 1 ≤ 2; omega, g1.un⟩, rfl⟩ (kp8.trans kp9) (w9.mono (by omega))
/-! ### a number by its figures -/
def sp__law_figures_of : SpD := fun ds m P _ => ∃ n : Nat, ds = [.int n] ∧ Nm n ∧ P (.str (dig n)) m
def rd__law_figures_of : DS :=
    sSeq (sSet 1 (rOp oIx (rC (.str "0123456789")) (rOp oMod (rCB cInt (rCons (rV 0) (rNil))) (rC (.int 10)))))
    (sSeq (sWhile (rTst (rOp oGt (rV 0) (rC (.int 9)))) (sSeq (sSet 0 (rOp oDiv (rV 0) (rC (.int 10))))
    (sSet 1 (rOp oAdd (rOp oIx (rC (.str "0123456789")) (rOp oMod (rCB cInt (rCons (rV 0) (rNil))) (rC (.int 10)))) (rV 1)))))
    (sRet (rV 1)))
theorem ln__law_figures_of : ∀ ds m Q PX, sp__law_figures_of ds m Q PX → ds.length = 1 := by rintro ds m Q PX ⟨d, rfl, _⟩; rfl
theorem tens_get : ∀ i : Nat, i < 10 → (Str.ofString "0123456789").cps.toList[i]? = some (48 + i) := by decide
theorem dig_small : ∀ i : Nat, i < 10 → dig (i : Nat) = ⟨#[48 + i]⟩ := by decide
theorem tens_at (i : Int) (h0 : 0 ≤ i) (h1 : i < 10) : ∃ c, atI (Str.ofString "0123456789").cps.toList i = some c ∧ dig i = ⟨#[c]⟩ := by
  obtain ⟨c, e1, e2⟩ := atI_some (xs := (Str.ofString "0123456789").cps.toList) h0 (by rw [show (Str.ofString "0123456789").cps.toList.length = 10 by decide]; omega)
  refine ⟨c, e1, ?_⟩
  have hi : i.toNat < 10 := by omega
  have e3 := tens_get _ hi
  rw [e2] at e3
  cases e3
  have := dig_small _ hi
  have e4 : ((i.toNat : Nat) : Int) = i := by omega
  rw [e4] at this
  exact this
theorem pu__law_figures_of : ∀ ds m Q PX, sp__law_figures_of ds m Q PX → rd__law_figures_of (dEnds Q PX) (dstart ["_law_number", "_law_word"] ds) m := by
  rintro ds m Q PX ⟨n, rfl, hn, h⟩
  have l10 : Str.length "0123456789" ≤ sizeLine := by decide
  walk_at "dl"
  refine ⟨by decide, ?_⟩
  walk_at "dl"
  refine ⟨l10, ?_⟩
  obtain ⟨c, e1, e2⟩ := tens_at ((n : Int) % 10) (Int.emod_nonneg _ (by decide)) (Int.emod_lt_of_pos _ (by decide))
  rw [e1]
  walk_at "dl"
  refine ⟨fun k δ m' => k ≤ n ∧ Nm (k : Nat) ∧ m' = m ∧ ∃ s : Str, δ = [some (.int k), some (.str s)] ∧ s.length ≤ 2000 ∧ (dig (n : Nat)).cps.toList = (if 9 < k then (dig ((k / 10 : Nat) : Int)).cps.toList else []) ++ s.cps.toList, ⟨n, Nat.le_refl _, hn, rfl, ⟨#[c]⟩, rfl, by show 1 ≤ _; decide, ?_⟩, fun k δ m' hh => ?_⟩
  · rw [← e2]
    by_cases h9 : 9 < n
    · rw [if_pos h9, dig_step n h9]
      rfl
    · rw [if_neg h9]
      have : (n : Int) % 10 = n := by omega
      rw [this]
      rfl
  · obtain ⟨hkn, hk, rfl, s, rfl, hs, es⟩ := hh
    walk_at "dl"
    cases h9 : decide ((9 : Int) < (k : Nat)) with
    | false =>
      have h9' := of_decide_eq_false h9
      rw [if_neg (by omega)] at es
      walk_at "dl"
      have : dig (n : Nat) = s := str_ext es
      rw [← this]
      exact h
    | true =>
      have h9' := of_decide_eq_true h9
      have h9n : 9 < k := by omega
      rw [if_pos h9n] at es
      have hk2 : Nm ((k / 10 : Nat) : Int) := by unfold Nm at *; have := Nat.div_le_self k 10; omega
      walk_at "dl"
      refine ⟨wide_div (b := 4) (by decide) (by decide) (by decide) (by decide), ?_⟩
      walk_at "dl"
      refine ⟨by decide, ?_⟩
      walk_at "dl"
      refine ⟨l10, ?_⟩
      have ek : ((k : Nat) : Int) / 10 = ((k / 10 : Nat) : Int) := by omega
      rw [ek]
      obtain ⟨c, e1, e2⟩ := tens_at (((k / 10 : Nat) : Int) % 10) (Int.emod_nonneg _ (by decide)) (Int.emod_lt_of_pos _ (by decide))
      rw [e1]
      walk_at "dl"
      have lc : Str.length ⟨#[c]⟩ = 1 := rfl
      have es2 : (dig (n : Nat)).cps.toList = (if 9 < k / 10 then (dig ((k / 10 / 10 : Nat) : Int)).cps.toList else []) ++ ((⟨#[c]⟩ : Str) ++ s).cps.toList := by
        rw [es, cps_app, ← e2]
        by_cases h99 : 9 < k / 10
        · rw [if_pos h99, dig_step (k / 10) h99, List.append_assoc]
          rfl
        · rw [if_neg h99]
          have : ((k / 10 : Nat) : Int) % 10 = ((k / 10 : Nat) : Int) := by omega
          rw [this]
          rfl
      have hlen : ((⟨#[c]⟩ : Str) ++ s).length ≤ 1901 := by
        have h1 := hn.len
        have h2 := congrArg List.length es2
        rw [List.length_append] at h2
        have h3 : (dig (n : Nat)).cps.toList.length = (dig (n : Nat)).length := by simp [Str.length]
        have h4 : ((⟨#[c]⟩ : Str) ++ s).cps.toList.length = ((⟨#[c]⟩ : Str) ++ s).length := by simp [Str.length]
        omega
      refine ⟨len_line (by omega), ?_⟩
      walk_at "dl"
      exact ⟨k / 10, by omega, by omega, hk2, rfl, _, rfl, by omega, es2⟩
def sp__law_figures : SpD := fun ds m P _ => ∃ n : Int, ds = [.int n] ∧ Nm n ∧ P (.str (dig n)) m
def rd__law_figures : DS :=
    sSeq (sIf (rTst (rOp oLt (rV 0) (rC (.int 0)))) (sRet (rOp oAdd (rC (.str "-")) (rCall sp__law_figures_of [] (rCons (rOp oSub (rC (.int 0)) (rV 0)) (rNil))))) (sNext))
    (sRet (rCall sp__law_figures_of [] (rCons (rV 0) (rNil))))
theorem ln__law_figures : ∀ ds m Q PX, sp__law_figures ds m Q PX → ds.length = 1 := by rintro ds m Q PX ⟨d, rfl, _⟩; rfl
theorem pu__law_figures : ∀ ds m Q PX, sp__law_figures ds m Q PX → rd__law_figures (dEnds Q PX) (dstart ["_law_number"] ds) m := by
  rintro ds m Q PX ⟨n, rfl, hn, h⟩
  walk_at "dl"
  cases h0 : decide (n < 0) with
  | true =>
    have h0' := of_decide_eq_true h0
    obtain ⟨k, rfl⟩ : ∃ k : Nat, n = -((k + 1 : Nat) : Int) := ⟨n.natAbs - 1, by omega⟩
    walk_at "dl"
    have hk : Nm ((k + 1 : Nat) : Int) := by unfold Nm at *; rw [Int.natAbs_neg] at hn; exact hn
    refine ⟨k + 1, by simp, hk, ?_⟩
    have hl := hk.len
    have e1 : Str.length "-" = 1 := by decide
    walk_at "dl"
    refine ⟨len_line (by omega), ?_⟩
    have e : dig (-((k + 1 : Nat) : Int)) = ("-" : Str) ++ dig ((k + 1 : Nat) : Int) := str_ext (by
      rw [dig_neg, cps_app]
      have : (Str.ofString "-").cps.toList = [45] := by decide
      rw [this]; rfl)
    rw [e] at h
    exact h
  | false =>
    have h0' := of_decide_eq_false h0
    obtain ⟨k, rfl⟩ : ∃ k : Nat, n = (k : Int) := ⟨n.natAbs, by omega⟩
    walk_at "dl"
    exact ⟨k, rfl, hn, h⟩
/-! ### a look as it is written, word by word -/
abbrev sp__law_text : Nat → SpD := sp_look_text
def rd__law_text (self : SpD) : DS :=
    sSeq (sSet 1 (rOp oIx (rV 0) (rC (.int 0))))
    (sSeq (sSet 2 (rLc (iAny (rCB cLst (rCons (rSl (rV 0) (rPart (rC (.int 1))) rNoP) (rNil)))) [3] (gN 3) (rTru (rCB cIsi (rCons (rV 3) (rCons (rC (.ty "int")) (rNil))))) (rCall sp__law_figures [] (rCons (rV 3) (rNil)))))
    (sSeq (sIf (rTst (rOp oEq (rV 1) (rC (.str "but")))) (sRet (rOp oAdd (rC (.str "!")) (rCall self [] (rCons (rOp oIx (rV 0) (rC (.int 1))) (rNil))))) (sNext))
    (sSeq (sIf (rTst (rOp oEq (rV 1) (rC (.str "any")))) (sRet (rC (.str "*"))) (sNext))
    (sSeq (sIf (rTst (rOp oEq (rV 1) (rC (.str "one")))) (sRet (rOp oAdd (rOp oAdd (rC (.str "{")) (rJoin (rC (.str ",")) (rLc (iAny (rOp oIx (rV 0) (rC (.int 1)))) [3] (gN 3) (qYes) (rCall sp__law_figures [] (rCons (rV 3) (rNil)))))) (rC (.str "}")))) (sNext))
    (sSeq (sIf (rTst (rOp oEq (rV 1) (rC (.str "is")))) (sRet (rOp oIx (rV 2) (rC (.int 0)))) (sNext))
    (sSeq (sIf (rTst (rOp oEq (rV 1) (rC (.str "from")))) (sRet (rOp oAdd (rOp oIx (rV 2) (rC (.int 0))) (rC (.str "..")))) (sNext))
    (sSeq (sIf (rTst (rOp oEq (rV 1) (rC (.str "to")))) (sRet (rOp oAdd (rC (.str "..")) (rOp oIx (rV 2) (rC (.int 0))))) (sNext))
    (sRet (rOp oAdd (rOp oAdd (rOp oIx (rV 2) (rC (.int 0))) (rC (.str ".."))) (rOp oIx (rV 2) (rC (.int 1))))))))))))
theorem ln__law_text : ∀ kk ds m Q PX, sp__law_text kk ds m Q PX → ds.length = 1 := ln_look_text
def isI : D → Bool
  | .int _ => true
  | _ => false
def figD : D → D
  | .int n => .str (dig n)
  | d => d
theorem pu__law_text : ∀ kk ds m Q PX, sp__law_text (kk + 1) ds m Q PX → rd__law_text (sp__law_text kk) (dEnds Q PX) (dstart ["_law_sight", "_law_word", "_law_some", "_law_part"] ds) m := by
  rintro kk ds m Q PX ⟨l, rfl, hd, ok, h⟩
  have l2 := l_dots
  cases l with
  | any =>
    walk_at "dl"
    have hes : ∀ d ∈ ([] : List D), (∃ n, d = .int n ∧ Nm n) ∨ ∃ ts, d = .tup ts := fun d hd => by cases hd
    refine comp_fm (ds := []) isI figD (by simp) trivial (fun d hd Q q => ?_) (fun d hd hp Q q => ?_) ?_
    · rcases hes d hd with ⟨n, rfl, hn⟩ | ⟨ts, rfl⟩ <;> exact q
    · rcases hes d hd with ⟨n, rfl, hn⟩ | ⟨ts, rfl⟩
      · exact ⟨n, rfl, hn, q⟩
      · cases hp
    walk_at "dl"
    exact h
  | is n =>
    have hn : Nm n := ok.nm n (by simp [Lk.nums])
    have hl : (dig n).length ≤ 1901 := hn.len
    walk_at "dl"
    have hes : ∀ d ∈ ([.int n] : List D), (∃ n, d = .int n ∧ Nm n) ∨ ∃ ts, d = .tup ts := fun d hd => .inl ⟨n, List.mem_singleton.mp hd, hn⟩
    refine comp_fm (ds := [.int n]) isI figD (by simp) trivial (fun d hd Q q => ?_) (fun d hd hp Q q => ?_) ?_
    · rcases hes d hd with ⟨n, rfl, hn⟩ | ⟨ts, rfl⟩ <;> exact q
    · rcases hes d hd with ⟨n, rfl, hn⟩ | ⟨ts, rfl⟩
      · exact ⟨n, rfl, hn, q⟩
      · cases hp
    walk_at "dl"
    exact h
  | frm n =>
    have hn : Nm n := ok.nm n (by simp [Lk.nums])
    have hl : (dig n).length ≤ 1901 := hn.len
    walk_at "dl"
    have hes : ∀ d ∈ ([.int n] : List D), (∃ n, d = .int n ∧ Nm n) ∨ ∃ ts, d = .tup ts := fun d hd => .inl ⟨n, List.mem_singleton.mp hd, hn⟩
    refine comp_fm (ds := [.int n]) isI figD (by simp) trivial (fun d hd Q q => ?_) (fun d hd hp Q q => ?_) ?_
    · rcases hes d hd with ⟨n, rfl, hn⟩ | ⟨ts, rfl⟩ <;> exact q
    · rcases hes d hd with ⟨n, rfl, hn⟩ | ⟨ts, rfl⟩
      · exact ⟨n, rfl, hn, q⟩
      · cases hp
    walk_at "dl"
    exact ⟨len_line (by omega), h⟩
  | upto n =>
    have hn : Nm n := ok.nm n (by simp [Lk.nums])
    have hl : (dig n).length ≤ 1901 := hn.len
    walk_at "dl"
    have hes : ∀ d ∈ ([.int n] : List D), (∃ n, d = .int n ∧ Nm n) ∨ ∃ ts, d = .tup ts := fun d hd => .inl ⟨n, List.mem_singleton.mp hd, hn⟩
    refine comp_fm (ds := [.int n]) isI figD (by simp) trivial (fun d hd Q q => ?_) (fun d hd hp Q q => ?_) ?_
    · rcases hes d hd with ⟨n, rfl, hn⟩ | ⟨ts, rfl⟩ <;> exact q
    · rcases hes d hd with ⟨n, rfl, hn⟩ | ⟨ts, rfl⟩
      · exact ⟨n, rfl, hn, q⟩
      · cases hp
    walk_at "dl"
    exact ⟨len_line (by omega), h⟩
  | inn a b =>
    have hn : Nm a := ok.nm a (by simp [Lk.nums])
    have hl : (dig a).length ≤ 1901 := hn.len
    have hb : Nm b := ok.nm b (by simp [Lk.nums])
    have hlb : (dig b).length ≤ 1901 := hb.len
    walk_at "dl"
    have hes : ∀ d ∈ ([.int a, .int b] : List D), (∃ n, d = .int n ∧ Nm n) ∨ ∃ ts, d = .tup ts := fun d hd => by
      simp only [List.mem_cons, List.not_mem_nil, or_false] at hd
      rcases hd with rfl | rfl
      · exact .inl ⟨a, rfl, hn⟩
      · exact .inl ⟨b, rfl, hb⟩
    refine comp_fm (ds := [.int a, .int b]) isI figD (by simp) trivial (fun d hd Q q => ?_) (fun d hd hp Q q => ?_) ?_
    · rcases hes d hd with ⟨n, rfl, hn⟩ | ⟨ts, rfl⟩ <;> exact q
    · rcases hes d hd with ⟨n, rfl, hn⟩ | ⟨ts, rfl⟩
      · exact ⟨n, rfl, hn, q⟩
      · cases hp
    walk_at "dl"
    refine ⟨len_line (by omega), ?_⟩
    walk_at "dl"
    exact ⟨len_line (by rw [PySem.Str.length_append]; omega), h⟩
  | one ns =>
    walk_at "dl"
    have hes : ∀ d ∈ ([.tup (ns.map .int)] : List D), (∃ n, d = .int n ∧ Nm n) ∨ ∃ ts, d = .tup ts := fun d hd => .inr ⟨_, List.mem_singleton.mp hd⟩
    refine comp_fm (ds := [.tup (ns.map .int)]) isI figD (by simp) trivial (fun d hd Q q => ?_) (fun d hd hp Q q => ?_) ?_
    · rcases hes d hd with ⟨n, rfl, hn⟩ | ⟨ts, rfl⟩ <;> exact q
    · rcases hes d hd with ⟨n, rfl, hn⟩ | ⟨ts, rfl⟩
      · exact ⟨n, rfl, hn, q⟩
      · cases hp
    walk_at "dl"
    refine comp_map figD (by rw [List.length_map]; exact Nat.le_trans ok.few (by decide)) trivial (fun d hd Q q => ?_) ?_
    · obtain ⟨n, hn, rfl⟩ := List.mem_map.mp hd
      exact ⟨n, rfl, ok.nm n hn, q⟩
    · rw [List.map_map]
      walk_at "dl"
      show (match textsD (ns.map fun n => D.str (dig n)) with | some ys => _ | none => False)
      rw [textsD_strs]
      walk_at "dl"
      have hs := Lk.dig_sum (ns := ns) (fun n hn => ok.nm n hn) ok.few
      have hj := join_len "," (ns.map dig)
      have e1 : Str.length "{" = 1 := by decide
      have e2 : Str.length "}" = 1 := by decide
      refine ⟨Nat.le_trans hs (by decide), ?_⟩
      walk_at "dl"
      refine ⟨len_line (by omega), ?_⟩
      walk_at "dl"
      exact ⟨len_line (by rw [PySem.Str.length_append]; omega), h⟩
  | but l =>
    have htup : ∃ ts, l.d = .tup ts := by cases l <;> exact ⟨_, rfl⟩
    walk_at "dl"
    have hes : ∀ d ∈ ([l.d] : List D), (∃ n, d = .int n ∧ Nm n) ∨ ∃ ts, d = .tup ts := fun d hd => .inr (by rw [List.mem_singleton.mp hd]; exact htup)
    refine comp_fm (ds := [l.d]) isI figD (by simp) trivial (fun d hd Q q => ?_) (fun d hd hp Q q => ?_) ?_
    · rcases hes d hd with ⟨n, rfl, hn⟩ | ⟨ts, rfl⟩ <;> exact q
    · rcases hes d hd with ⟨n, rfl, hn⟩ | ⟨ts, rfl⟩
      · exact ⟨n, rfl, hn, q⟩
      · cases hp
    walk_at "dl"
    have hdp : l.dep ≤ kk := by have : l.dep + 1 ≤ kk + 1 := hd; omega
    cases kk with
    | zero => cases l <;> simp [Lk.dep] at hdp
    | succ k =>
      have okl : l.Ok := ok.but
      have hdp2 := okl.dp
      refine ⟨l, rfl, hdp, okl, ?_⟩
      walk_at "dl"
      have hl := l.text_len okl
      have e1 : Str.length "!" = 1 := by decide
      exact ⟨len_line (by omega), h⟩
end DL

namespace Lw
open PySem L2 DL
def top (i : Nat) : Stmt := PySem.Challenge.pw_stoodin_k05_looks_written.main.body.getD i (.Pass ⟨0, 0, 0, 0⟩)
abbrev s_look_text : Stmt := top 1
abbrev N_look_text : List Str := ["look", "first", "some", "word", "rest", "number"]
abbrev s__law_cell_at : Stmt := top 3
abbrev N__law_cell_at : List Str := ["_law_script", "_law_k"]
abbrev s__law_well : Stmt := top 4
abbrev N__law_well : List Str := ["_law_cell"]
abbrev s__law_draw : Stmt := top 5
abbrev N__law_draw : List Str := ["_law_well_here", "_law_many", "_law_number", "_law_digit"]
abbrev s__law_one : Stmt := top 6
abbrev N__law_one : List Str := ["_law_well_here", "_law_some"]
abbrev s__law_mids : Stmt := top 7
abbrev N__law_mids : List Str := ["_law_well_here", "_law_base", "_law_k"]
abbrev s__law_near : Stmt := top 8
abbrev N__law_near : List Str := ["_law_well_here", "_law_mids_here"]
abbrev s__law_unlike : Stmt := top 9
abbrev N__law_unlike : List Str := ["_law_some", "_law_k", "_law_one_here"]
abbrev s__law_look : Stmt := top 10
abbrev N__law_look : List Str := ["_law_well_here", "_law_mids_here", "_law_way", "_law_low", "_law_some", "_law_k"]
abbrev s__law_figures : Stmt := top 12
abbrev N__law_figures : List Str := ["_law_number"]
abbrev s__law_figures_of : Stmt := top 13
abbrev N__law_figures_of : List Str := ["_law_number", "_law_word"]
abbrev s__law_text : Stmt := top 14
abbrev N__law_text : List Str := ["_law_sight", "_law_word", "_law_some", "_law_part"]
abbrev s_law : Stmt := top 15
abbrev N_law : List Str := ["_law_script", "_law_seen", "_law_cell", "_law_well_here", "_law_sight", "_law_told", "_law_other"]
def rd_law : DS :=
    sSeq (sSet 1 (rLstM (rNil)))
    (sSeq (sFor (iAny (rOp oAdd (rLst (rCons (rCall sp__law_cell_at [] (rCons (rV 0) (rCons (rC (.int 0)) (rNil)))) (rNil))) (rSl (rV 0) (rPart (rC (.int 1))) (rPart (rC (.int 13)))))) (gN 2) (sSeq (sSet 3 (rCall sp__law_well [] (rCons (rV 2) (rNil))))
    (sSeq (sSet 4 (rCall sp__law_look [] (rCons (rV 3) (rCons (rCall sp__law_mids [] (rCons (rV 3) (rNil))) (rNil)))))
    (sSeq (sSet 5 (rCall (sp_look_text 2) [] (rCons (rV 4) (rNil))))
    (sSeq (sIf (rOr (rNot (rTru (rCB cIsi (rCons (rV 5) (rCons (rC (.ty "str")) (rNil)))))) (rOr (rTst (rOp oNe (rV 5) (rCall (sp__law_text 2) [] (rCons (rV 4) (rNil))))) (rTst (rOp oNe (rCallK (sp_look_text 2) 0 1 (gI [0]) rNil (rCons (rV 4) (rNil))) (rV 5))))) (sRet (rC (.bl false))) (sNext))
    (sSeq (sFor (iAny (rV 1)) (gN 6) (sIf (rTst (rOp oNe (rOp oEq (rCall (sp_look_text 2) [] (rCons (rV 6) (rNil))) (rV 5)) (rOp oEq (rV 6) (rV 4)))) (sRet (rC (.bl false))) (sNext)))
    (sExpr (rApp (rV 1) (rV 4)))))))))
    (sRet (rC (.bl true))))
/-- what the top has left -/
structure Tx (K : PySem.W.Frag) (mg : Str → Option Value) : Prop where
  f_look_text : FunAt K mg "look_text" "look_text" s_look_text
  f__law_cell_at : FunAt K mg "_law_cell_at" "_law_cell_at" s__law_cell_at
  f__law_well : FunAt K mg "_law_well" "_law_well" s__law_well
  f__law_draw : FunAt K mg "_law_draw" "_law_draw" s__law_draw
  f__law_one : FunAt K mg "_law_one" "_law_one" s__law_one
  f__law_mids : FunAt K mg "_law_mids" "_law_mids" s__law_mids
  f__law_near : FunAt K mg "_law_near" "_law_near" s__law_near
  f__law_unlike : FunAt K mg "_law_unlike" "_law_unlike" s__law_unlike
  f__law_look : FunAt K mg "_law_look" "_law_look" s__law_look
  f__law_figures : FunAt K mg "_law_figures" "_law_figures" s__law_figures
  f__law_figures_of : FunAt K mg "_law_figures_of" "_law_figures_of" s__law_figures_of
  f__law_text : FunAt K mg "_law_text" "_law_text" s__law_text
  f_law : FunAt K mg "law" "law" s_law
  b_enumerate : mg "enumerate" = none
  b_int : mg "int" = none
  b_isinstance : mg "isinstance" = none
  b_len : mg "len" = none
  b_list : mg "list" = none
  b_range : mg "range" = none
  b_str : mg "str" = none
  b_tuple : mg "tuple" = none
theorem bb_enumerate : bootBuiltins "enumerate" = some (.type "enumerate") := by decide +kernel
theorem bb_int : bootBuiltins "int" = some (.type "int") := by decide +kernel
theorem bb_isinstance : bootBuiltins "isinstance" = some (.builtin "isinstance") := by decide +kernel
theorem bb_len : bootBuiltins "len" = some (.builtin "len") := by decide +kernel
theorem bb_list : bootBuiltins "list" = some (.type "list") := by decide +kernel
theorem bb_range : bootBuiltins "range" = some (.type "range") := by decide +kernel
theorem bb_str : bootBuiltins "str" = some (.type "str") := by decide +kernel
theorem bb_tuple : bootBuiltins "tuple" = some (.type "tuple") := by decide +kernel
theorem sc_look_text : FnScope N_look_text ["look"] (defScope s_look_text) := ⟨rfl, rfl, rfl, by decide +kernel, rfl, by decide +kernel, by decide +kernel⟩
theorem bi_look_text : BindAll "look_text" "look_text" s_look_text ["look"] := fun _ _ _ _ _ _ us hl => match us, hl with | [_], _ => rfl
theorem sc__law_cell_at : FnScope N__law_cell_at ["_law_script", "_law_k"] (defScope s__law_cell_at) := ⟨rfl, rfl, rfl, by decide +kernel, rfl, by decide +kernel, by decide +kernel⟩
theorem bi__law_cell_at : BindAll "_law_cell_at" "_law_cell_at" s__law_cell_at ["_law_script", "_law_k"] := fun _ _ _ _ _ _ us hl => match us, hl with | [_, _], _ => rfl
theorem sc__law_well : FnScope N__law_well ["_law_cell"] (defScope s__law_well) := ⟨rfl, rfl, rfl, by decide +kernel, rfl, by decide +kernel, by decide +kernel⟩
theorem bi__law_well : BindAll "_law_well" "_law_well" s__law_well ["_law_cell"] := fun _ _ _ _ _ _ us hl => match us, hl with | [_], _ => rfl
theorem sc__law_draw : FnScope N__law_draw ["_law_well_here", "_law_many"] (defScope s__law_draw) := ⟨rfl, rfl, rfl, by decide +kernel, rfl, by decide +kernel, by decide +kernel⟩
theorem bi__law_draw : BindAll "_law_draw" "_law_draw" s__law_draw ["_law_well_here", "_law_many"] := fun _ _ _ _ _ _ us hl => match us, hl with | [_, _], _ => rfl
theorem sc__law_one : FnScope N__law_one ["_law_well_here", "_law_some"] (defScope s__law_one) := ⟨rfl, rfl, rfl, by decide +kernel, rfl, by decide +kernel, by decide +kernel⟩
theorem bi__law_one : BindAll "_law_one" "_law_one" s__law_one ["_law_well_here", "_law_some"] := fun _ _ _ _ _ _ us hl => match us, hl with | [_, _], _ => rfl
theorem sc__law_mids : FnScope N__law_mids ["_law_well_here"] (defScope s__law_mids) := ⟨rfl, rfl, rfl, by decide +kernel, rfl, by decide +kernel, by decide +kernel⟩
theorem bi__law_mids : BindAll "_law_mids" "_law_mids" s__law_mids ["_law_well_here"] := fun _ _ _ _ _ _ us hl => match us, hl with | [_], _ => rfl
theorem sc__law_near : FnScope N__law_near ["_law_well_here", "_law_mids_here"] (defScope s__law_near) := ⟨rfl, rfl, rfl, by decide +kernel, rfl, by decide +kernel, by decide +kernel⟩
theorem bi__law_near : BindAll "_law_near" "_law_near" s__law_near ["_law_well_here", "_law_mids_here"] := fun _ _ _ _ _ _ us hl => match us, hl with | [_, _], _ => rfl
theorem sc__law_unlike : FnScope N__law_unlike ["_law_some"] (defScope s__law_unlike) := ⟨rfl, rfl, rfl, by decide +kernel, rfl, by decide +kernel, by decide +kernel⟩
theorem bi__law_unlike : BindAll "_law_unlike" "_law_unlike" s__law_unlike ["_law_some"] := fun _ _ _ _ _ _ us hl => match us, hl with | [_], _ => rfl
theorem sc__law_look : FnScope N__law_look ["_law_well_here", "_law_mids_here"] (defScope s__law_look) := ⟨rfl, rfl, rfl, by decide +kernel, rfl, by decide +kernel, by decide +kernel⟩
theorem bi__law_look : BindAll "_law_look" "_law_look" s__law_look ["_law_well_here", "_law_mids_here"] := fun _ _ _ _ _ _ us hl => match us, hl with | [_, _], _ => rfl
theorem sc__law_figures : FnScope N__law_figures ["_law_number"] (defScope s__law_figures) := ⟨rfl, rfl, rfl, by decide +kernel, rfl, by decide +kernel, by decide +kernel⟩
theorem bi__law_figures : BindAll "_law_figures" "_law_figures" s__law_figures ["_law_number"] := fun _ _ _ _ _ _ us hl => match us, hl with | [_], _ => rfl
theorem sc__law_figures_of : FnScope N__law_figures_of ["_law_number"] (defScope s__law_figures_of) := ⟨rfl, rfl, rfl, by decide +kernel, rfl, by decide +kernel, by decide +kernel⟩
theorem bi__law_figures_of : BindAll "_law_figures_of" "_law_figures_of" s__law_figures_of ["_law_number"] := fun _ _ _ _ _ _ us hl => match us, hl with | [_], _ => rfl
theorem sc__law_text : FnScope N__law_text ["_law_sight"] (defScope s__law_text) := ⟨rfl, rfl, rfl, by decide +kernel, rfl, by decide +kernel, by decide +kernel⟩
theorem bi__law_text : BindAll "_law_text" "_law_text" s__law_text ["_law_sight"] := fun _ _ _ _ _ _ us hl => match us, hl with | [_], _ => rfl
theorem sc_law : FnScope N_law ["_law_script"] (defScope s_law) := ⟨rfl, rfl, rfl, by decide +kernel, rfl, by decide +kernel, by decide +kernel⟩
theorem bi_law : BindAll "law" "law" s_law ["_law_script"] := fun _ _ _ _ _ _ us hl => match us, hl with | [_], _ => rfl
theorem bk_look_text_0 : BindKw "look_text" "look_text" s_look_text ["look"] 0 ["look"] [0] := fun _ _ _ _ _ _ us ws h1 h2 => match us, ws, h1, h2 with | [], [_], _, _ => rfl
local macro_rules | `(tactic| walk_at "dl") => `(tactic| ((conv => whnf); try dsimp only))
theorem flat_lk (k l : Lk) : flatEq k.d l.d = none := by cases k <;> rfl
theorem deq_text (k l : Lk) : deq k.d l.d = decide (k.text = l.text) := by
  rw [Bool.eq_iff_iff, deq_iff k.pur l.pur, decide_eq_true_eq]
  exact ⟨fun e => by rw [Lk.d_inj e], fun e => by rw [Lk.text_inj k l (by rw [e])]⟩
theorem ln_law : ∀ ds m Q PX, spLaw ds m Q PX → ds.length = 1 := by rintro ds m Q PX ⟨d, rfl, _⟩; rfl
theorem pu_law : ∀ ds m Q PX, spLaw ds m Q PX → rd_law (dEnds Q PX) (dstart N_law ds) m := by
  rintro ds m Q PX ⟨ns, rfl, hn, h⟩
  walk_at "dl"
  refine ⟨Nat.zero_le _, fun q hq => ?_⟩
  walk_at "dl"
  refine ⟨ns, 0, rfl, fun c0 => ?_⟩
  refine ⟨len_line (by simp), ?_⟩
  walk_at "dl"
  have hcut : (cutD (ns.map .int) (some 1) (some 13)).length ≤ 63 := by
    unfold cutD
    rw [List.length_take, List.length_drop, List.length_map]
    omega
  refine ⟨len_line (by simp only [List.length_cons, List.length_nil]; omega), ?_⟩
  have hint : ∀ d ∈ [D.int c0] ++ cutD (ns.map .int) (some 1) (some 13), ∃ c, d = .int c := by
    intro d hd
    rcases List.mem_append.mp hd with hd | hd
    · exact ⟨c0, List.mem_singleton.mp hd⟩
    · unfold cutD at hd
      obtain ⟨c, _, rfl⟩ := List.mem_map.mp (List.mem_of_mem_drop (List.mem_of_mem_take hd))
      exact ⟨c, rfl⟩
  refine loop_inv (fun i δ m' => ∃ a2 a3 a4 a5 a6, δ = [some (.lst (ns.map .int)), some (.adr q), a2, a3, a4, a5, a6] ∧ ∃ ls : List Lk, m' q = some (.lst (ls.map Lk.d)) ∧ ls.length = i ∧ ∀ l ∈ ls, l.Good 142) (fun i d δ m' e hh => ?_) (fun δ m' hh => ⟨trivial, h _⟩) ⟨none, none, none, none, none, rfl, [], mset_same, rfl, fun _ z => by cases z⟩
  obtain ⟨a2, a3, a4, a5, a6, rfl, ls, eq, hll, hls⟩ := hh
  obtain ⟨c, rfl⟩ := hint d (List.mem_of_getElem? e)
  have hi : i < 64 := by
    have := (List.getElem?_eq_some_iff.mp e).1
    rw [List.length_append, List.length_singleton] at this
    omega
  refine ⟨trivial, fun Nx k1 => ?_⟩
  walk_at "dl"
  refine ⟨c, rfl, fun w m1 hw kp1 w1 => ?_⟩
  have hqw : q ≠ w := fun z => by rw [z, hw] at eq; cases eq
  walk_at "dl"
  refine ⟨w, rfl, _, w1, by decide, fun d m2 hd kp2 w2 => ?_⟩
  obtain ⟨ms, rfl, hml, hmb⟩ := hd
  walk_at "dl"
  refine ⟨w, ms, rfl, by omega, by omega, hmb, _, w2, by decide, fun d m3 hd kp3 w3 => ?_⟩
  obtain ⟨l, gl, rfl⟩ := hd
  have eq3 : m3 q = some (.lst (ls.map Lk.d)) := kp3 q _ (by simpa using hqw) (kp2 q _ (by simpa using hqw) (kp1 q _ (by simp) eq))
  walk_at "dl"
  refine ⟨l, rfl, gl.dp, gl.ok, ?_⟩
  walk_at "dl"
  refine ⟨l, rfl, gl.dp, gl.ok, ?_⟩
  walk_at "dl"
  rw [decide_eq_true (rfl : l.text = l.text)]
  walk_at "dl"
  refine ⟨rfl, rfl, l, rfl, gl.dp, gl.ok, ?_⟩
  walk_at "dl"
  rw [decide_eq_true (rfl : l.text = l.text)]
  walk_at "dl"
  rw [eq3]
  walk_at "dl"
  refine loop_inv (fun j δ m' => m' = m3 ∧ ∃ a6, δ = [some (.lst (ns.map .int)), some (.adr q), some (.int c), some (.adr w), some l.d, some (.str l.text), a6]) (fun j d δ m' e hh => ?_) (fun δ m' hh => ?_) ⟨rfl, a6, rfl⟩
  · obtain ⟨rfl, a6, rfl⟩ := hh
    obtain ⟨k, hk, rfl⟩ := List.mem_map.mp (List.mem_of_getElem? e)
    have gk := hls k hk
    refine ⟨eq3, fun Nx k1 => ?_⟩
    walk_at "dl"
    refine ⟨k, rfl, gk.dp, gk.ok, ?_⟩
    walk_at "dl"
    rw [flat_lk]
    refine ⟨by rw [dat_pur k.pur]; exact shp_of (k.fit 3 (by have := gk.dp; omega)), by rw [dat_pur l.pur]; exact shp_of (l.fit 3 (by have := gl.dp; omega)), ?_⟩
    rw [dat_pur k.pur, dat_pur l.pur, deq_text k l]
    cases hb : decide (k.text = l.text) <;> exact k1 _ _ ⟨rfl, _, rfl⟩
  · obtain ⟨rfl, a6, rfl⟩ := hh
    refine ⟨eq3, ?_⟩
    walk_at "dl"
    refine ⟨⟨_, eq3⟩, ?_⟩
    walk_at "dl"
    rw [eq3]
    refine ⟨by rw [List.length_map, hll]; exact Nat.lt_of_lt_of_le hi (by decide), ?_⟩
    refine k1 _ _ ⟨_, _, _, _, _, rfl, ls ++ [l], by rw [mset_same, List.map_append]; rfl, by rw [List.length_append, hll]; rfl, fun k hk => ?_⟩
    rcases List.mem_append.mp hk with hk | hk
    · exact hls k hk
    · rw [List.mem_singleton.mp hk]; exact gl
section
variable {P : Program} {w : World} {K : PySem.W.Frag} {mg : Str → Option Value} {base : Heap}
theorem ok_look_text (T : Tx K mg) : ∀ kk : Nat, DefOk P w K mg base (0 + kk) "look_text" "look_text" s_look_text ["look"] (sp_look_text kk)
  | 0 => def_no _ T.f_look_text (fun _ _ _ _ h => h)
  | kk + 1 => by
    have G_look_text := ok_look_text T kk
    refine def_ok (k := 0 + kk) (r := rd_look_text (sp_look_text kk)) T.f_look_text sc_look_text (ln_look_text (kk + 1)) (fun f cdv A outer s H E hr => ?_) (pu_look_text kk)
    have tk : Takes (cxOf (L2.CX P w) P w K mg base N_look_text "look_text" (defScope s_look_text) f cdv A outer s H E) (fun c d _ H => E c d H) := takes_of rfl rfl rfl rfl
    exact dss_cons (ds_star rfl (pd_v 0) (pg_name (i := 3) sc_look_text.nd rfl (by first | exact Or.inl rfl | exact Or.inr rfl)) (pg_name (i := 4) sc_look_text.nd rfl (by first | exact Or.inl rfl | exact Or.inr rfl)))
      (dss_cons (ds_if (dt_eq hr.units (pd_v 3) (pd_str)) (dss_one (ds_ret (pd_add (pd_str) (pd_callD G_look_text bi_look_text (hr.mono (by omega)) tk (da_cons (pd_ix (pd_v 4) (pd_int)) (da_nil)))))) (dss_nil))
      (dss_cons (ds_if (dt_eq hr.units (pd_v 3) (pd_str)) (dss_one (ds_ret (pd_str))) (dss_nil))
      (dss_cons (ds_if (dt_eq hr.units (pd_v 3) (pd_str)) (dss_one (ds_ret (pd_add (pd_add (pd_str) (pd_join (pd_str) (pd_lc rfl sc_look_text.nd (di_any (pd_ix (pd_v 4) (pd_int))) (blkOk_by (own := [("number", 5)]) (N := N_look_text) (sc := defScope s_look_text) (by decide +kernel)) (gN_ok) rfl (fun _ _ _ _ _ => pg_name (i := 5) sc_look_text.nd rfl (by first | exact Or.inl rfl | exact Or.inr rfl)) (fun _ _ _ _ _ => dts_nil) (fun _ _ _ _ _ => pd_strOf T.b_str bb_str (da_cons (pd_v 5) (da_nil)))))) (pd_str)))) (dss_nil))
      (dss_cons (ds_set (i := 1) sc_look_text.nd (pd_strOf T.b_str bb_str (da_cons (pd_ix (pd_v 4) (pd_int)) (da_nil))))
      (dss_cons (ds_set (i := 2) sc_look_text.nd (pd_dctN (dps_cons (pd_str) (pd_v 1) (dps_cons (pd_str) (pd_add (pd_v 1) (pd_str)) (dps_cons (pd_str) (pd_add (pd_str) (pd_v 1)) (dps_cons (pd_str) (pd_add (pd_add (pd_v 1) (pd_str)) (pd_strOf T.b_str bb_str (da_cons (pd_ix (pd_v 4) (pd_neg (pd_int))) (da_nil)))) (dps_nil)))))))
      (dss_one (ds_ret (pd_dget (units1 hr) (pd_v 2) (pd_v 3)))))))))
theorem ok__law_cell_at (T : Tx K mg) : DefOk P w K mg base 1 "_law_cell_at" "_law_cell_at" s__law_cell_at ["_law_script", "_law_k"] sp__law_cell_at := by
  refine def_ok (r := rd__law_cell_at) T.f__law_cell_at sc__law_cell_at ln__law_cell_at (fun f cdv A outer s H E hr => ?_) pu__law_cell_at
  have tk : Takes (cxOf (L2.CX P w) P w K mg base N__law_cell_at "_law_cell_at" (defScope s__law_cell_at) f cdv A outer s H E) (fun c d _ H => E c d H) := takes_of rfl rfl rfl rfl
  exact dss_cons (ds_if (dt_lt (pd_v 1) (pd_len T.b_len bb_len (da_cons (pd_v 0) (da_nil)))) (dss_one (ds_ret (pd_ix (pd_v 0) (pd_v 1)))) (dss_nil))
    (dss_one (ds_ret (pd_int)))
theorem ok__law_well (T : Tx K mg) : DefOk P w K mg base 1 "_law_well" "_law_well" s__law_well ["_law_cell"] sp__law_well := by
  refine def_ok (r := rd__law_well) T.f__law_well sc__law_well ln__law_well (fun f cdv A outer s H E hr => ?_) pu__law_well
  have tk : Takes (cxOf (L2.CX P w) P w K mg base N__law_well "_law_well" (defScope s__law_well) f cdv A outer s H E) (fun c d _ H => E c d H) := takes_of rfl rfl rfl rfl
  exact dss_one (ds_ret (pd_lstM (da_cons (pd_ix (pd_lst (da_cons (pd_int) (da_cons (pd_v 0) (da_nil)))) (pd_intOf T.b_int bb_int (da_cons (pd_ge (pd_v 0) (pd_pow (pd_int) (pd_int))) (da_nil)))) (da_cons (pd_mod (pd_intOf T.b_int bb_int (da_cons (pd_v 0) (da_nil))) (pd_int)) (da_cons (pd_int) (da_nil))))))
theorem ok__law_draw (T : Tx K mg) : DefOk P w K mg base 1 "_law_draw" "_law_draw" s__law_draw ["_law_well_here", "_law_many"] sp__law_draw := by
  refine def_ok (r := rd__law_draw) T.f__law_draw sc__law_draw ln__law_draw (fun f cdv A outer s H E hr => ?_) pu__law_draw
  have tk : Takes (cxOf (L2.CX P w) P w K mg base N__law_draw "_law_draw" (defScope s__law_draw) f cdv A outer s H E) (fun c d _ H => E c d H) := takes_of rfl rfl rfl rfl
  exact dss_cons (ds_if (dt_gt (pd_ix (pd_v 0) (pd_int)) (pd_int)) (dss_cons (ds_set (i := 3) sc__law_draw.nd (pd_mod (pd_intOf T.b_int bb_int (da_cons (pd_ix (pd_v 0) (pd_int)) (da_nil))) (pd_v 1)))
    (dss_cons (ds_setIx (pd_div (pd_ix (pd_v 0) (pd_int)) (pd_v 1)) (pd_v 0) (pd_int))
    (dss_one (ds_ret (pd_v 3))))) (dss_nil))
    (dss_cons (ds_setIx (pd_add (pd_ix (pd_v 0) (pd_int)) (pd_int)) (pd_v 0) (pd_int))
    (dss_cons (ds_set (i := 2) sc__law_draw.nd (pd_mod (pd_intOf T.b_int bb_int (da_cons (pd_pow (pd_add (pd_add (pd_ix (pd_v 0) (pd_int)) (pd_mul (pd_int) (pd_ix (pd_v 0) (pd_int)))) (pd_int)) (pd_int)) (da_nil))) (pd_int)))
    (dss_cons (ds_set (i := 2) sc__law_draw.nd (pd_mod (pd_intOf T.b_int bb_int (da_cons (pd_mul (pd_v 2) (pd_add (pd_add (pd_div (pd_v 2) (pd_int)) (pd_int)) (pd_ix (pd_v 0) (pd_int)))) (da_nil))) (pd_int)))
    (dss_one (ds_ret (pd_mod (pd_intOf T.b_int bb_int (da_cons (pd_mod (pd_intOf T.b_int bb_int (da_cons (pd_mul (pd_v 2) (pd_add (pd_div (pd_v 2) (pd_int)) (pd_int))) (da_nil))) (pd_int)) (da_nil))) (pd_v 1)))))))
theorem ok__law_one (T : Tx K mg) (G__law_draw : DefOk P w K mg base 1 "_law_draw" "_law_draw" s__law_draw ["_law_well_here", "_law_many"] sp__law_draw) : DefOk P w K mg base 2 "_law_one" "_law_one" s__law_one ["_law_well_here", "_law_some"] sp__law_one := by
  refine def_ok (r := rd__law_one) T.f__law_one sc__law_one ln__law_one (fun f cdv A outer s H E hr => ?_) pu__law_one
  have tk : Takes (cxOf (L2.CX P w) P w K mg base N__law_one "_law_one" (defScope s__law_one) f cdv A outer s H E) (fun c d _ H => E c d H) := takes_of rfl rfl rfl rfl
  exact dss_one (ds_ret (pd_ix (pd_v 1) (pd_callD G__law_draw bi__law_draw (hr.mono (by decide)) tk (da_cons (pd_v 0) (da_cons (pd_len T.b_len bb_len (da_cons (pd_v 1) (da_nil))) (da_nil))))))
theorem ok__law_mids (T : Tx K mg) (G__law_draw : DefOk P w K mg base 1 "_law_draw" "_law_draw" s__law_draw ["_law_well_here", "_law_many"] sp__law_draw) : DefOk P w K mg base 2 "_law_mids" "_law_mids" s__law_mids ["_law_well_here"] sp__law_mids := by
  refine def_ok (r := rd__law_mids) T.f__law_mids sc__law_mids ln__law_mids (fun f cdv A outer s H E hr => ?_) pu__law_mids
  have tk : Takes (cxOf (L2.CX P w) P w K mg base N__law_mids "_law_mids" (defScope s__law_mids) f cdv A outer s H E) (fun c d _ H => E c d H) := takes_of rfl rfl rfl rfl
  exact dss_cons (ds_set (i := 1) sc__law_mids.nd (pd_ix (pd_lst (da_cons (pd_sub (pd_callD G__law_draw bi__law_draw (hr.mono (by decide)) tk (da_cons (pd_v 0) (da_cons (pd_int) (da_nil)))) (pd_int)) (da_cons (pd_sub (pd_callD G__law_draw bi__law_draw (hr.mono (by decide)) tk (da_cons (pd_v 0) (da_cons (pd_mul (pd_int) (pd_pow (pd_int) (pd_int))) (da_nil)))) (pd_pow (pd_int) (pd_int))) (da_nil)))) (pd_callD G__law_draw bi__law_draw (hr.mono (by decide)) tk (da_cons (pd_v 0) (da_cons (pd_int) (da_nil))))))
    (dss_one (ds_ret (pd_lc rfl sc__law_mids.nd (di_range T.b_range (da_cons (pd_int) (da_nil))) (blkOk_by (own := [("_law_k", 2)]) (N := N__law_mids) (sc := defScope s__law_mids) (by decide +kernel)) (gN_ok) rfl (fun _ _ _ _ _ => pg_name (i := 2) sc__law_mids.nd rfl (by first | exact Or.inl rfl | exact Or.inr rfl)) (fun _ _ _ _ _ => dts_nil) (fun _ _ _ _ _ => pd_add (pd_v 1) (pd_callD G__law_draw bi__law_draw (hr.mono (by decide)) takes0 (da_cons (pd_v 0) (da_cons (pd_int) (da_nil))))))))
theorem ok__law_near (T : Tx K mg) (G__law_draw : DefOk P w K mg base 1 "_law_draw" "_law_draw" s__law_draw ["_law_well_here", "_law_many"] sp__law_draw) (G__law_one : DefOk P w K mg base 2 "_law_one" "_law_one" s__law_one ["_law_well_here", "_law_some"] sp__law_one) : DefOk P w K mg base 3 "_law_near" "_law_near" s__law_near ["_law_well_here", "_law_mids_here"] sp__law_near := by
  refine def_ok (r := rd__law_near) T.f__law_near sc__law_near ln__law_near (fun f cdv A outer s H E hr => ?_) pu__law_near
  have tk : Takes (cxOf (L2.CX P w) P w K mg base N__law_near "_law_near" (defScope s__law_near) f cdv A outer s H E) (fun c d _ H => E c d H) := takes_of rfl rfl rfl rfl
  exact dss_one (ds_ret (pd_sub (pd_add (pd_callD G__law_one bi__law_one (hr.mono (by decide)) tk (da_cons (pd_v 0) (da_cons (pd_v 1) (da_nil)))) (pd_callD G__law_draw bi__law_draw (hr.mono (by decide)) tk (da_cons (pd_v 0) (da_cons (pd_int) (da_nil))))) (pd_int)))
theorem ok__law_unlike (T : Tx K mg) : DefOk P w K mg base 1 "_law_unlike" "_law_unlike" s__law_unlike ["_law_some"] sp__law_unlike := by
  refine def_ok (r := rd__law_unlike) T.f__law_unlike sc__law_unlike ln__law_unlike (fun f cdv A outer s H E hr => ?_) pu__law_unlike
  have tk : Takes (cxOf (L2.CX P w) P w K mg base N__law_unlike "_law_unlike" (defScope s__law_unlike) f cdv A outer s H E) (fun c d _ H => E c d H) := takes_of rfl rfl rfl rfl
  exact dss_one (ds_ret (pd_lc rfl sc__law_unlike.nd (di_enum T.b_enumerate (da_cons (pd_v 0) (da_nil))) (blkOk_by (own := [("_law_k", 1), ("_law_one_here", 2)]) (N := N__law_unlike) (sc := defScope s__law_unlike) (by decide +kernel)) (gT_ok (js := [1, 2])) rfl (fun _ _ _ _ _ => pg_tup rfl (dgs_cons (pg_name (i := 1) sc__law_unlike.nd rfl (by first | exact Or.inl rfl | exact Or.inr rfl)) (dgs_cons (pg_name (i := 2) sc__law_unlike.nd rfl (by first | exact Or.inl rfl | exact Or.inr rfl)) (dgs_nil)))) (fun _ _ _ _ _ => dts_one (dt_notIn (units65 hr) (pd_v 2) (pd_sl (pd_v 0) dp_none (dp_some (pd_v 1))))) (fun _ _ _ _ _ => pd_v 2)))
theorem ok__law_look (T : Tx K mg) (G__law_draw : DefOk P w K mg base 1 "_law_draw" "_law_draw" s__law_draw ["_law_well_here", "_law_many"] sp__law_draw) (G__law_near : DefOk P w K mg base 3 "_law_near" "_law_near" s__law_near ["_law_well_here", "_law_mids_here"] sp__law_near) (G__law_unlike : DefOk P w K mg base 1 "_law_unlike" "_law_unlike" s__law_unlike ["_law_some"] sp__law_unlike) : DefOk P w K mg base 4 "_law_look" "_law_look" s__law_look ["_law_well_here", "_law_mids_here"] sp__law_look := by
  refine def_ok (r := rd__law_look) T.f__law_look sc__law_look ln__law_look (fun f cdv A outer s H E hr => ?_) pu__law_look
  have tk : Takes (cxOf (L2.CX P w) P w K mg base N__law_look "_law_look" (defScope s__law_look) f cdv A outer s H E) (fun c d _ H => E c d H) := takes_of rfl rfl rfl rfl
  exact dss_cons (ds_set (i := 2) sc__law_look.nd (pd_callD G__law_draw bi__law_draw (hr.mono (by decide)) tk (da_cons (pd_v 0) (da_cons (pd_int) (da_nil)))))
    (dss_cons (ds_set (i := 3) sc__law_look.nd (pd_callD G__law_near bi__law_near (hr.mono (by decide)) tk (da_cons (pd_v 0) (da_cons (pd_v 1) (da_nil)))))
    (dss_cons (ds_set (i := 4) sc__law_look.nd (pd_lstM (da_cons (pd_tup (da_cons (pd_str) (da_nil))) (da_cons (pd_tup (da_cons (pd_str) (da_cons (pd_v 3) (da_nil)))) (da_cons (pd_tup (da_cons (pd_str) (da_cons (pd_v 3) (da_nil)))) (da_cons (pd_tup (da_cons (pd_str) (da_cons (pd_v 3) (da_nil)))) (da_cons (pd_tup (da_cons (pd_str) (da_cons (pd_v 3) (da_cons (pd_sub (pd_add (pd_v 3) (pd_callD G__law_draw bi__law_draw (hr.mono (by decide)) tk (da_cons (pd_v 0) (da_cons (pd_int) (da_nil))))) (pd_int)) (da_nil))))) (da_nil))))))))
    (dss_cons (ds_expr (pd_app (pd_v 4) (pd_tup (da_cons (pd_str) (da_cons (pd_tupleOf T.b_tuple bb_tuple (da_cons (pd_callD G__law_unlike bi__law_unlike (hr.mono (by decide)) tk (da_cons (pd_lc rfl sc__law_look.nd (di_range T.b_range (da_cons (pd_callD G__law_draw bi__law_draw (hr.mono (by decide)) tk (da_cons (pd_v 0) (da_cons (pd_int) (da_nil)))) (da_nil))) (blkOk_by (own := [("_law_k", 5)]) (N := N__law_look) (sc := defScope s__law_look) (by decide +kernel)) (gN_ok) rfl (fun _ _ _ _ _ => pg_name (i := 5) sc__law_look.nd rfl (by first | exact Or.inl rfl | exact Or.inr rfl)) (fun _ _ _ _ _ => dts_nil) (fun _ _ _ _ _ => pd_callD G__law_near bi__law_near (hr.mono (by decide)) takes0 (da_cons (pd_v 0) (da_cons (pd_v 1) (da_nil))))) (da_nil))) (da_nil))) (da_nil))))))
    (dss_cons (ds_if (dt_lt (pd_v 2) (pd_int)) (dss_one (ds_ret (pd_ix (pd_v 4) (pd_v 2)))) (dss_nil))
    (dss_one (ds_ret (pd_tup (da_cons (pd_str) (da_cons (pd_ix (pd_v 4) (pd_callD G__law_draw bi__law_draw (hr.mono (by decide)) tk (da_cons (pd_v 0) (da_cons (pd_int) (da_nil))))) (da_nil))))))))))
theorem ok__law_figures (T : Tx K mg) (G__law_figures_of : DefOk P w K mg base 1 "_law_figures_of" "_law_figures_of" s__law_figures_of ["_law_number"] sp__law_figures_of) : DefOk P w K mg base 2 "_law_figures" "_law_figures" s__law_figures ["_law_number"] sp__law_figures := by
  refine def_ok (r := rd__law_figures) T.f__law_figures sc__law_figures ln__law_figures (fun f cdv A outer s H E hr => ?_) pu__law_figures
  have tk : Takes (cxOf (L2.CX P w) P w K mg base N__law_figures "_law_figures" (defScope s__law_figures) f cdv A outer s H E) (fun c d _ H => E c d H) := takes_of rfl rfl rfl rfl
  exact dss_cons (ds_if (dt_lt (pd_v 0) (pd_int)) (dss_one (ds_ret (pd_add (pd_str) (pd_callD G__law_figures_of bi__law_figures_of (hr.mono (by decide)) tk (da_cons (pd_sub (pd_int) (pd_v 0)) (da_nil)))))) (dss_nil))
    (dss_one (ds_ret (pd_callD G__law_figures_of bi__law_figures_of (hr.mono (by decide)) tk (da_cons (pd_v 0) (da_nil)))))
theorem ok__law_figures_of (T : Tx K mg) : DefOk P w K mg base 1 "_law_figures_of" "_law_figures_of" s__law_figures_of ["_law_number"] sp__law_figures_of := by
  refine def_ok (r := rd__law_figures_of) T.f__law_figures_of sc__law_figures_of ln__law_figures_of (fun f cdv A outer s H E hr => ?_) pu__law_figures_of
  have tk : Takes (cxOf (L2.CX P w) P w K mg base N__law_figures_of "_law_figures_of" (defScope s__law_figures_of) f cdv A outer s H E) (fun c d _ H => E c d H) := takes_of rfl rfl rfl rfl
  exact dss_cons (ds_set (i := 1) sc__law_figures_of.nd (pd_ix (pd_str) (pd_mod (pd_intOf T.b_int bb_int (da_cons (pd_v 0) (da_nil))) (pd_int))))
    (dss_cons (ds_while (passes_of rfl) (dt_gt (pd_v 0) (pd_int)) (dss_cons (ds_set (i := 0) sc__law_figures_of.nd (pd_div (pd_v 0) (pd_int)))
    (dss_one (ds_set (i := 1) sc__law_figures_of.nd (pd_add (pd_ix (pd_str) (pd_mod (pd_intOf T.b_int bb_int (da_cons (pd_v 0) (da_nil))) (pd_int))) (pd_v 1))))))
    (dss_one (ds_ret (pd_v 1))))
theorem ok__law_text (T : Tx K mg) (G__law_figures : DefOk P w K mg base 2 "_law_figures" "_law_figures" s__law_figures ["_law_number"] sp__law_figures) : ∀ kk : Nat, DefOk P w K mg base (2 + kk) "_law_text" "_law_text" s__law_text ["_law_sight"] (sp__law_text kk)
  | 0 => def_no _ T.f__law_text (fun _ _ _ _ h => h)
  | kk + 1 => by
    have G__law_text := ok__law_text T G__law_figures kk
    refine def_ok (k := 2 + kk) (r := rd__law_text (sp__law_text kk)) T.f__law_text sc__law_text (ln__law_text (kk + 1)) (fun f cdv A outer s H E hr => ?_) (pu__law_text kk)
    have tk : Takes (cxOf (L2.CX P w) P w K mg base N__law_text "_law_text" (defScope s__law_text) f cdv A outer s H E) (fun c d _ H => E c d H) := takes_of rfl rfl rfl rfl
    exact dss_cons (ds_set (i := 1) sc__law_text.nd (pd_ix (pd_v 0) (pd_int)))
      (dss_cons (ds_setLc (i := 2) rfl sc__law_text.nd (sw_true rfl rfl rfl (by decide +kernel)) (di_any (pd_listOf T.b_list bb_list (da_cons (pd_sl (pd_v 0) (dp_some (pd_int)) dp_none) (da_nil)))) (blkOk_by (own := [("_law_part", 3)]) (N := N__law_text) (sc := defScope s__law_text) (by decide +kernel)) (gN_ok) rfl (fun _ _ _ _ _ => pg_name (i := 3) sc__law_text.nd rfl (by first | exact Or.inl rfl | exact Or.inr rfl)) (fun _ _ _ _ _ => dts_one (dt_tru (pd_isi T.b_isinstance bb_isinstance (da_cons (pd_v 3) (da_cons (pd_ty T.b_int bb_int) (da_nil)))))) (fun _ _ _ _ _ => pd_callD G__law_figures bi__law_figures (hr.mono (by omega)) takes0 (da_cons (pd_v 3) (da_nil))))
      (dss_cons (ds_if (dt_eq hr.units (pd_v 1) (pd_str)) (dss_one (ds_ret (pd_add (pd_str) (pd_callD G__law_text bi__law_text (hr.mono (by omega)) tk (da_cons (pd_ix (pd_v 0) (pd_int)) (da_nil)))))) (dss_nil))
      (dss_cons (ds_if (dt_eq hr.units (pd_v 1) (pd_str)) (dss_one (ds_ret (pd_str))) (dss_nil))
      (dss_cons (ds_if (dt_eq hr.units (pd_v 1) (pd_str)) (dss_one (ds_ret (pd_add (pd_add (pd_str) (pd_join (pd_str) (pd_lc rfl sc__law_text.nd (di_any (pd_ix (pd_v 0) (pd_int))) (blkOk_by (own := [("_law_part", 3)]) (N := N__law_text) (sc := defScope s__law_text) (by decide +kernel)) (gN_ok) rfl (fun _ _ _ _ _ => pg_name (i := 3) sc__law_text.nd rfl (by first | exact Or.inl rfl | exact Or.inr rfl)) (fun _ _ _ _ _ => dts_nil) (fun _ _ _ _ _ => pd_callD G__law_figures bi__law_figures (hr.mono (by omega)) takes0 (da_cons (pd_v 3) (da_nil)))))) (pd_str)))) (dss_nil))
      (dss_cons (ds_if (dt_eq hr.units (pd_v 1) (pd_str)) (dss_one (ds_ret (pd_ix (pd_v 2) (pd_int)))) (dss_nil))
      (dss_cons (ds_if (dt_eq hr.units (pd_v 1) (pd_str)) (dss_one (ds_ret (pd_add (pd_ix (pd_v 2) (pd_int)) (pd_str)))) (dss_nil))
      (dss_cons (ds_if (dt_eq hr.units (pd_v 1) (pd_str)) (dss_one (ds_ret (pd_add (pd_str) (pd_ix (pd_v 2) (pd_int))))) (dss_nil))
      (dss_one (ds_ret (pd_add (pd_add (pd_ix (pd_v 2) (pd_int)) (pd_str)) (pd_ix (pd_v 2) (pd_int))))))))))))
theorem ok_law (T : Tx K mg) (G_look_text : DefOk P w K mg base 2 "look_text" "look_text" s_look_text ["look"] (sp_look_text 2)) (G__law_cell_at : DefOk P w K mg base 1 "_law_cell_at" "_law_cell_at" s__law_cell_at ["_law_script", "_law_k"] sp__law_cell_at) (G__law_well : DefOk P w K mg base 1 "_law_well" "_law_well" s__law_well ["_law_cell"] sp__law_well) (G__law_mids : DefOk P w K mg base 2 "_law_mids" "_law_mids" s__law_mids ["_law_well_here"] sp__law_mids) (G__law_look : DefOk P w K mg base 4 "_law_look" "_law_look" s__law_look ["_law_well_here", "_law_mids_here"] sp__law_look) (G__law_text : DefOk P w K mg base 4 "_law_text" "_law_text" s__law_text ["_law_sight"] (sp__law_text 2)) : DefOk P w K mg base 5 "law" "law" s_law ["_law_script"] spLaw := by
  refine def_ok (r := rd_law) T.f_law sc_law ln_law (fun f cdv A outer s H E hr => ?_) pu_law
  have tk : Takes (cxOf (L2.CX P w) P w K mg base N_law "law" (defScope s_law) f cdv A outer s H E) (fun c d _ H => E c d H) := takes_of rfl rfl rfl rfl
  exact dss_cons (ds_set (i := 1) sc_law.nd (pd_lstM (da_nil)))
    (dss_cons (ds_for (passes_of rfl) rfl (di_any (pd_add (pd_lst (da_cons (pd_callD G__law_cell_at bi__law_cell_at (hr.mono (by decide)) tk (da_cons (pd_v 0) (da_cons (pd_int) (da_nil)))) (da_nil))) (pd_sl (pd_v 0) (dp_some (pd_int)) (dp_some (pd_int))))) (pg_name (i := 2) sc_law.nd rfl (by first | exact Or.inl rfl | exact Or.inr rfl)) (gN_ok) (dss_cons (ds_set (i := 3) sc_law.nd (pd_callD G__law_well bi__law_well (hr.mono (by decide)) tk (da_cons (pd_v 2) (da_nil))))
    (dss_cons (ds_set (i := 4) sc_law.nd (pd_callD G__law_look bi__law_look (hr.mono (by decide)) tk (da_cons (pd_v 3) (da_cons (pd_callD G__law_mids bi__law_mids (hr.mono (by decide)) tk (da_cons (pd_v 3) (da_nil))) (da_nil)))))
    (dss_cons (ds_set (i := 5) sc_law.nd (pd_callD G_look_text bi_look_text (hr.mono (by decide)) tk (da_cons (pd_v 4) (da_nil))))
    (dss_cons (ds_if (PW.pt (dw_or (dt_not (dt_tru (pd_isi T.b_isinstance bb_isinstance (da_cons (pd_v 5) (da_cons (pd_ty T.b_str bb_str) (da_nil)))))) (dw_or (dt_ne hr.units (pd_v 5) (pd_callD G__law_text bi__law_text (hr.mono (by decide)) tk (da_cons (pd_v 4) (da_nil)))) (dw_or1 (dt_ne hr.units (pd_callDK0 G_look_text bk_look_text_0 (hr.mono (by decide)) tk (dk_cons (pd_v 4) (dk_nil))) (pd_v 5)))))) (dss_one (ds_ret (pd_bl))) (dss_nil))
    (dss_cons (ds_for (passes_of rfl) rfl (di_any (pd_v 1)) (pg_name (i := 6) sc_law.nd rfl (by first | exact Or.inl rfl | exact Or.inr rfl)) (gN_ok) (dss_one (ds_if (dt_ne hr.units (pd_eq hr.units (pd_callD G_look_text bi_look_text (hr.mono (by decide)) tk (da_cons (pd_v 6) (da_nil))) (pd_v 5)) (pd_eq hr.units (pd_v 6) (pd_v 4))) (dss_one (ds_ret (pd_bl))) (dss_nil))))
    (dss_one (ds_expr (pd_app (pd_v 1) (pd_v 4))))))))))
    (dss_one (ds_ret (pd_bl))))
end
theorem all_ok {l : PySem.W.OpenLaw} {w : World} {K : PySem.W.Frag} {mg : Str → Option Value} {fa : Addr} (hfa : mg "law" = some (.ref fa)) (T : Tx K mg) : ∃ fd : FuncData, (∀ (s : Shared) (u : Value), BindsTo s fd ⟨[u], []⟩ [("_law_script", u)]) ∧ ∀ base : Heap, K.In base → base.Ns mainGlobals mg → FnOk l.prog w K mg base (L2.CX l.prog w) 5 fa fd ["_law_script"] (lP K spLaw) := by
  refine law_mk bi_law T.f_law hfa fun base _ _ => ?_
  have G__law_cell_at := ok__law_cell_at (P := l.prog) (w := w) (base := base) T
  have G__law_well := ok__law_well (P := l.prog) (w := w) (base := base) T
  have G__law_draw := ok__law_draw (P := l.prog) (w := w) (base := base) T
  have G__law_unlike := ok__law_unlike (P := l.prog) (w := w) (base := base) T
  have G__law_figures_of := ok__law_figures_of (P := l.prog) (w := w) (base := base) T
  have G_look_text := ok_look_text (P := l.prog) (w := w) (base := base) T 2
  have G__law_one := ok__law_one (P := l.prog) (w := w) (base := base) T G__law_draw
  have G__law_mids := ok__law_mids (P := l.prog) (w := w) (base := base) T G__law_draw
  have G__law_figures := ok__law_figures (P := l.prog) (w := w) (base := base) T G__law_figures_of
  have G__law_near := ok__law_near (P := l.prog) (w := w) (base := base) T G__law_draw G__law_one
  have G__law_look := ok__law_look (P := l.prog) (w := w) (base := base) T G__law_draw G__law_near G__law_unlike
  have G__law_text := ok__law_text (P := l.prog) (w := w) (base := base) T G__law_figures 2
  exact ok_law T G_look_text G__law_cell_at G__law_well G__law_mids G__law_look G__law_text
theorem walk {l : PySem.W.OpenLaw} {q : Program} {loose : List Str} {XP : (Str → Option Value) → Heap → Prop} {YP : World → Heap → Prop} {d : DefRec} {K : Params → PySem.W.Frag} (hn : l.most = some 63) (hdf : d.params.defaults = []) (hY : ∀ (w : World) (h : Heap), YP w h → (K w.params).In h)
    (FF : ∀ (w : World) (mg : Str → Option Value) (fa : Addr) (h : Heap), (K w.params).In h → h.Ns mainGlobals mg → mg d.name = some (.ref fa) →
      ∃ fd : FuncData, (∀ (s : Shared) (u : Value), BindsTo s fd ⟨[u], []⟩ [("_law_script", u)]) ∧ ∀ base : Heap, (K w.params).In base → base.Ns mainGlobals mg → FnOk l.prog w (K w.params) mg base (L2.CX l.prog w) 5 fa fd ["_law_script"] (lP (K w.params) spLaw)) :
    PySem.W.WalkO q loose XP YP l.row.toRowW d [] (fun f vs => PySem.call f vs) :=
  L2.walk_of (n := 63) (k := 5) (x := "_law_script") (CX := fun w => L2.CX l.prog w) (sp := fun w => lP (K w.params) spLaw) hn (by decide) hdf ⟨rfl, by decide, by decide⟩ hY FF (fun w H a ns hl _ hS => law_sp (K w.params) H a ns hl hS) fun w H s e s' z => cx_false z
end Lw
open PySem PySem.W PyProof.Rows in
set_option maxRecDepth 100000 in
set_option maxHeartbeats 0 in
theorem PySem.Challenge.cw_stoodin_k05_looks_written_holds : PySem.Challenge.rw_stoodin_k05_looks_written.Holds := by
  w_on; o_law; k_head; (case hw => w_witness2)
  k_fill
  refine Lw.walk (l := PySem.Challenge.rw_stoodin_k05_looks_written) rfl rfl (fun w h Y => PySem.W.kIn_of Y) ?F
  case F =>
    intro w mg fa h KX G hmg
    refine' Lw.all_ok hmg (Lw.Tx.mk (DL.funAt_mk KX G ?a1 ?l1 ?c1 ?k1) (DL.funAt_mk KX G ?a2 ?l2 ?c2 ?k2) (DL.funAt_mk KX G ?a3 ?l3 ?c3 ?k3) (DL.funAt_mk KX G ?a4 ?l4 ?c4 ?k4) (DL.funAt_mk KX G ?a5 ?l5 ?c5 ?k5) (DL.funAt_mk KX G ?a6 ?l6 ?c6 ?k6) (DL.funAt_mk KX G ?a7 ?l7 ?c7 ?k7) (DL.funAt_mk KX G ?a8 ?l8 ?c8 ?k8) (DL.funAt_mk KX G ?a9 ?l9 ?c9 ?k9) (DL.funAt_mk KX G ?a10 ?l10 ?c10 ?k10) (DL.funAt_mk KX G ?a11 ?l11 ?c11 ?k11) (DL.funAt_mk KX G ?a12 ?l12 ?c12 ?k12) (DL.funAt_mk KX G ?a13 ?l13 ?c13 ?k13) (PySem.W.mg_none_of KX G ?z14) (PySem.W.mg_none_of KX G ?z15) (PySem.W.mg_none_of KX G ?z16) (PySem.W.mg_none_of KX G ?z17) (PySem.W.mg_none_of KX G ?z18) (PySem.W.mg_none_of KX G ?z19) (PySem.W.mg_none_of KX G ?z20) (PySem.W.mg_none_of KX G ?z21))
    (case a1 => k_is)
    (case l1 => k_is)
    (case c1 => k_is)
    (case k1 => k_is)
    (case a2 => k_is)
    (case l2 => k_is)
    (case c2 => k_is)
    (case k2 => k_is)
    (case a3 => k_is)
    (case l3 => k_is)
    (case c3 => k_is)
    (case k3 => k_is)
    (case a4 => k_is)
    (case l4 => k_is)
    (case c4 => k_is)
    (case k4 => k_is)
    (case a5 => k_is)
    (case l5 => k_is)
    (case c5 => k_is)
    (case k5 => k_is)
    (case a6 => k_is)
    (case l6 => k_is)
    (case c6 => k_is)
    (case k6 => k_is)
    (case a7 => k_is)
    (case l7 => k_is)
    (case c7 => k_is)
    (case k7 => k_is)
    (case a8 => k_is)
    (case l8 => k_is)
    (case c8 => k_is)
    (case k8 => k_is)
    (case a9 => k_is)
    (case l9 => k_is)
    (case c9 => k_is)
    (case k9 => k_is)
    (case a10 => k_is)
    (case l10 => k_is)
    (case c10 => k_is)
    (case k10 => k_is)
    (case a11 => k_is)
    (case l11 => k_is)
    (case c11 => k_is)
    (case k11 => k_is)
    (case a12 => k_is)
    (case l12 => k_is)
    (case c12 => k_is)
    (case k12 => k_is)
    (case a13 => k_is)
    (case l13 => k_is)
    (case c13 => k_is)
    (case k13 => k_is)
    (case z14 => k_is)
    (case z15 => k_is)
    (case z16 => k_is)
    (case z17 => k_is)
    (case z18 => k_is)
    (case z19 => k_is)
    (case z20 => k_is)
    (case z21 => k_is)
#print axioms PySem.Challenge.cw_stoodin_k05_looks_written_holds
