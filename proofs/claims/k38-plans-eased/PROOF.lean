import PyProof.Rows.All
import Wide.All
import OpenK.AllK
import Wide.FinOn
import HandS.ForMost
import HandS.ForExc
import HandS.IsInst
import HandS.TupAny
import HandS.Deep
import HandS.Wide
import HandS.CallSlots
import HandS.Defaults
import KE.KUnpackStar
import HandS.Text
import KE.KIntText
import HandS.SetFor
import HandS.Strs
import HandS.SortInts
import HandS.List
import HandS.Comp
import HandS.SortKw
import HandS.MakeKw
import HandS.MakeKwOnly
import HandS.Style
import HandS.Flow
import HandS.TryMany
import HandS.ExcInit
import HandS.ExcIs
import HandS.ExcField
import HandS.Zip
import HandS.TupMul
import KE.KxMul
import HandS.TryOnly
import PyProof.Rows.SortStr
import PyProof.Rows.SortShellK
import PySem.Challenge.RW_stoodin_k38_plans_eased
set_option Elab.async false
set_option linter.all false
set_option autoImplicit false
set_option maxRecDepth 100000
set_option maxHeartbeats 4000000
namespace DL
open PySem L2

/-! ### data -/
/-- the module's name n holds the object at C (a class, a def) -/
def ClsAt (K : PySem.W.Frag) (n : Str) (C : Addr) : Prop := PySem.W.nsIn K mainGlobals n = some (some (.ref C))
inductive D where
  | non | bl (b : Bool) | int (i : Int) | str (x : Str) | ty (n : String) | adr (a : Addr) | glb (n : Str) | exc (a C dd : Addr) (n : Str) (fs : List (Str × D))
  | lst (ds : List D) | tup (ds : List D) | dct (kvs : List (Key × D)) | ins (n : Str) (fs : List (Str × D))

/-- what may change -/
inductive MO where
  | lst (ds : List D) | dct (kvs : List (Key × D)) | dtt (kvs : List (List Key × D)) | ins (n : Str) (fs : List (Str × D))

abbrev Mu := Addr → Option MO
def mset (m : Mu) (a : Addr) (o : MO) : Mu := fun b => if b = a then some o else m b
def mdel (m : Mu) (a : Addr) : Mu := fun b => if b = a then none else m b

mutual
inductive Rp (K : PySem.W.Frag) (H : Hp) : V → D → Prop
  | non : Rp K H .non .non
  | bl (b : Bool) : Rp K H (.bl b) (.bl b)
  | int (i : Int) : Rp K H (.int i) (.int i)
  | str (x : Str) : Rp K H (.str x) (.str x)
  | ty (n : String) : Rp K H (.ty n) (.ty n)
  | adr (a : Addr) : Rp K H (.ref a) (.adr a)
  | glb {n : Str} {C : Addr} : ClsAt K n C → Rp K H (.ref C) (.glb n)
  | exc {a C dd : Addr} {n : Str} {fv : List (Str × V)} {fs : List (Str × D)} : ClsAt K n C → H dd = some (.xd fv) → fv.map (·.1) = fs.map (·.1) → RpL K H (fv.map (·.2)) (fs.map (·.2)) → Rp K H (.ref a) (.exc a C dd n fs)
  | lst {a : Addr} {vs : List V} {ds : List D} : SqL K H a vs → RpL K H vs ds → Rp K H (.ref a) (.lst ds)
  | tup {a : Addr} {vs : List V} {ds : List D} : SqT K H a vs → RpL K H vs ds → Rp K H (.ref a) (.tup ds)
  | dct {a : Addr} {kvs : List (Key × V)} {ds : List (Key × D)} : H a = some (.dK kvs) → kvs.map (·.1) = ds.map (·.1) → RpL K H (kvs.map (·.2)) (ds.map (·.2)) → Rp K H (.ref a) (.dct ds)
  | ins {a C dx : Addr} {n : Str} {fs : List (Str × V)} {ds : List (Str × D)} : ClsAt K n C → H a = some (.ins C dx fs) → fs.map (·.1) = ds.map (·.1) → RpL K H (fs.map (·.2)) (ds.map (·.2)) → Rp K H (.ref a) (.ins n ds)
inductive RpL (K : PySem.W.Frag) (H : Hp) : List V → List D → Prop
  | nil : RpL K H [] []
  | cons {v : V} {vs : List V} {d : D} {ds : List D} : Rp K H v d → RpL K H vs ds → RpL K H (v :: vs) (d :: ds)
end

theorem seqT_mono {K : PySem.W.Frag} {H H' : Hp} {a : Addr} {xs : List V} (e : Same H H') (h : SqT K H a xs) : SqT K H' a xs := by
  rcases h with (h | ⟨o, h⟩) | h
  · exact .inl (.inl (e _ _ h))
  · exact .inl (.inr ⟨o, e _ _ h⟩)
  · exact .inr h

mutual
theorem Rp.mono {K : PySem.W.Frag} {H H' : Hp} (s : Same H H') : ∀ {v : V} {d : D}, Rp K H v d → Rp K H' v d
  | _, _, .non => .non
  | _, _, .bl b => .bl b
  | _, _, .int i => .int i
  | _, _, .str x => .str x
  | _, _, .ty n => .ty n
  | _, _, .adr a => .adr a
  | _, _, .glb h => .glb h
  | _, _, .exc c h e r => .exc c (s _ _ h) e (RpL.mono s r)
  | _, _, .lst h r => .lst (s.seq h) (RpL.mono s r)
  | _, _, .tup h r => .tup (seqT_mono s h) (RpL.mono s r)
  | _, _, .dct h e r => .dct (s _ _ h) e (RpL.mono s r)
  | _, _, .ins c h e r => .ins c (s _ _ h) e (RpL.mono s r)
theorem RpL.mono {K : PySem.W.Frag} {H H' : Hp} (s : Same H H') : ∀ {vs : List V} {ds : List D}, RpL K H vs ds → RpL K H' vs ds
  | _, _, .nil => .nil
  | _, _, .cons h r => .cons (Rp.mono s h) (RpL.mono s r)
end

/-! ### worlds: H0 what never changes, m what may -/
def MRep (K : PySem.W.Frag) (H0 H : Hp) (a : Addr) : MO → Prop
  | .lst ds => ∃ vs, H a = some (.lst vs) ∧ RpL K H0 vs ds
  | .dct kvs => ∃ kv, H a = some (.dK kv) ∧ kv.map (·.1) = kvs.map (·.1) ∧ RpL K H0 (kv.map (·.2)) (kvs.map (·.2))
  | .dtt kvs => ∃ kv, H a = some (.dT kv) ∧ kv.map (·.1) = kvs.map (·.1) ∧ RpL K H0 (kv.map (·.2)) (kvs.map (·.2))
  | .ins n fs => ∃ C dx fv, ClsAt K n C ∧ H a = some (.ins C dx fv) ∧ fv.map (·.1) = fs.map (·.1) ∧ RpL K H0 (fv.map (·.2)) (fs.map (·.2))
theorem MRep.some {K : PySem.W.Frag} {H0 H : Hp} {a : Addr} {o : MO} (h : MRep K H0 H a o) : ∃ u, H a = some u := by
  cases o with
  | lst ds => obtain ⟨vs, h, _⟩ := h; exact ⟨_, h⟩
  | dct ds => obtain ⟨vs, h, _⟩ := h; exact ⟨_, h⟩
  | dtt ds => obtain ⟨vs, h, _⟩ := h; exact ⟨_, h⟩
  | ins C ds => obtain ⟨_, _, vs, _, h, _⟩ := h; exact ⟨_, h⟩
theorem MRep.mono {K : PySem.W.Frag} {H0 H H0' H' : Hp} {a : Addr} {o : MO} (h : MRep K H0 H a o) (s : Same H0 H0') (e : H' a = H a) : MRep K H0' H' a o := by
  cases o with
  | lst ds => obtain ⟨vs, h, r⟩ := h; exact ⟨vs, e.trans h, r.mono s⟩
  | dct ds => obtain ⟨vs, h, q, r⟩ := h; exact ⟨vs, e.trans h, q, r.mono s⟩
  | dtt ds => obtain ⟨vs, h, q, r⟩ := h; exact ⟨vs, e.trans h, q, r.mono s⟩
  | ins C ds => obtain ⟨C, dx, vs, c, h, q, r⟩ := h; exact ⟨C, dx, vs, c, e.trans h, q, r.mono s⟩
/-- F: a frame that stays as it is -/
structure Ok (K : PySem.W.Frag) (F : Hp) (H0 : Hp) (m : Mu) (H : Hp) : Prop where
  same : Same H0 H
  cell : ∀ a o, m a = some o → H0 a = none ∧ MRep K H0 H a o
  fr : ∀ a o, F a = some o → H a = some o ∧ H0 a = none ∧ m a = none
theorem Ok.free {K : PySem.W.Frag} {F : Hp} {H0 H : Hp} {m : Mu} {a : Addr} (ok : Ok K F H0 m H) (h : H a = none) : H0 a = none ∧ m a = none := by
  refine ⟨ok.same.free h, ?_⟩
  cases e : m a with
  | none => rfl
  | some o =>
    obtain ⟨u, hu⟩ := (ok.cell a o e).2.some
    rw [h] at hu; cases hu
theorem same_new {H : Hp} {p : Addr} {o : HO} (h : H p = none) : Same H (upd H p o) := fun b u e => by
  rw [upd_ne (ne_of_none e h)]; exact e
/-- a new thing that never changes -/
theorem Ok.new {K : PySem.W.Frag} {F : Hp} {H0 H : Hp} {m : Mu} {p : Addr} (ok : Ok K F H0 m H) (h : H p = none) (o : HO) : Ok K F (upd H0 p o) m (upd H p o) := by
  obtain ⟨h0, hm⟩ := ok.free h
  refine ⟨fun b u e => ?_, fun a q e => ?_, fun a q e => ?_⟩
  · by_cases hb : b = p
    · subst hb; rw [upd_same] at e ⊢; exact e
    · rw [upd_ne hb] at e ⊢; exact ok.same b u e
  · obtain ⟨c1, c2⟩ := ok.cell a q e
    have ha : a ≠ p := fun z => by rw [z, hm] at e; cases e
    exact ⟨by rw [upd_ne ha]; exact c1, c2.mono (same_new h0) (upd_ne ha)⟩
  · obtain ⟨c1, c2, c3⟩ := ok.fr a q e
    have ha : a ≠ p := ne_of_none c1 h
    exact ⟨by rw [upd_ne ha]; exact c1, by rw [upd_ne ha]; exact c2, c3⟩
/-- a new thing of ours that may change -/
theorem Ok.newM {K : PySem.W.Frag} {F : Hp} {H0 H : Hp} {m : Mu} {p : Addr} {u : HO} {o : MO} (ok : Ok K F H0 m H) (h : H p = none) (r : MRep K H0 (upd H p u) p o) : Ok K F H0 (mset m p o) (upd H p u) := by
  obtain ⟨h0, hm⟩ := ok.free h
  refine ⟨fun b q e => ?_, fun a q e => ?_, fun a q e => ?_⟩
  · rw [upd_ne (ne_of_none (ok.same b q e) h)]; exact ok.same b q e
  · unfold mset at e
    by_cases ha : a = p
    · subst ha; rw [if_pos rfl] at e; cases e; exact ⟨h0, r⟩
    · rw [if_neg ha] at e
      obtain ⟨c1, c2⟩ := ok.cell a q e
      exact ⟨c1, c2.mono (Same.refl _) (upd_ne ha)⟩
  · obtain ⟨c1, c2, c3⟩ := ok.fr a q e
    have ha : a ≠ p := ne_of_none c1 h
    exact ⟨by rw [upd_ne ha]; exact c1, c2, by unfold mset; rw [if_neg ha]; exact c3⟩
/-- a thing of ours changes -/
theorem Ok.write {K : PySem.W.Frag} {F : Hp} {H0 H : Hp} {m : Mu} {p : Addr} {u : HO} {o o' : MO} (ok : Ok K F H0 m H) (h : m p = some o') (r : MRep K H0 (upd H p u) p o) : Ok K F H0 (mset m p o) (upd H p u) := by
  obtain ⟨h0, _⟩ := ok.cell p o' h
  refine ⟨fun b q e => ?_, fun a q e => ?_, fun a q e => ?_⟩
  · rw [upd_ne (ne_of_none e h0)]; exact ok.same b q e
  · unfold mset at e
    by_cases ha : a = p
    · subst ha; rw [if_pos rfl] at e; cases e; exact ⟨h0, r⟩
    · rw [if_neg ha] at e
      obtain ⟨c1, c2⟩ := ok.cell a q e
      exact ⟨c1, c2.mono (Same.refl _) (upd_ne ha)⟩
  · obtain ⟨c1, c2, c3⟩ := ok.fr a q e
    have ha : a ≠ p := fun z => by rw [z, h] at c3; cases c3
    exact ⟨by rw [upd_ne ha]; exact c1, c2, by unfold mset; rw [if_neg ha]; exact c3⟩
/-- less is known to be ours -/
theorem Ok.weak {K : PySem.W.Frag} {F : Hp} {H0 H : Hp} {m m' : Mu} (ok : Ok K F H0 m H) (h : ∀ a o, m' a = some o → m a = some o) : Ok K F H0 m' H := ⟨ok.same, fun a o e => ok.cell a o (h a o e), fun a o e => by
  obtain ⟨c1, c2, c3⟩ := ok.fr a o e
  refine ⟨c1, c2, ?_⟩
  cases q : m' a with
  | none => rfl
  | some u => rw [h a u q] at c3; cases c3⟩
/-- something that is neither goes into the frame -/
theorem Ok.frame {K : PySem.W.Frag} {F : Hp} {H0 H : Hp} {m : Mu} {p : Addr} {o : HO} (ok : Ok K F H0 m H) (h : H p = some o) (h0 : H0 p = none) (hm : m p = none) : Ok K (upd F p o) H0 m H := ⟨ok.same, ok.cell, fun a u e => by
  by_cases ha : a = p
  · subst ha; rw [upd_same] at e; cases e; exact ⟨h, h0, hm⟩
  · rw [upd_ne ha] at e; exact ok.fr a u e⟩
/-- and out of it, whatever it was before -/
theorem Ok.unframe {K : PySem.W.Frag} {F : Hp} {H0 H : Hp} {m : Mu} {p : Addr} {o : HO} (ok : Ok K (upd F p o) H0 m H) (hF : F p = none) : Ok K F H0 m H ∧ H p = some o ∧ H0 p = none ∧ m p = none := by
  refine ⟨⟨ok.same, ok.cell, fun a u e => ?_⟩, ok.fr p o upd_same⟩
  have ha : a ≠ p := ne_of_none e hF
  exact ok.fr a u (by rw [upd_ne ha]; exact e)
theorem Ok.freeF {K : PySem.W.Frag} {F : Hp} {H0 H : Hp} {m : Mu} {a : Addr} (ok : Ok K F H0 m H) (h : H a = none) : F a = none := by
  cases e : F a with
  | none => rfl
  | some o => rw [(ok.fr a o e).1] at h; cases h

abbrev DSt := List (Option D)
abbrev DK := D → Mu → Prop
abbrev DX := Str → List (Str × D) → Mu → Prop
abbrev DE := DSt → Mu → DK → DX → Prop
abbrev DT := DSt → Mu → (Bool → Mu → Prop) → DX → Prop
abbrev DA := DSt → Mu → (List D → Mu → Prop) → DX → Prop
structure DEnds where
  nx : DSt → Mu → Prop
  rt : DK
  bk : DSt → Mu → Prop
  ct : DSt → Mu → Prop
  xx : Str → List (Str × D) → DSt → Mu → Prop
abbrev DS := DEnds → DSt → Mu → Prop

structure RpS (K : PySem.W.Frag) (H0 : Hp) (σ : St) (δ : DSt) : Prop where
  len : σ.length = δ.length
  at_ : ∀ (i : Nat) (d : D), δ[i]? = some (some d) → ∃ v, σ[i]? = some (some v) ∧ Rp K H0 v d
theorem RpS.mono {K : PySem.W.Frag} {H0 H0' : Hp} {σ : St} {δ : DSt} (r : RpS K H0 σ δ) (s : Same H0 H0') : RpS K H0' σ δ := ⟨r.len, fun i d e => let ⟨v, h, q⟩ := r.at_ i d e; ⟨v, h, q.mono s⟩⟩
theorem RpS.set {K : PySem.W.Frag} {H0 : Hp} {σ : St} {δ : DSt} {v : V} {d : D} (r : RpS K H0 σ δ) (h : Rp K H0 v d) (i : Nat) : RpS K H0 (σ.set i (some v)) (δ.set i (some d)) := by
  refine ⟨by simp [r.len], fun j e he => ?_⟩
  by_cases hj : i = j
  · subst hj
    by_cases hl : i < δ.length
    · rw [List.getElem?_set_self hl] at he
      cases he
      exact ⟨v, List.getElem?_set_self (by rw [r.len]; exact hl), h⟩
    · rw [List.getElem?_eq_none (by simpa using hl)] at he; cases he
  · rw [List.getElem?_set_ne hj] at he ⊢
    exact r.at_ j e he
theorem RpS.clear {K : PySem.W.Frag} {H0 : Hp} {σ : St} {δ : DSt} {o : Option V} (r : RpS K H0 σ δ) (i : Nat) : RpS K H0 (σ.set i o) (δ.set i none) := by
  refine ⟨by simp [r.len], fun j e he => ?_⟩
  by_cases hj : i = j
  · subst hj
    by_cases hl : i < δ.length
    · rw [List.getElem?_set_self hl] at he; cases he
    · rw [List.getElem?_eq_none (by simpa using hl)] at he; cases he
  · rw [List.getElem?_set_ne hj] at he ⊢
    exact r.at_ j e he
/-- what an exception bears -/
def XRp (K : PySem.W.Frag) (H0 : Hp) (c : Value) (xd : Option Addr) (nf : Str × List (Str × D)) : Prop :=
  ∃ C, c = .ref C ∧ ClsAt K nf.1 C ∧ ∃ dd fv, xd = some dd ∧ H0 dd = some (.xd fv) ∧ fv.map (·.1) = nf.2.map (·.1) ∧ RpL K H0 (fv.map (·.2)) (nf.2.map (·.2))
theorem XRp.mono {K : PySem.W.Frag} {H0 H0' : Hp} {c : Value} {xd : Option Addr} {nf : Str × List (Str × D)} (x : XRp K H0 c xd nf) (s : Same H0 H0') : XRp K H0' c xd nf := by
  obtain ⟨C, e0, hc, dd, fv, e, h, q, r⟩ := x
  exact ⟨C, e0, hc, dd, fv, e, s _ _ h, q, r.mono s⟩

def GV (K : PySem.W.Frag) (F : Hp) (H0 : Hp) (P : DK) (Q : VK) : Prop := ∀ v H' H0' m' d, Same H0 H0' → Ok K F H0' m' H' → Rp K H0' v d → P d m' → Q v H'
def GB (K : PySem.W.Frag) (F : Hp) (H0 : Hp) (P : Bool → Mu → Prop) (Q : Bool → Hp → Prop) : Prop := ∀ b H' H0' m', Same H0 H0' → Ok K F H0' m' H' → P b m' → Q b H'
def GA (K : PySem.W.Frag) (F : Hp) (H0 : Hp) (P : List D → Mu → Prop) (Q : List V → Hp → Prop) : Prop := ∀ vs H' H0' m' ds, Same H0 H0' → Ok K F H0' m' H' → RpL K H0' vs ds → P ds m' → Q vs H'
def GX (K : PySem.W.Frag) (F : Hp) (H0 : Hp) (PX : DX) (E : XK) : Prop := ∀ c xd H' H0' m' fs, Same H0 H0' → Ok K F H0' m' H' → XRp K H0' c xd fs → PX fs.1 fs.2 m' → E c xd H'
def GS (K : PySem.W.Frag) (F : Hp) (H0 : Hp) (P : DSt → Mu → Prop) (Q : St → Hp → Prop) : Prop := ∀ σ' H' H0' m' δ', Same H0 H0' → Ok K F H0' m' H' → RpS K H0' σ' δ' → P δ' m' → Q σ' H'
def GW (K : PySem.W.Frag) (F : Hp) (H0 : Hp) (PX : Str → List (Str × D) → DSt → Mu → Prop) (W : WX) : Prop := ∀ c xd σ' H' H0' m' fs δ', Same H0 H0' → Ok K F H0' m' H' → RpS K H0' σ' δ' → XRp K H0' c xd fs → PX fs.1 fs.2 δ' m' → W c xd σ' H'
theorem GV.mono {K : PySem.W.Frag} {F : Hp} {H0 H1 : Hp} {P : DK} {Q : VK} (g : GV K F H0 P Q) (s : Same H0 H1) : GV K F H1 P Q := fun v H' H0' m' d s' => g v H' H0' m' d (s.trans s')
theorem GB.mono {K : PySem.W.Frag} {F : Hp} {H0 H1 : Hp} {P : Bool → Mu → Prop} {Q : Bool → Hp → Prop} (g : GB K F H0 P Q) (s : Same H0 H1) : GB K F H1 P Q := fun v H' H0' m' s' => g v H' H0' m' (s.trans s')
theorem GA.mono {K : PySem.W.Frag} {F : Hp} {H0 H1 : Hp} {P : List D → Mu → Prop} {Q : List V → Hp → Prop} (g : GA K F H0 P Q) (s : Same H0 H1) : GA K F H1 P Q := fun v H' H0' m' d s' => g v H' H0' m' d (s.trans s')
theorem GX.mono {K : PySem.W.Frag} {F : Hp} {H0 H1 : Hp} {P : DX} {Q : XK} (g : GX K F H0 P Q) (s : Same H0 H1) : GX K F H1 P Q := fun c xd H' H0' m' fs s' => g c xd H' H0' m' fs (s.trans s')
theorem GS.mono {K : PySem.W.Frag} {F : Hp} {H0 H1 : Hp} {P : DSt → Mu → Prop} {Q : St → Hp → Prop} (g : GS K F H0 P Q) (s : Same H0 H1) : GS K F H1 P Q := fun v H' H0' m' d s' => g v H' H0' m' d (s.trans s')
theorem GW.mono {K : PySem.W.Frag} {F : Hp} {H0 H1 : Hp} {P : Str → List (Str × D) → DSt → Mu → Prop} {Q : WX} (g : GW K F H0 P Q) (s : Same H0 H1) : GW K F H1 P Q := fun c xd σ' H' H0' m' fs δ' s' => g c xd σ' H' H0' m' fs δ' (s.trans s')

def lE (K : PySem.W.Frag) (W : WX) (r : DE) : TE := fun σ H Q => ∃ F H0 m δ P PX, Ok K F H0 m H ∧ RpS K H0 σ δ ∧ r δ m P PX ∧ GV K F H0 P Q ∧ GX K F H0 PX fun c xd H' => W c xd σ H'
def lT (K : PySem.W.Frag) (W : WX) (r : DT) : TT := fun σ H Q => ∃ F H0 m δ P PX, Ok K F H0 m H ∧ RpS K H0 σ δ ∧ r δ m P PX ∧ GB K F H0 P Q ∧ GX K F H0 PX fun c xd H' => W c xd σ H'
def lA (K : PySem.W.Frag) (W : WX) (r : DA) : TA := fun σ H Q => ∃ F H0 m δ P PX, Ok K F H0 m H ∧ RpS K H0 σ δ ∧ r δ m P PX ∧ GA K F H0 P Q ∧ GX K F H0 PX fun c xd H' => W c xd σ H'
structure GD (K : PySem.W.Frag) (F : Hp) (H0 : Hp) (W : WX) (DD : DEnds) (Dn : Ends) : Prop where
  nx : GS K F H0 DD.nx Dn.nx
  rt : GV K F H0 DD.rt Dn.rt
  bk : GS K F H0 DD.bk Dn.bk
  ct : GS K F H0 DD.ct Dn.ct
  xx : GW K F H0 DD.xx W
theorem GD.mono {K : PySem.W.Frag} {F : Hp} {H0 H1 : Hp} {W : WX} {DD : DEnds} {Dn : Ends} (g : GD K F H0 W DD Dn) (s : Same H0 H1) : GD K F H1 W DD Dn := ⟨g.nx.mono s, g.rt.mono s, g.bk.mono s, g.ct.mono s, g.xx.mono s⟩
def lS (K : PySem.W.Frag) (W : WX) (r : DS) : TS := fun Dn σ H => ∃ F H0 m δ DD, Ok K F H0 m H ∧ RpS K H0 σ δ ∧ r DD δ m ∧ GD K F H0 W DD Dn

abbrev SpD := List D → Mu → DK → DX → Prop
def lP (K : PySem.W.Frag) (sp : SpD) : Sp := fun vs H Q E => ∃ F H0 m ds P PX, Ok K F H0 m H ∧ RpL K H0 vs ds ∧ sp ds m P PX ∧ GV K F H0 P Q ∧ GX K F H0 PX E

theorem PE.imp {X : Cx} {e : Expr} {t t' : TE} (h : PE X e t) (k : ∀ σ H Q, t' σ H Q → t σ H Q) : PE X e t' := ⟨fun pins s σ H Q I w => h.run pins s σ H Q I (k σ H Q w)⟩
theorem PT.imp {X : Cx} {e : Expr} {t t' : TT} (h : PT X e t) (k : ∀ σ H Q, t' σ H Q → t σ H Q) : PT X e t' := ⟨fun pins s σ H Q I w => h.run pins s σ H Q I (k σ H Q w)⟩
theorem PW.imp {X : Cx} {e : Expr} {t t' : TT} (h : PW X e t) (k : ∀ σ H Q, t' σ H Q → t σ H Q) : PW X e t' := ⟨fun wh pins s σ H Q I w => h.run wh pins s σ H Q I (k σ H Q w)⟩
theorem PA.imp {X : Cx} {e : List Expr} {t t' : TA} (h : PA X e t) (k : ∀ σ H Q, t' σ H Q → t σ H Q) : PA X e t' := ⟨fun pos pins s σ H Q I w => h.run pos pins s σ H Q I (k σ H Q w)⟩
theorem PS.imp {X : Cx} {e : Stmt} {t t' : TS} (h : PS X e t) (k : ∀ Dn σ H, t' Dn σ H → t Dn σ H) : PS X e t' := ⟨fun pins s σ H Dn I w => h.run pins s σ H Dn I (k Dn σ H w)⟩
theorem PSs.imp {X : Cx} {e : List Stmt} {t t' : TS} (h : PSs X e t) (k : ∀ Dn σ H, t' Dn σ H → t Dn σ H) : PSs X e t' := ⟨fun pins s σ H Dn I w => h.run pins s σ H Dn I (k Dn σ H w)⟩
end DL

namespace DL
open PySem L2
section
variable {X : Cx} {W : WX} {a b c : Expr} {ra rb rc : DE} {pos : Pos}

/-! ### names, constants -/
def rV (i : Nat) : DE := fun δ m P _ => match δ[i]? with
  | some (some d) => P d m
  | _ => False
def rC (d : D) : DE := fun _ m P _ => P d m
theorem pd_v (i : Nat) {x : Str} (hN : X.N[i]? = some x := by rfl) (hv : Vis X.env.scope x := by first | exact Or.inl rfl | exact Or.inr (Or.inl rfl) | exact Or.inr (Or.inr rfl)) (hd : (x == ("__debug__" : Str)) = false := by decide)
    (hcd : (x == ("__classdict__" : Str)) = false := by decide) : PE X (.Name x pos) (lE X.K W (rV i)) := by
  refine PE.imp (pe_var hN hv hd hcd) fun σ H Q h => ?_
  obtain ⟨F, H0, m, δ, P, PX, ok, rs, h, g, gx⟩ := h
  unfold rV at h
  split at h
  · rename_i d e
    obtain ⟨v, hv, rv⟩ := rs.at_ i d e
    exact ⟨v, hv, g v H H0 m d (Same.refl _) ok rv h⟩
  · exact h.elim
theorem pd_tC {e : Expr} {v : V} {d : D} (h : PE X e (tC v)) (r : ∀ H, Rp X.K H v d) : PE X e (lE X.K W (rC d)) := by
  refine PE.imp h fun σ H Q h => ?_
  obtain ⟨F, H0, m, δ, P, PX, ok, rs, h, g, gx⟩ := h
  exact g v H H0 m d (Same.refl _) ok (r H0) h
theorem pd_int {i : Int} {k : Nat} : PE X (.Constant (.int i) k pos) (lE X.K W (rC (.int i))) := pd_tC pe_int fun _ => .int i
theorem pd_str {x : Str} {k : Nat} : PE X (.Constant (.str x) k pos) (lE X.K W (rC (.str x))) := pd_tC pe_str fun _ => .str x
theorem pd_bl {x : Bool} {k : Nat} : PE X (.Constant (.bool x) k pos) (lE X.K W (rC (.bl x))) := pd_tC pe_bl fun _ => .bl x
theorem pd_non {k : Nat} : PE X (.Constant .none k pos) (lE X.K W (rC .non)) := pd_tC pe_non fun _ => .non
theorem pd_gint {x : Str} {i : Int} {t : Tok} (hm : X.mg x = some (.int i t)) (hg : Gl X x := by rfl) (hd : (x == ("__debug__" : Str)) = false := by decide) : PE X (.Name x pos) (lE X.K W (rC (.int i))) := pd_tC (pe_glob hg hm (v := .int i) ⟨t, rfl⟩ hd) fun _ => .int i
theorem pd_gstr {x : Str} {i : Str} {t : Tok} (hm : X.mg x = some (.str i t)) (hg : Gl X x := by rfl) (hd : (x == ("__debug__" : Str)) = false := by decide) : PE X (.Name x pos) (lE X.K W (rC (.str i))) := pd_tC (pe_glob hg hm (v := .str i) ⟨t, rfl⟩ hd) fun _ => .str i
theorem pd_gref {x : Str} {i : Addr} (hm : X.mg x = some (.ref i)) (hg : Gl X x := by rfl) (hd : (x == ("__debug__" : Str)) = false := by decide) : PE X (.Name x pos) (lE X.K W (rC (.adr i))) := pd_tC (pe_glob hg hm (v := .ref i) rfl hd) fun _ => .adr i
theorem pd_ty {x : Str} {n : String} (hm : X.mg x = none) (hv : bootBuiltins x = some (.type n)) (hg : Gl X x := by rfl) (hn : x ≠ "__name__" := by decide) (hd : (x == ("__debug__" : Str)) = false := by decide) : PE X (.Name x pos) (lE X.K W (rC (.ty n))) := pd_tC (pe_bltn hg hm hv (v := .ty n) rfl hn hd) fun _ => .ty n

/-! ### operations on two values -/
abbrev DO := D → D → Mu → DK → Prop
def OpD (K : PySem.W.Frag) (r : R2) (ro : DO) : Prop := ∀ F H0 m H x y dx dy P Q, Ok K F H0 m H → Rp K H0 x dx → Rp K H0 y dy → ro dx dy m P → GV K F H0 P Q → r x y H Q
def rOp (ro : DO) (ra rb : DE) : DE := fun δ m P PX => ra δ m (fun x m1 => rb δ m1 (fun y m2 => ro x y m2 P) PX) PX
theorem lE_op {K : PySem.W.Frag} {r : R2} {ro : DO} (od : OpD K r ro) {σ : St} {H : Hp} {Q : VK} (h : lE K W (rOp ro ra rb) σ H Q) : tOp r (lE K W ra) (lE K W rb) σ H Q := by
  obtain ⟨F, H0, m, δ, P, PX, ok, rs, h, g, gx⟩ := h
  exact ⟨F, H0, m, δ, _, PX, ok, rs, h, fun x H1 H01 m1 d1 s1 ok1 r1 h1 => ⟨F, H01, m1, δ, _, PX, ok1, rs.mono s1, h1, fun y H2 H02 m2 d2 s2 ok2 r2 h2 => od F H02 m2 H2 x y d1 d2 P Q ok2 (r1.mono s2) r2 h2 (g.mono (s1.trans s2)), gx.mono s1⟩, gx⟩
theorem pd_op {op : Operator} {r : R2} {ro : DO} (ho : OpR X (binaryOp op) r) (od : OpD X.K r ro) (ha : PE X a (lE X.K W ra)) (hb : PE X b (lE X.K W rb)) : PE X (.BinOp a op b pos) (lE X.K W (rOp ro ra rb)) :=
  PE.imp (pe_op ho ha hb) fun _ _ _ h => lE_op od h
theorem pd_cmp {op : CmpOp} {r : R2} {ro : DO} (ho : OpR X (compareOp op) r) (od : OpD X.K r ro) (ha : PE X a (lE X.K W ra)) (hb : PE X b (lE X.K W rb)) (hm : behindInMarks op b = false := by first | exact nomark _ | rfl) : PE X (.Compare a [op] [b] pos) (lE X.K W (rOp ro ra rb)) :=
  PE.imp (pe_cmpR ho ha hb hm) fun _ _ _ h => lE_op od h
theorem OpD.or {K : PySem.W.Frag} {F : Hp} {r r' : R2} {ro : DO} (h : ∀ F H0 m H x y dx dy P Q, Ok K F H0 m H → Rp K H0 x dx → Rp K H0 y dy → ro dx dy m P → GV K F H0 P Q → r x y H Q ∨ r' x y H Q) : OpD K (fun x y H Q => r x y H Q ∨ r' x y H Q) ro := h

/-- new lists, new tuples -/
theorem GV.lst {K : PySem.W.Frag} {F : Hp} {H0 H : Hp} {m : Mu} {P : DK} {Q : VK} {p : Addr} {vs : List V} {ds : List D} (g : GV K F H0 P Q) (ok : Ok K F H0 m H) (hp : H p = none) (r : RpL K H0 vs ds) (h : P (.lst ds) m) : Q (.ref p) (upd H p (.lst vs)) :=
  g _ _ (upd H0 p (.lst vs)) m _ (same_new (ok.free hp).1) (ok.new hp _) (.lst (SqL.of upd_same) (r.mono (same_new (ok.free hp).1))) h
theorem GV.tup {K : PySem.W.Frag} {F : Hp} {H0 H : Hp} {m : Mu} {P : DK} {Q : VK} {p : Addr} {vs : List V} {ds : List D} (g : GV K F H0 P Q) (ok : Ok K F H0 m H) (hp : H p = none) (r : RpL K H0 vs ds) (h : P (.tup ds) m) : Q (.ref p) (upd H p (.tup vs)) :=
  g _ _ (upd H0 p (.tup vs)) m _ (same_new (ok.free hp).1) (ok.new hp _) (.tup (SqT.of upd_same) (r.mono (same_new (ok.free hp).1))) h
theorem GV.id {K : PySem.W.Frag} {F : Hp} {H0 H : Hp} {m : Mu} {P : DK} {Q : VK} {v : V} {d : D} (g : GV K F H0 P Q) (ok : Ok K F H0 m H) (r : Rp K H0 v d) (h : P d m) : Q v H := g _ _ H0 m _ (Same.refl _) ok r h

theorem RpL.length {K : PySem.W.Frag} {H : Hp} : ∀ {vs : List V} {ds : List D}, RpL K H vs ds → vs.length = ds.length
  | _, _, .nil => rfl
  | _, _, .cons _ r => by simp [RpL.length r]
theorem RpL.append {K : PySem.W.Frag} {H : Hp} : ∀ {vs ws : List V} {ds es : List D}, RpL K H vs ds → RpL K H ws es → RpL K H (vs ++ ws) (ds ++ es)
  | _, _, _, _, .nil, s => s
  | _, _, _, _, .cons h r, s => .cons h (RpL.append r s)
theorem RpL.get {K : PySem.W.Frag} {H : Hp} : ∀ {vs : List V} {ds : List D} {i : Nat} {d : D}, RpL K H vs ds → ds[i]? = some d → ∃ v, vs[i]? = some v ∧ Rp K H v d
  | _, _, _, _, .nil, e => by simp at e
  | _, _, 0, _, .cons h _, e => by simp at e; subst e; exact ⟨_, rfl, h⟩
  | _, _, i + 1, d, .cons _ t, e => by
    obtain ⟨u, h1, h2⟩ := RpL.get (i := i) (d := d) t (by simpa using e)
    exact ⟨u, by simpa using h1, h2⟩
theorem RpL.getV {K : PySem.W.Frag} {H : Hp} : ∀ {vs : List V} {ds : List D} {i : Nat} {v : V}, RpL K H vs ds → vs[i]? = some v → ∃ d, ds[i]? = some d ∧ Rp K H v d
  | _, _, _, _, .nil, e => by simp at e
  | _, _, 0, _, .cons h _, e => by simp at e; subst e; exact ⟨_, rfl, h⟩
  | _, _, i + 1, d, .cons _ t, e => by
    obtain ⟨u, h1, h2⟩ := RpL.getV (i := i) (v := d) t (by simpa using e)
    exact ⟨u, by simpa using h1, h2⟩
theorem RpL.take {K : PySem.W.Frag} {H : Hp} : ∀ {vs : List V} {ds : List D} (n : Nat), RpL K H vs ds → RpL K H (vs.take n) (ds.take n)
  | _, _, 0, _ => .nil
  | _, _, _ + 1, .nil => .nil
  | _, _, n + 1, .cons h r => .cons h (RpL.take n r)
theorem RpL.drop {K : PySem.W.Frag} {H : Hp} : ∀ {vs : List V} {ds : List D} (n : Nat), RpL K H vs ds → RpL K H (vs.drop n) (ds.drop n)
  | _, _, 0, r => r
  | _, _, _ + 1, .nil => .nil
  | _, _, n + 1, .cons _ r => RpL.drop n r
theorem RpL.set {K : PySem.W.Frag} {H : Hp} {v : V} {d : D} (q : Rp K H v d) : ∀ {vs : List V} {ds : List D} (n : Nat), RpL K H vs ds → RpL K H (vs.set n v) (ds.set n d)
  | _, _, _, .nil => .nil
  | _, _, 0, .cons _ r => .cons q r
  | _, _, n + 1, .cons h r => .cons h (RpL.set q n r)
theorem RpL.snoc {K : PySem.W.Frag} {H : Hp} {vs : List V} {ds : List D} {v : V} {d : D} (r : RpL K H vs ds) (h : Rp K H v d) : RpL K H (vs ++ [v]) (ds ++ [d]) := r.append (.cons h .nil)
def cutD (xs : List D) (lo hi : Option Int) : List D := (xs.drop (HT.sIx xs.length 0 lo)).take (HT.sIx xs.length xs.length hi - HT.sIx xs.length 0 lo)
theorem RpL.cut {K : PySem.W.Frag} {H : Hp} {vs : List V} {ds : List D} (r : RpL K H vs ds) (lo hi : Option Int) : RpL K H (cutV vs lo hi) (cutD ds lo hi) := by
  unfold cutV cutD
  rw [r.length]
  exact (r.drop _).take _
theorem RpL.at_ {K : PySem.W.Frag} {H : Hp} {vs : List V} {ds : List D} {i : Int} {d : D} (r : RpL K H vs ds) (h : atI ds i = some d) : ∃ v, atI vs i = some v ∧ Rp K H v d := by
  unfold atI at h ⊢
  rw [r.length]
  cases e : ixN ds.length i with
  | none => rw [e] at h; cases h
  | some j =>
    rw [e] at h
    exact r.get h

/-- what is read as a list: one that never changes, or one of ours -/
def asL (m : Mu) : D → Option (List D)
  | .lst ds => some ds
  | .adr a => match m a with
    | some (.lst ds) => some ds
    | _ => none
  | _ => none
theorem asL_rp {K : PySem.W.Frag} {F : Hp} {H0 H : Hp} {m : Mu} {v : V} {d : D} {ds : List D} (ok : Ok K F H0 m H) (r : Rp K H0 v d) (h : asL m d = some ds) : ∃ a vs, v = .ref a ∧ SqL K H a vs ∧ RpL K H0 vs ds := by
  cases d with
  | lst es =>
    cases h
    cases r with
    | lst q t => exact ⟨_, _, rfl, ok.same.seq q, t⟩
  | adr a =>
    cases r
    unfold asL at h
    dsimp only at h
    split at h
    · rename_i ds' e
      cases h
      obtain ⟨_, vs, hv, rv⟩ := ok.cell a _ e
      exact ⟨a, vs, rfl, SqL.of hv, rv⟩
    · cases h
  | _ => cases h
theorem tup_rp {K : PySem.W.Frag} {F : Hp} {H0 H : Hp} {m : Mu} {v : V} {ds : List D} (ok : Ok K F H0 m H) (r : Rp K H0 v (.tup ds)) : ∃ a vs, v = .ref a ∧ SqT K H a vs ∧ RpL K H0 vs ds := by
  cases r with
  | tup q t => exact ⟨_, _, rfl, seqT_mono ok.same q, t⟩
end

/-! ### list + list, whatever they are -/
section
variable {X : Cx}
def rCatQ (K : PySem.W.Frag) : R2 := fun x y H Q => ∃ l b xs zs, x = .ref l ∧ y = .ref b ∧ SqL K H l xs ∧ SqL K H b zs ∧ xs.length + zs.length ≤ sizeLine ∧ ∀ p, H p = none → Q (.ref p) (upd H p (.lst (xs ++ zs)))
theorem op_catQ : OpR X (binaryOp .Add) (rCatQ X.K) := by
  intro pins s σ H x y v u Q I rx ry h
  obtain ⟨l, b, xs, zs, rfl, rfl, hH, hB, hz, q⟩ := h
  cases rx
  cases ry
  obtain ⟨its, r, ⟨o, n, e, hc, hd, hs⟩, _⟩ := I.list hH
  obtain ⟨its2, r2, ⟨o2, n2, e2, hc2, hd2, hs2⟩, _⟩ := I.list hB
  have hl := r.length
  have hl2 := r2.length
  obtain ⟨oc, od, dt, sl⟩ := o
  obtain ⟨oc2, od2, dt2, sl2⟩ := o2
  simp only at hc hd hs hc2 hd2 hs2
  subst hc hd hs hc2 hd2 hs2
  have ea : its.toArray ++ its2.toArray = (its ++ its2).toArray := by simp
  refine PySem.concat_meets ⟨_, e, rfl⟩ ⟨_, e2, rfl⟩ PySem.noFill_list_add PySem.seq_list_add PySem.F.slot_list_add PySem.F.entry_list_add (PySem.F.args_list_add_2 _ _) (PyProof.Rows.list_addW l b its.toArray its2.toArray n n2 none none sl sl2 (by rw [List.size_toArray, List.size_toArray]; omega)) ⟨e, e2, ?_⟩
  rw [ea]
  exact ⟨.ref _, _, I.lnew (t' := s.toks) (r.append r2) (by rw [List.length_append]; omega), rfl, q _ I.fresh⟩
end
end DL

namespace DL
open PySem L2
section
variable {X : Cx} {W : WX} {a b c : Expr} {ra rb rc : DE} {pos : Pos}

/-! ### arithmetic -/
def oAdd : DO := fun x y m P => match x, y with
  | .int i, .int j => P (.int (i + j)) m
  | .str i, .str j => i.length + j.length ≤ sizeLine ∧ P (.str (i ++ j)) m
  | .tup i, .tup j => i.length + j.length ≤ sizeLine ∧ P (.tup (i ++ j)) m
  | x, y => match asL m x, asL m y with
    | some i, some j => i.length + j.length ≤ sizeLine ∧ P (.lst (i ++ j)) m
    | _, _ => False
theorem add_ok (X : Cx) : ∃ r, OpR X (binaryOp .Add) r ∧ OpD X.K r oAdd := by
  refine ⟨_, op_add.or (op_add_str.or (op_catA.or op_catQ)), ?_⟩
  intro F H0 m H x y dx dy P Q ok rx ry h g
  have fin : (match asL m dx, asL m dy with
    | some i, some j => i.length + j.length ≤ sizeLine ∧ P (.lst (i ++ j)) m
    | _, _ => False) → rCatQ X.K x y H Q := fun h => by
    split at h
    · rename_i i j e1 e2
      obtain ⟨hz, h⟩ := h
      obtain ⟨p, vs, rfl, q1, r1⟩ := asL_rp ok rx e1
      obtain ⟨p2, ws, rfl, q2, r2⟩ := asL_rp ok ry e2
      exact ⟨p, p2, vs, ws, rfl, rfl, q1, q2, by rw [r1.length, r2.length]; exact hz, fun z hz => g.lst ok hz (r1.append r2) h⟩
    · exact h.elim
  unfold oAdd at h
  split at h
  · cases rx; cases ry
    exact .inl ⟨_, _, rfl, rfl, g.id ok (.int _) h⟩
  · cases rx; cases ry
    exact .inr (.inl ⟨_, _, rfl, rfl, h.1, g.id ok (.str _) h.2⟩)
  · rename_i i j
    obtain ⟨p, vs, rfl, q1, r1⟩ := tup_rp ok rx
    obtain ⟨p2, ws, rfl, q2, r2⟩ := tup_rp ok ry
    refine .inr (.inr (.inl ⟨p, p2, vs, ws, rfl, rfl, q1, q2, by rw [r1.length, r2.length]; exact h.1, fun e => ?_, fun _ e => ?_, fun _ _ z hz => g.tup ok hz (r1.append r2) h.2⟩))
    · subst e
      cases r1
      exact g.id ok ry h.2
    · subst e
      cases r2
      have h2 := h.2
      rw [List.append_nil] at h2
      exact g.id ok rx h2
  · exact .inr (.inr (.inr (fin h)))
theorem pd_add (ha : PE X a (lE X.K W ra)) (hb : PE X b (lE X.K W rb)) : PE X (.BinOp a .Add b pos) (lE X.K W (rOp oAdd ra rb)) :=
  let ⟨_, h1, h2⟩ := add_ok X
  pd_op h1 h2 ha hb
def oI (C : Int → Int → Prop) (f : Int → Int → D) : DO := fun x y m P => match x, y with
  | .int i, .int j => C i j ∧ P (f i j) m
  | _, _ => False
def oI0 (f : Int → Int → D) : DO := fun x y m P => match x, y with
  | .int i, .int j => P (f i j) m
  | _, _ => False
theorem opI_ok {K : PySem.W.Frag} {C : Int → Int → Prop} {g : Int → Int → V} {f : Int → Int → D} (r : ∀ H i j, Rp K H (g i j) (f i j)) : OpD K (rI C g) (oI C f) := by
  intro F H0 m H x y dx dy P Q ok rx ry h gv
  unfold oI at h
  split at h
  · cases rx; cases ry
    exact ⟨_, _, rfl, rfl, h.1, gv.id ok (r _ _ _) h.2⟩
  · exact h.elim
theorem opI0_ok {K : PySem.W.Frag} {g : Int → Int → V} {f : Int → Int → D} (r : ∀ H i j, Rp K H (g i j) (f i j)) : OpD K (rI0 g) (oI0 f) := by
  intro F H0 m H x y dx dy P Q ok rx ry h gv
  unfold oI0 at h
  split at h
  · cases rx; cases ry
    exact ⟨_, _, rfl, rfl, gv.id ok (r _ _ _) h⟩
  · exact h.elim
abbrev oSub : DO := oI0 fun i j => .int (i - j)
abbrev oMul : DO := oI CMul fun i j => .int (i * j)
abbrev oDiv : DO := oI CDivW fun i j => .int (i / j)
abbrev oMod : DO := oI (fun _ j => 0 < j) fun i j => .int (i % j)
abbrev oPow : DO := oI CPow fun i j => .int (i ^ j.toNat)
theorem pd_sub (ha : PE X a (lE X.K W ra)) (hb : PE X b (lE X.K W rb)) : PE X (.BinOp a .Sub b pos) (lE X.K W (rOp oSub ra rb)) := pd_op op_sub (opI0_ok fun _ _ _ => .int _) ha hb
theorem pd_mul (ha : PE X a (lE X.K W ra)) (hb : PE X b (lE X.K W rb)) : PE X (.BinOp a .Mult b pos) (lE X.K W (rOp oMul ra rb)) := pd_op op_mul (opI_ok fun _ _ _ => .int _) ha hb
theorem pd_div (ha : PE X a (lE X.K W ra)) (hb : PE X b (lE X.K W rb)) : PE X (.BinOp a .FloorDiv b pos) (lE X.K W (rOp oDiv ra rb)) := pd_op op_fdivW (opI_ok fun _ _ _ => .int _) ha hb
theorem pd_mod (ha : PE X a (lE X.K W ra)) (hb : PE X b (lE X.K W rb)) : PE X (.BinOp a .Mod b pos) (lE X.K W (rOp oMod ra rb)) := pd_op op_mod (opI_ok fun _ _ _ => .int _) ha hb
theorem pd_pow (ha : PE X a (lE X.K W ra)) (hb : PE X b (lE X.K W rb)) : PE X (.BinOp a .Pow b pos) (lE X.K W (rOp oPow ra rb)) := pd_op op_pow (opI_ok fun _ _ _ => .int _) ha hb
/-! ### comparisons -/
abbrev oLt : DO := oI0 fun i j => .bl (decide (i < j))
abbrev oLe : DO := oI0 fun i j => .bl (decide (i ≤ j))
abbrev oGt : DO := oI0 fun i j => .bl (decide (j < i))
abbrev oGe : DO := oI0 fun i j => .bl (decide (j ≤ i))
theorem lt_ok : OpD X.K (rI0 fun i j => .bl (decide (i < j))) oLt := opI0_ok fun _ _ _ => .bl _
theorem le_ok : OpD X.K (rI0 fun i j => .bl (decide (i ≤ j))) oLe := opI0_ok fun _ _ _ => .bl _
theorem gt_ok : OpD X.K (rI0 fun i j => .bl (decide (j < i))) oGt := opI0_ok fun _ _ _ => .bl _
theorem ge_ok : OpD X.K (rI0 fun i j => .bl (decide (j ≤ i))) oGe := opI0_ok fun _ _ _ => .bl _

/-! ### data as the library's data -/
mutual
def py : D → PyData
  | .non => .none
  | .bl b => .bool b
  | .int i => .int i
  | .str x => .str x
  | .lst ds => .list (pyL ds)
  | .tup ds => .tuple (pyL ds)
  | .ty _ => .dict []
  | .adr _ => .dict []
  | .glb _ => .dict []
  | .exc _ _ _ _ _ => .dict []
  | .dct _ => .dict []
  | .ins _ _ => .dict []
def pyL : List D → List PyData
  | [] => []
  | d :: ds => py d :: pyL ds
end
mutual
theorem dp_of {K : PySem.W.Frag} {H : Hp} : ∀ {v : V} {d : D}, Rp K H v d → (py d).canLay0 = true → Dp K H v (py d)
  | _, _, .non, _ => by rw [py]; exact .non
  | _, _, .bl b, _ => by rw [py]; exact .bl b
  | _, _, .int i, _ => by rw [py]; exact .int i
  | _, _, .str x, _ => by rw [py]; exact .str x
  | _, _, .ty n, h => by rw [py, PyData.canLay0] at h; cases h
  | _, _, .adr a, h => by rw [py, PyData.canLay0] at h; cases h
  | _, _, .glb _, h => by rw [py, PyData.canLay0] at h; cases h
  | _, _, .exc _ _ _ _, h => by rw [py, PyData.canLay0] at h; cases h
  | _, _, .dct _ _ _, h => by rw [py, PyData.canLay0] at h; cases h
  | _, _, .ins _ _ _ _, h => by rw [py, PyData.canLay0] at h; cases h
  | _, _, .lst q r, h => by rw [py, PyData.canLay0] at h; rw [py]; exact .lst q (dpL_of r h)
  | _, _, .tup q r, h => by rw [py, PyData.canLay0] at h; rw [py]; exact .tup q (dpL_of r h)
theorem dpL_of {K : PySem.W.Frag} {H : Hp} : ∀ {vs : List V} {ds : List D}, RpL K H vs ds → PyData.canLayAll0 (pyL ds) = true → DpAll K H vs (pyL ds)
  | _, _, .nil, _ => by rw [pyL]; exact .nil
  | _, _, .cons q r, h => by
    rw [pyL, PyData.canLayAll0, Bool.and_eq_true] at h
    rw [pyL]
    exact .cons (dp_of q h.1) (dpL_of r h.2)
end
/-- a list of ours, read as data -/
def dat (m : Mu) (d : D) : D := match asL m d with
  | some ds => .lst ds
  | none => d
theorem dat_rp {K : PySem.W.Frag} {F : Hp} {H0 H : Hp} {m : Mu} {v : V} {d : D} (ok : Ok K F H0 m H) (r : Rp K H0 v d) : Rp K H v (dat m d) := by
  unfold dat
  split
  · rename_i ds e
    obtain ⟨p, vs, rfl, q, t⟩ := asL_rp ok r e
    exact .lst q (t.mono ok.same)
  · exact r.mono ok.same
def shp (d : D) : Prop := SeqAt.shaped (py d) = true
def deq (d e : D) : Bool := PyData.eqv (py d) (py e)
/-- two flat things whose == is plain -/
def flatEq : D → D → Option Bool
  | .non, .non => some true | .non, .int _ => some false | .int _, .non => some false | .non, .bl _ => some false | .bl _, .non => some false | .non, .str _ => some false | .str _, .non => some false
  | .int i, .int j => some (decide (i = j)) | .bl i, .bl j => some (decide (i = j)) | .str i, .str j => some (decide (i = j))
  | .int _, .str _ => some false | .str _, .int _ => some false | .bl _, .str _ => some false | .str _, .bl _ => some false
  | _, _ => none
def oEqN (neg : Bool) : DO := fun x y m P => match flatEq x y with
  | some k => P (.bl (if neg then !k else k)) m
  | none => shp (dat m x) ∧ shp (dat m y) ∧ P (.bl (if neg then !deq (dat m x) (dat m y) else deq (dat m x) (dat m y))) m
abbrev oEq : DO := oEqN false
abbrev oNe : DO := oEqN true
theorem flat_scal {K : PySem.W.Frag} {H : Hp} {x y : V} {dx dy : D} {k : Bool} (rx : Rp K H x dx) (ry : Rp K H y dy) (h : flatEq dx dy = some k) : scal x y = true ∧ decide (x = y) = k := by
  unfold flatEq at h
  split at h <;> first | (cases h; cases rx; cases ry; exact ⟨rfl, by simp⟩) | cases h
theorem eq_ok (hu : X.A.units + 64 < cLine) : ∃ r, OpR X (compareOp .Eq) r ∧ OpD X.K r oEq := by
  refine ⟨_, op_eq.or (op_eqD hu), ?_⟩
  intro F H0 m H x y dx dy P Q ok rx ry h g
  unfold oEq oEqN at h
  split at h
  · rename_i k e
    obtain ⟨h1, h2⟩ := flat_scal rx ry e
    exact .inl ⟨h1, by rw [h2]; exact g.id ok (.bl _) h⟩
  · obtain ⟨s1, s2, h⟩ := h
    exact .inr ⟨_, _, dp_of (dat_rp ok rx) (SeqAt.canLay_of_shaped s1), dp_of (dat_rp ok ry) (SeqAt.canLay_of_shaped s2), s1, s2, g.id ok (.bl _) h⟩
theorem ne_ok (hu : X.A.units + 64 < cLine) : ∃ r, OpR X (compareOp .NotEq) r ∧ OpD X.K r oNe := by
  refine ⟨_, op_ne.or (op_neD hu), ?_⟩
  intro F H0 m H x y dx dy P Q ok rx ry h g
  unfold oNe oEqN at h
  split at h
  · rename_i k e
    obtain ⟨h1, h2⟩ := flat_scal rx ry e
    exact .inl ⟨h1, by rw [h2]; exact g.id ok (.bl _) h⟩
  · obtain ⟨s1, s2, h⟩ := h
    exact .inr ⟨_, _, dp_of (dat_rp ok rx) (SeqAt.canLay_of_shaped s1), dp_of (dat_rp ok ry) (SeqAt.canLay_of_shaped s2), s1, s2, g.id ok (.bl _) h⟩
/-- is None -/
def isNone : D → Bool
  | .non => true
  | _ => false
def oIsN (neg : Bool) : DO := fun x y m P => match y with
  | .non => P (.bl (if neg then !isNone x else isNone x)) m
  | _ => False
theorem non_of {K : PySem.W.Frag} {H : Hp} {x : V} {dx : D} (rx : Rp K H x dx) : decide (x = .non) = isNone dx := by
  cases rx <;> simp [isNone]
theorem isN_ok : OpD X.K (fun x y H Q => y = .non ∧ Q (.bl (decide (x = .non))) H) (oIsN false) := by
  intro F H0 m H x y dx dy P Q ok rx ry h g
  unfold oIsN at h
  split at h
  · cases ry
    exact ⟨rfl, by rw [non_of rx]; exact g.id ok (.bl _) h⟩
  · exact h.elim
theorem notN_ok : OpD X.K (fun x y H Q => y = .non ∧ Q (.bl (!decide (x = .non))) H) (oIsN true) := by
  intro F H0 m H x y dx dy P Q ok rx ry h g
  unfold oIsN at h
  split at h
  · cases ry
    exact ⟨rfl, by rw [non_of rx]; exact g.id ok (.bl _) h⟩
  · exact h.elim
theorem pd_lt (ha : PE X a (lE X.K W ra)) (hb : PE X b (lE X.K W rb)) : PE X (.Compare a [.Lt] [b] pos) (lE X.K W (rOp oLt ra rb)) := pd_cmp op_lt lt_ok ha hb
theorem pd_le (ha : PE X a (lE X.K W ra)) (hb : PE X b (lE X.K W rb)) : PE X (.Compare a [.LtE] [b] pos) (lE X.K W (rOp oLe ra rb)) := pd_cmp op_le le_ok ha hb
theorem pd_gt (ha : PE X a (lE X.K W ra)) (hb : PE X b (lE X.K W rb)) : PE X (.Compare a [.Gt] [b] pos) (lE X.K W (rOp oGt ra rb)) := pd_cmp op_gt gt_ok ha hb
theorem pd_ge (ha : PE X a (lE X.K W ra)) (hb : PE X b (lE X.K W rb)) : PE X (.Compare a [.GtE] [b] pos) (lE X.K W (rOp oGe ra rb)) := pd_cmp op_ge ge_ok ha hb
theorem pd_eq (hu : X.A.units + 64 < cLine) (ha : PE X a (lE X.K W ra)) (hb : PE X b (lE X.K W rb)) : PE X (.Compare a [.Eq] [b] pos) (lE X.K W (rOp oEq ra rb)) := let ⟨_, h1, h2⟩ := eq_ok hu; pd_cmp h1 h2 ha hb
theorem pd_ne (hu : X.A.units + 64 < cLine) (ha : PE X a (lE X.K W ra)) (hb : PE X b (lE X.K W rb)) : PE X (.Compare a [.NotEq] [b] pos) (lE X.K W (rOp oNe ra rb)) := let ⟨_, h1, h2⟩ := ne_ok hu; pd_cmp h1 h2 ha hb
theorem pd_isN (ha : PE X a (lE X.K W ra)) (hb : PE X b (lE X.K W rb)) : PE X (.Compare a [.Is] [b] pos) (lE X.K W (rOp (oIsN false) ra rb)) := pd_cmp op_isN isN_ok ha hb
theorem pd_notN (ha : PE X a (lE X.K W ra)) (hb : PE X b (lE X.K W rb)) : PE X (.Compare a [.IsNot] [b] pos) (lE X.K W (rOp (oIsN true) ra rb)) := pd_cmp op_notN notN_ok ha hb
/-! ### in -/
def flatD : D → Bool
  | .non => true | .bl _ => true | .int _ => true | .str _ => true | _ => false
def inStr (w z : Str) : Bool := match w.cps.toList with
  | [c] => decide (c ∈ z.cps.toList)
  | _ => !(Builtin.Str.occurrences z w 0 z.length 1).isEmpty
def oInN (neg : Bool) : DO := fun x y m P => match y with
  | .str z => match x with
    | .str w => P (.bl (if neg then !inStr w z else inStr w z)) m
    | _ => False
  | .tup ds => (flatD x = true ∧ ds.all flatD = true) ∧ P (.bl (if neg then !ds.any (fun z => deq z x) else ds.any fun z => deq z x)) m
  | y => match asL m y with
    | some ds => ((flatD x = true ∧ ds.all flatD = true) ∨ (shp (dat m x) ∧ shp (.lst ds))) ∧ P (.bl (if neg then !ds.any (fun z => deq z (dat m x)) else ds.any fun z => deq z (dat m x))) m
    | none => False
theorem flat_rp {K : PySem.W.Frag} {H : Hp} {x : V} {dx : D} (rx : Rp K H x dx) (h : flatD dx = true) : flatV x = true := by
  cases rx <;> first | rfl | cases h
theorem flatL_rp {K : PySem.W.Frag} {H : Hp} : ∀ {vs : List V} {ds : List D}, RpL K H vs ds → ds.all flatD = true → vs.all flatV = true
  | _, _, .nil, _ => rfl
  | _, _, .cons q r, h => by
    simp only [List.all_cons, Bool.and_eq_true] at h ⊢
    exact ⟨flat_rp q h.1, flatL_rp r h.2⟩
theorem flat_eq {K : PySem.W.Frag} {H H' : Hp} {x y : V} {dx dy : D} (rx : Rp K H x dx) (ry : Rp K H' y dy) (h : flatD dx = true) (h' : flatD dy = true) : eqV x y = deq dx dy := by
  unfold deq
  cases rx <;> first | cases h | skip
  all_goals (cases ry <;> first | cases h' | skip)
  all_goals (simp only [py, PyData.eqv, eqV])
theorem flat_any {K : PySem.W.Frag} {H H' : Hp} {x : V} {dx : D} (rx : Rp K H' x dx) (hx : flatD dx = true) : ∀ {vs : List V} {ds : List D}, RpL K H vs ds → ds.all flatD = true → inV x vs = ds.any fun z => deq z dx
  | _, _, .nil, _ => rfl
  | _, _, .cons q r, h => by
    simp only [List.all_cons, Bool.and_eq_true] at h
    have ih := flat_any rx hx r h.2
    unfold inV at ih ⊢
    simp only [List.any_cons]
    rw [ih, flat_eq q rx h.1 hx]
theorem dat_flat {m : Mu} {d : D} (h : flatD d = true) : dat m d = d := by
  cases d <;> first | rfl | cases h
theorem pyL_any (d : PyData) : ∀ ds : List D, (pyL ds).any (fun z => PyData.eqv z d) = ds.any fun z => PyData.eqv (py z) d
  | [] => by rw [pyL]; rfl
  | e :: ds => by rw [pyL, List.any_cons, List.any_cons, pyL_any d ds]
theorem in_core (neg : Bool) (hu : X.A.units + 65 < cLine) {op : CmpOp} (h1 : OpR X (compareOp op) (fun x y H Q => ∃ i j, x = .str i ∧ y = .str j ∧ Q (.bl (if neg then !(!(Builtin.Str.occurrences j i 0 j.length 1).isEmpty) else !(Builtin.Str.occurrences j i 0 j.length 1).isEmpty)) H))
    (h2 : OpR X (compareOp op) (fun x y H Q => ∃ (c : Nat) (z : Str), x = .str ⟨#[c]⟩ ∧ y = .str z ∧ Q (.bl (if neg then !decide (c ∈ z.cps.toList) else decide (c ∈ z.cps.toList))) H)) (h3 : OpR X (compareOp op) (rIn X.K neg))
    (h4 : OpR X (compareOp op) (fun x y H Q => ∃ d ds, Dp X.K H x d ∧ Dp X.K H y (.list ds) ∧ SeqAt.shaped d = true ∧ SeqAt.shaped (.list ds) = true ∧ Q (.bl (if neg then !ds.any fun z => PyData.eqv z d else ds.any fun z => PyData.eqv z d)) H)) :
    ∃ r, OpR X (compareOp op) r ∧ OpD X.K r (oInN neg) := by
  refine ⟨_, h1.or (h2.or (h3.or h4)), ?_⟩
  intro F H0 m H x y dx dy P Q ok rx ry h g
  unfold oInN at h
  split at h
  · rename_i z
    split at h
    · rename_i w
      cases rx; cases ry
      by_cases hc : ∃ c, w.cps.toList = [c]
      · obtain ⟨c, hc⟩ := hc
        have e : inStr w z = decide (c ∈ z.cps.toList) := by unfold inStr; rw [hc]
        rw [e] at h
        refine .inr (.inl ⟨c, z, ?_, rfl, g.id ok (.bl _) h⟩)
        obtain ⟨cp⟩ := w
        have : cp = #[c] := by
          have h2 : cp.toList = [c] := hc
          have := congrArg List.toArray h2
          simpa using this
        rw [this]
      · have e : inStr w z = !(Builtin.Str.occurrences z w 0 z.length 1).isEmpty := by
          unfold inStr
          split
          · rename_i c hw
            exact absurd ⟨c, hw⟩ hc
          · rfl
        rw [e] at h
        exact .inl ⟨w, z, rfl, rfl, g.id ok (.bl _) h⟩
    · exact h.elim
  · rename_i ds
    obtain ⟨⟨f1, f2⟩, h⟩ := h
    obtain ⟨p, vs, rfl, q, r⟩ := tup_rp ok ry
    refine .inr (.inr (.inl ⟨p, vs, rfl, .inr q, flat_rp rx f1, flatL_rp r f2, ?_⟩))
    rw [flat_any rx f1 r f2]
    exact g.id ok (.bl _) h
  · split at h
    · rename_i ds e
      obtain ⟨f, h⟩ := h
      obtain ⟨p, vs, rfl, q, r⟩ := asL_rp ok ry e
      rcases f with ⟨f1, f2⟩ | ⟨s1, s2⟩
      · refine .inr (.inr (.inl ⟨p, vs, rfl, .inl q, flat_rp rx f1, flatL_rp r f2, ?_⟩))
        rw [dat_flat f1] at h
        rw [flat_any rx f1 r f2]
        exact g.id ok (.bl _) h
      · have e2 : py (.lst ds) = .list (pyL ds) := by rw [py]
        have s2' := s2
        unfold shp at s2'
        rw [e2] at s2'
        have hd := dp_of (Rp.lst q (r.mono ok.same)) (SeqAt.canLay_of_shaped s2)
        rw [e2] at hd
        refine .inr (.inr (.inr ⟨_, _, dp_of (dat_rp ok rx) (SeqAt.canLay_of_shaped s1), hd, s1, s2', ?_⟩))
        rw [pyL_any]
        exact g.id ok (.bl _) h
    · exact h.elim
theorem in_ok (hu : X.A.units + 65 < cLine) : ∃ r, OpR X (compareOp .In) r ∧ OpD X.K r (oInN false) := in_core false hu op_in_str (by
  intro pins s σ H x y v u Q I rx ry h
  exact op_in_sign pins s σ H x y v u Q I rx ry h) op_in_seq (op_inD hu)
theorem notIn_ok (hu : X.A.units + 65 < cLine) : ∃ r, OpR X (compareOp .NotIn) r ∧ OpD X.K r (oInN true) := in_core true hu op_notin_str (by
  intro pins s σ H x y v u Q I rx ry h
  exact op_notIn_sign pins s σ H x y v u Q I rx ry h) op_notIn_seq (op_notInD hu)
theorem pd_in (hu : X.A.units + 65 < cLine) (ha : PE X a (lE X.K W ra)) (hb : PE X b (lE X.K W rb)) (hm : behindInMarks .In b = false := by rfl) : PE X (.Compare a [.In] [b] pos) (lE X.K W (rOp (oInN false) ra rb)) := let ⟨_, h1, h2⟩ := in_ok hu; pd_cmp h1 h2 ha hb hm
theorem pd_notIn (hu : X.A.units + 65 < cLine) (ha : PE X a (lE X.K W ra)) (hb : PE X b (lE X.K W rb)) (hm : behindInMarks .NotIn b = false := by rfl) : PE X (.Compare a [.NotIn] [b] pos) (lE X.K W (rOp (oInN true) ra rb)) := let ⟨_, h1, h2⟩ := notIn_ok hu; pd_cmp h1 h2 ha hb hm
end
end DL

namespace DL
open PySem L2
section
variable {X : Cx} {W : WX} {a b c : Expr} {ra rb rc : DE} {pos : Pos}
/-! ### tests -/
def truD (m : Mu) : D → Option Bool
  | .non => some false
  | .bl b => some b
  | .int i => some (i != 0)
  | .tup ds => some (!ds.isEmpty)
  | d => match asL m d with
    | some ds => some (!ds.isEmpty)
    | none => none
def rTru (ra : DE) : DT := fun δ m P PX => ra δ m (fun x m1 => match x with
  | .bl b => P b m1
  | .str y => y.length ≤ sizeLine ∧ P ((y.length : Int) != 0) m1
  | x => match truD m1 x with
    | some k => P k m1
    | none => False) PX
theorem isEmpty_rp {K : PySem.W.Frag} {H : Hp} {vs : List V} {ds : List D} (r : RpL K H vs ds) : vs.isEmpty = ds.isEmpty := by cases r <;> rfl
theorem tru_rp {K : PySem.W.Frag} {F : Hp} {H0 H : Hp} {m : Mu} {v : V} {d : D} {k : Bool} (ok : Ok K F H0 m H) (r : Rp K H0 v d) (h : truD m d = some k) : TruV K v H k := by
  have fin : (match asL m d with | some ds => some (!ds.isEmpty) | none => none) = some k → TruV K v H k := fun h => by
    split at h
    · rename_i ds e
      cases h
      obtain ⟨p, vs, rfl, q, t⟩ := asL_rp ok r e
      exact .inl ⟨vs, q, by rw [isEmpty_rp t]⟩
    · cases h
  cases r with
  | non => cases h; rfl
  | bl b => cases h; rfl
  | int i => cases h; rfl
  | str x => exact fin h
  | ty n => exact fin h
  | adr p => exact fin h
  | lst q t => exact fin h
  | tup q t => cases h; exact .inr (.inl ⟨_, seqT_mono ok.same q, by rw [isEmpty_rp t]⟩)
  | dct _ _ _ => exact fin h
  | ins _ _ _ _ => exact fin h
  | glb _ => exact fin h
  | exc _ _ _ _ => exact fin h
theorem dt_tru (ha : PE X a (lE X.K W ra)) (he : ∀ whole, isTrue a X.env whole = (do let v ← whole; standAt a.pos; holding [v] (truthy v)) := by intro _; rfl) : PT X a (lT X.K W (rTru ra)) := by
  refine PT.imp (pt_truth ha he) fun σ H Q h => ?_
  obtain ⟨F, H0, m, δ, P, PX, ok, rs, h, g, gx⟩ := h
  refine ⟨F, H0, m, δ, _, PX, ok, rs, h, fun x H1 H01 m1 d s1 ok1 r1 h1 => ?_, gx⟩
  dsimp only at h1
  split at h1
  · cases r1
    exact ⟨_, rfl, g _ _ _ _ s1 ok1 h1⟩
  · cases r1
    exact ⟨_, ⟨h1.1, rfl⟩, g _ _ _ _ s1 ok1 h1.2⟩
  · split at h1
    · rename_i k e
      exact ⟨_, tru_rp ok1 r1 e, g _ _ _ _ s1 ok1 h1⟩
    · exact h1.elim
/-- a comparison as a test -/
def rTst (ra : DE) : DT := fun δ m P PX => ra δ m (fun x m1 => match x with | .bl b => P b m1 | _ => False) PX
theorem lT_test {K : PySem.W.Frag} {σ : St} {H : Hp} {Q : Bool → Hp → Prop} (h : lT K W (rTst ra) σ H Q) : tTest (lE K W ra) σ H Q := by
  obtain ⟨F, H0, m, δ, P, PX, ok, rs, h, g, gx⟩ := h
  refine ⟨F, H0, m, δ, _, PX, ok, rs, h, fun x H1 H01 m1 d s1 ok1 r1 h1 => ?_, gx⟩
  dsimp only at h1
  split at h1
  · cases r1
    exact ⟨_, rfl, g _ _ _ _ s1 ok1 h1⟩
  · exact h1.elim
theorem tOp_mono {K : PySem.W.Frag} {r : R2} {ro : DO} (od : OpD K r ro) {σ : St} {H : Hp} {Q : Bool → Hp → Prop} (h : lT K W (rTst (rOp ro ra rb)) σ H Q) : tTest (tOp r (lE K W ra) (lE K W rb)) σ H Q := lE_op od (lT_test h)
theorem dt_cmp {op : CmpOp} {r : R2} {ro : DO} (ho : OpR X (compareOp op) r) (od : OpD X.K r ro) (ha : PE X a (lE X.K W ra)) (hb : PE X b (lE X.K W rb)) (hm : behindInMarks op b = false := by first | exact nomark _ | rfl) : PT X (.Compare a [op] [b] pos) (lT X.K W (rTst (rOp ro ra rb))) :=
  PT.imp (pt_cmpR ho ha hb hm) fun _ _ _ h => tOp_mono od h
theorem dt_lt (ha : PE X a (lE X.K W ra)) (hb : PE X b (lE X.K W rb)) : PT X (.Compare a [.Lt] [b] pos) (lT X.K W (rTst (rOp oLt ra rb))) := dt_cmp op_lt lt_ok ha hb
theorem dt_le (ha : PE X a (lE X.K W ra)) (hb : PE X b (lE X.K W rb)) : PT X (.Compare a [.LtE] [b] pos) (lT X.K W (rTst (rOp oLe ra rb))) := dt_cmp op_le le_ok ha hb
theorem dt_gt (ha : PE X a (lE X.K W ra)) (hb : PE X b (lE X.K W rb)) : PT X (.Compare a [.Gt] [b] pos) (lT X.K W (rTst (rOp oGt ra rb))) := dt_cmp op_gt gt_ok ha hb
theorem dt_ge (ha : PE X a (lE X.K W ra)) (hb : PE X b (lE X.K W rb)) : PT X (.Compare a [.GtE] [b] pos) (lT X.K W (rTst (rOp oGe ra rb))) := dt_cmp op_ge ge_ok ha hb
theorem dt_eq (hu : X.A.units + 64 < cLine) (ha : PE X a (lE X.K W ra)) (hb : PE X b (lE X.K W rb)) : PT X (.Compare a [.Eq] [b] pos) (lT X.K W (rTst (rOp oEq ra rb))) := let ⟨_, h1, h2⟩ := eq_ok hu; dt_cmp h1 h2 ha hb
theorem dt_ne (hu : X.A.units + 64 < cLine) (ha : PE X a (lE X.K W ra)) (hb : PE X b (lE X.K W rb)) : PT X (.Compare a [.NotEq] [b] pos) (lT X.K W (rTst (rOp oNe ra rb))) := let ⟨_, h1, h2⟩ := ne_ok hu; dt_cmp h1 h2 ha hb
theorem dt_isN (ha : PE X a (lE X.K W ra)) (hb : PE X b (lE X.K W rb)) : PT X (.Compare a [.Is] [b] pos) (lT X.K W (rTst (rOp (oIsN false) ra rb))) := dt_cmp op_isN isN_ok ha hb
theorem dt_notN (ha : PE X a (lE X.K W ra)) (hb : PE X b (lE X.K W rb)) : PT X (.Compare a [.IsNot] [b] pos) (lT X.K W (rTst (rOp (oIsN true) ra rb))) := dt_cmp op_notN notN_ok ha hb
theorem dt_in (hu : X.A.units + 65 < cLine) (ha : PE X a (lE X.K W ra)) (hb : PE X b (lE X.K W rb)) (hm : behindInMarks .In b = false := by rfl) : PT X (.Compare a [.In] [b] pos) (lT X.K W (rTst (rOp (oInN false) ra rb))) := let ⟨_, h1, h2⟩ := in_ok hu; dt_cmp h1 h2 ha hb hm
theorem dt_notIn (hu : X.A.units + 65 < cLine) (ha : PE X a (lE X.K W ra)) (hb : PE X b (lE X.K W rb)) (hm : behindInMarks .NotIn b = false := by rfl) : PT X (.Compare a [.NotIn] [b] pos) (lT X.K W (rTst (rOp (oInN true) ra rb))) := let ⟨_, h1, h2⟩ := notIn_ok hu; dt_cmp h1 h2 ha hb hm
/-! ### chains of whole numbers -/
def rChain (ro ro' : DO) (ra rb rc : DE) : DE := fun δ m P PX => ra δ m (fun x m1 => rb δ m1 (fun y m2 => ro x y m2 fun z m3 => match z with
  | .bl true => rc δ m3 (fun w m4 => ro' y w m4 P) PX
  | .bl false => P (.bl false) m3
  | _ => False) PX) PX
theorem lE_chain {K : PySem.W.Frag} {r r' : R2} {ro ro' : DO} (od : OpD K r ro) (od' : OpD K r' ro') {σ : St} {H : Hp} {Q : VK} (h : lE K W (rChain ro ro' ra rb rc) σ H Q) : tChain r r' (lE K W ra) (lE K W rb) (lE K W rc) σ H Q := by
  obtain ⟨F, H0, m, δ, P, PX, ok, rs, h, g, gx⟩ := h
  refine ⟨F, H0, m, δ, _, PX, ok, rs, h, fun x H1 H01 m1 d1 s1 ok1 r1 h1 => ⟨F, H01, m1, δ, _, PX, ok1, rs.mono s1, h1, fun y H2 H02 m2 d2 s2 ok2 r2 h2 => ?_, gx.mono s1⟩, gx⟩
  refine od F H02 m2 H2 x y d1 d2 _ _ ok2 (r1.mono s2) r2 h2 fun z H3 H03 m3 d3 s3 ok3 r3 h3 => ?_
  split at h3
  · cases r3
    refine ⟨true, rfl, ?_⟩
    rw [if_pos rfl]
    have s13 := (s1.trans s2).trans s3
    exact ⟨F, H03, m3, δ, _, PX, ok3, rs.mono s13, h3, fun w H4 H04 m4 d4 s4 ok4 r4 h4 => od' F H04 m4 H4 y w d2 d4 P Q ok4 (r2.mono (s3.trans s4)) r4 h4 (g.mono (s13.trans s4)), gx.mono s13⟩
  · cases r3
    refine ⟨false, rfl, ?_⟩
    rw [if_neg Bool.false_ne_true]
    exact g _ _ _ _ _ ((s1.trans s2).trans s3) ok3 (.bl _) h3
  · exact h3.elim
theorem pd_chain {op op' : CmpOp} {r r' : R2} {ro ro' : DO} (ho : OpR X (compareOp op) r) (ho' : OpR X (compareOp op') r') (od : OpD X.K r ro) (od' : OpD X.K r' ro') (ha : PE X a (lE X.K W ra)) (hb : PE X b (lE X.K W rb)) (hc : PE X c (lE X.K W rc))
    (hm : lastMarks [op, op'] [b, c] = false := by with_unfolding_all rfl) : PE X (.Compare a [op, op'] [b, c] pos) (lE X.K W (rChain ro ro' ra rb rc)) := PE.imp (pe_chain ho ho' ha hb hc hm) fun _ _ _ h => lE_chain od od' h
theorem dt_chain {op op' : CmpOp} {r r' : R2} {ro ro' : DO} (ho : OpR X (compareOp op) r) (ho' : OpR X (compareOp op') r') (od : OpD X.K r ro) (od' : OpD X.K r' ro') (ha : PE X a (lE X.K W ra)) (hb : PE X b (lE X.K W rb)) (hc : PE X c (lE X.K W rc))
    (hm : lastMarks [op, op'] [b, c] = false := by with_unfolding_all rfl) : PT X (.Compare a [op, op'] [b, c] pos) (lT X.K W (rTst (rChain ro ro' ra rb rc))) := PT.imp (pt_chain ho ho' ha hb hc hm) fun _ _ _ h => lE_chain od od' (lT_test h)
/-! ### and, or, not, if -/
variable {qa qb : DT} {rest : List Expr}
def rAnd (qa qb : DT) : DT := fun δ m P PX => qa δ m (fun k m1 => match k with | true => qb δ m1 P PX | false => P false m1) PX
def rOr (qa qb : DT) : DT := fun δ m P PX => qa δ m (fun k m1 => match k with | true => P true m1 | false => qb δ m1 P PX) PX
def rNot (qa : DT) : DT := fun δ m P PX => qa δ m (fun k m1 => P (!k) m1) PX
theorem dw_and1 (ha : PT X a (lT X.K W qa)) : PW X (.BoolOp .And [a] pos) (lT X.K W qa) := pw_and1 ha
theorem dw_or1 (ha : PT X a (lT X.K W qa)) : PW X (.BoolOp .Or [a] pos) (lT X.K W qa) := pw_or1 ha
theorem dw_and (ha : PT X a (lT X.K W qa)) (hb : PW X (.BoolOp .And (b :: rest) pos) (lT X.K W qb)) : PW X (.BoolOp .And (a :: b :: rest) pos) (lT X.K W (rAnd qa qb)) := by
  refine PW.imp (pw_and ha hb) fun σ H Q h => ?_
  obtain ⟨F, H0, m, δ, P, PX, ok, rs, h, g, gx⟩ := h
  refine ⟨F, H0, m, δ, _, PX, ok, rs, h, fun k H1 H01 m1 s1 ok1 h1 => ?_, gx⟩
  cases k with
  | true => rw [if_pos rfl]; exact ⟨F, H01, m1, δ, P, PX, ok1, rs.mono s1, h1, g.mono s1, gx.mono s1⟩
  | false => rw [if_neg Bool.false_ne_true]; exact g _ _ _ _ s1 ok1 h1
theorem dw_or (ha : PT X a (lT X.K W qa)) (hb : PW X (.BoolOp .Or (b :: rest) pos) (lT X.K W qb)) : PW X (.BoolOp .Or (a :: b :: rest) pos) (lT X.K W (rOr qa qb)) := by
  refine PW.imp (pw_or ha hb) fun σ H Q h => ?_
  obtain ⟨F, H0, m, δ, P, PX, ok, rs, h, g, gx⟩ := h
  refine ⟨F, H0, m, δ, _, PX, ok, rs, h, fun k H1 H01 m1 s1 ok1 h1 => ?_, gx⟩
  cases k with
  | true => rw [if_pos rfl]; exact g _ _ _ _ s1 ok1 h1
  | false => rw [if_neg Bool.false_ne_true]; exact ⟨F, H01, m1, δ, P, PX, ok1, rs.mono s1, h1, g.mono s1, gx.mono s1⟩
theorem dt_not (ha : PT X a (lT X.K W qa)) : PT X (.UnaryOp .Not a pos) (lT X.K W (rNot qa)) := by
  refine PT.imp (pt_not ha) fun σ H Q h => ?_
  obtain ⟨F, H0, m, δ, P, PX, ok, rs, h, g, gx⟩ := h
  exact ⟨F, H0, m, δ, _, PX, ok, rs, h, fun k H1 H01 m1 s1 ok1 h1 => g _ _ _ _ s1 ok1 h1, gx⟩
/-- as values, truths -/
def rAndV (ra rb : DE) : DE := fun δ m P PX => ra δ m (fun x m1 => match x with | .bl true => rb δ m1 P PX | .bl false => P (.bl false) m1 | _ => False) PX
def rOrV (ra rb : DE) : DE := fun δ m P PX => ra δ m (fun x m1 => match x with | .bl true => P (.bl true) m1 | .bl false => rb δ m1 P PX | _ => False) PX
def rNotV (ra : DE) : DE := fun δ m P PX => ra δ m (fun x m1 => match x with | .bl k => P (.bl (!k)) m1 | _ => False) PX
theorem pd_one {op} (h : PE X a (lE X.K W ra)) : PE X (.BoolOp op [a] pos) (lE X.K W ra) := pe_one h
theorem pd_and (ha : PE X a (lE X.K W ra)) (hb : PE X (.BoolOp .And (b :: rest) pos) (lE X.K W rb)) : PE X (.BoolOp .And (a :: b :: rest) pos) (lE X.K W (rAndV ra rb)) := by
  refine PE.imp (pe_and ha hb) fun σ H Q h => ?_
  obtain ⟨F, H0, m, δ, P, PX, ok, rs, h, g, gx⟩ := h
  refine ⟨F, H0, m, δ, _, PX, ok, rs, h, fun x H1 H01 m1 d s1 ok1 r1 h1 => ?_, gx⟩
  dsimp only at h1
  split at h1
  · cases r1
    exact ⟨true, rfl, by rw [if_pos rfl]; exact ⟨F, H01, m1, δ, P, PX, ok1, rs.mono s1, h1, g.mono s1, gx.mono s1⟩⟩
  · cases r1
    exact ⟨false, rfl, by rw [if_neg Bool.false_ne_true]; exact g _ _ _ _ _ s1 ok1 (.bl _) h1⟩
  · exact h1.elim
theorem pd_or (ha : PE X a (lE X.K W ra)) (hb : PE X (.BoolOp .Or (b :: rest) pos) (lE X.K W rb)) : PE X (.BoolOp .Or (a :: b :: rest) pos) (lE X.K W (rOrV ra rb)) := by
  refine PE.imp (pe_or ha hb) fun σ H Q h => ?_
  obtain ⟨F, H0, m, δ, P, PX, ok, rs, h, g, gx⟩ := h
  refine ⟨F, H0, m, δ, _, PX, ok, rs, h, fun x H1 H01 m1 d s1 ok1 r1 h1 => ?_, gx⟩
  dsimp only at h1
  split at h1
  · cases r1
    exact ⟨true, rfl, by rw [if_pos rfl]; exact g _ _ _ _ _ s1 ok1 (.bl _) h1⟩
  · cases r1
    exact ⟨false, rfl, by rw [if_neg Bool.false_ne_true]; exact ⟨F, H01, m1, δ, P, PX, ok1, rs.mono s1, h1, g.mono s1, gx.mono s1⟩⟩
  · exact h1.elim
theorem pd_not (ha : PE X a (lE X.K W ra)) : PE X (.UnaryOp .Not a pos) (lE X.K W (rNotV ra)) := by
  refine PE.imp (pe_not ha) fun σ H Q h => ?_
  obtain ⟨F, H0, m, δ, P, PX, ok, rs, h, g, gx⟩ := h
  refine ⟨F, H0, m, δ, _, PX, ok, rs, h, fun x H1 H01 m1 d s1 ok1 r1 h1 => ?_, gx⟩
  dsimp only at h1
  split at h1
  · cases r1
    exact ⟨_, rfl, g _ _ _ _ _ s1 ok1 (.bl _) h1⟩
  · exact h1.elim
def rIfE (qa : DT) (ra rb : DE) : DE := fun δ m P PX => qa δ m (fun k m1 => match k with | true => ra δ m1 P PX | false => rb δ m1 P PX) PX
theorem pd_if (hc : PT X c (lT X.K W qa)) (ha : PE X a (lE X.K W ra)) (hb : PE X b (lE X.K W rb)) : PE X (.IfExp c a b pos) (lE X.K W (rIfE qa ra rb)) := by
  refine PE.imp (pe_ifExp hc ha hb) fun σ H Q h => ?_
  obtain ⟨F, H0, m, δ, P, PX, ok, rs, h, g, gx⟩ := h
  refine ⟨F, H0, m, δ, _, PX, ok, rs, h, fun k H1 H01 m1 s1 ok1 h1 => ?_, gx⟩
  cases k with
  | true => rw [if_pos rfl]; exact ⟨F, H01, m1, δ, P, PX, ok1, rs.mono s1, h1, g.mono s1, gx.mono s1⟩
  | false => rw [if_neg Bool.false_ne_true]; exact ⟨F, H01, m1, δ, P, PX, ok1, rs.mono s1, h1, g.mono s1, gx.mono s1⟩
/-! ### arguments, displays -/
variable {e : Expr} {es : List Expr} {qs : DA}
def rNil : DA := fun _ m P _ => P [] m
def rCons (ra : DE) (qs : DA) : DA := fun δ m P PX => ra δ m (fun x m1 => qs δ m1 (fun xs m2 => P (x :: xs) m2) PX) PX
theorem da_nil : PA X [] (lA X.K W rNil) := by
  refine PA.imp pa_nil fun σ H Q h => ?_
  obtain ⟨F, H0, m, δ, P, PX, ok, rs, h, g, gx⟩ := h
  exact g _ _ _ _ _ (Same.refl _) ok .nil h
theorem da_cons (ha : PE X e (lE X.K W ra)) (hr : PA X es (lA X.K W qs)) (hs : starEach (e :: es) X.env = (false, eval e X.env) :: starEach es X.env := by rfl) : PA X (e :: es) (lA X.K W (rCons ra qs)) := by
  refine PA.imp (pa_cons ha hr hs) fun σ H Q h => ?_
  obtain ⟨F, H0, m, δ, P, PX, ok, rs, h, g, gx⟩ := h
  exact ⟨F, H0, m, δ, _, PX, ok, rs, h, fun x H1 H01 m1 d s1 ok1 r1 h1 => ⟨F, H01, m1, δ, _, PX, ok1, rs.mono s1, h1, fun xs H2 H02 m2 ds s2 ok2 r2 h2 => g _ _ _ _ _ (s1.trans s2) ok2 (.cons (r1.mono s2) r2) h2, gx.mono s1⟩, gx⟩
def rTup (qs : DA) : DE := fun δ m P PX => qs δ m (fun xs m1 => xs.length ≤ sizeLine ∧ P (.tup xs) m1) PX
def rLst (qs : DA) : DE := fun δ m P PX => qs δ m (fun xs m1 => xs.length ≤ sizeLine ∧ P (.lst xs) m1) PX
theorem pd_tup {x1} (h : PA X es (lA X.K W qs)) : PE X (.Tuple es x1 pos) (lE X.K W (rTup qs)) := by
  refine PE.imp (pe_tup h) fun σ H Q h => ?_
  obtain ⟨F, H0, m, δ, P, PX, ok, rs, h, g, gx⟩ := h
  exact ⟨F, H0, m, δ, _, PX, ok, rs, h, fun xs H1 H01 m1 ds s1 ok1 r1 h1 => ⟨by rw [r1.length]; exact h1.1, fun p hp => (g.mono s1).tup ok1 hp r1 h1.2⟩, gx⟩
theorem pd_lst (h : PA X es (lA X.K W qs)) : PE X (.List es pos) (lE X.K W (rLst qs)) := by
  refine PE.imp (pe_lst h) fun σ H Q h => ?_
  obtain ⟨F, H0, m, δ, P, PX, ok, rs, h, g, gx⟩ := h
  exact ⟨F, H0, m, δ, _, PX, ok, rs, h, fun xs H1 H01 m1 ds s1 ok1 r1 h1 => ⟨by rw [r1.length]; exact h1.1, fun p hp => (g.mono s1).lst ok1 hp r1 h1.2⟩, gx⟩
/-- a list of ours -/
def rLstM (qs : DA) : DE := fun δ m P PX => qs δ m (fun xs m1 => xs.length ≤ sizeLine ∧ ∀ p, m1 p = none → P (.adr p) (mset m1 p (.lst xs))) PX
theorem GV.lstM {K : PySem.W.Frag} {F : Hp} {H0 H : Hp} {m : Mu} {P : DK} {Q : VK} {p : Addr} {vs : List V} {ds : List D} (g : GV K F H0 P Q) (ok : Ok K F H0 m H) (hp : H p = none) (r : RpL K H0 vs ds) (h : ∀ p, m p = none → P (.adr p) (mset m p (.lst ds))) : Q (.ref p) (upd H p (.lst vs)) :=
  g _ _ H0 _ _ (Same.refl _) (ok.newM (o := .lst ds) hp ⟨vs, upd_same, r⟩) (.adr p) (h p (ok.free hp).2)
theorem pd_lstM (h : PA X es (lA X.K W qs)) : PE X (.List es pos) (lE X.K W (rLstM qs)) := by
  refine PE.imp (pe_lst h) fun σ H Q h => ?_
  obtain ⟨F, H0, m, δ, P, PX, ok, rs, h, g, gx⟩ := h
  exact ⟨F, H0, m, δ, _, PX, ok, rs, h, fun xs H1 H01 m1 ds s1 ok1 r1 h1 => ⟨by rw [r1.length]; exact h1.1, fun p hp => (g.mono s1).lstM ok1 hp r1 h1.2⟩, gx⟩
/-! ### items, slices -/
def oIx : DO := fun x y m P => match y with
  | .int i => match x with
    | .tup ds => match atI ds i with
      | some d => P d m
      | none => False
    | .str z => z.length ≤ sizeLine ∧ match atI z.cps.toList i with
      | some c => P (.str ⟨#[c]⟩) m
      | none => False
    | x => match asL m x with
      | some ds => match atI ds i with
        | some d => P d m
        | none => False
      | none => False
  | _ => False
theorem ix_ok {K : PySem.W.Frag} : OpD K (fun x y H Q => rIxL K x y H Q ∨ rIxT K x y H Q ∨ rIxS x y H Q) oIx := by
  intro F H0 m H x y dx dy P Q ok rx ry h g
  unfold oIx at h
  split at h
  · rename_i i
    cases ry
    split at h
    · rename_i ds
      obtain ⟨p, vs, rfl, q, r⟩ := tup_rp ok rx
      split at h
      · rename_i d e
        obtain ⟨v, e2, rv⟩ := r.at_ e
        exact .inr (.inl ⟨p, vs, i, v, rfl, rfl, q, e2, g.id ok rv h⟩)
      · exact h.elim
    · rename_i z
      cases rx
      obtain ⟨hz, h⟩ := h
      split at h
      · rename_i c e
        exact .inr (.inr ⟨z, i, c, rfl, rfl, hz, e, g.id ok (.str _) h⟩)
      · exact h.elim
    · split at h
      · rename_i ds e
        obtain ⟨p, vs, rfl, q, r⟩ := asL_rp ok rx e
        split at h
        · rename_i d e
          obtain ⟨v, e2, rv⟩ := r.at_ e
          exact .inl ⟨p, vs, i, v, rfl, rfl, q, e2, g.id ok rv h⟩
        · exact h.elim
      · exact h.elim
  · exact h.elim
theorem pd_ix (ha : PE X a (lE X.K W ra)) (hb : PE X b (lE X.K W rb)) (hs : PlainIx b := by intro _ _; rfl) : PE X (.Subscript a b pos) (lE X.K W (rOp oIx ra rb)) :=
  PE.imp (pe_ix ix_seq ha hb hs) fun _ _ _ h => lE_op ix_ok h
abbrev DP := DSt → Mu → (Option Int → Mu → Prop) → DX → Prop
def GO (K : PySem.W.Frag) (F : Hp) (H0 : Hp) (P : Option Int → Mu → Prop) (Q : Option Int → Hp → Prop) : Prop := ∀ o H' H0' m', Same H0 H0' → Ok K F H0' m' H' → P o m' → Q o H'
def lO (K : PySem.W.Frag) (W : WX) (r : DP) : TO := fun σ H Q => ∃ F H0 m δ P PX, Ok K F H0 m H ∧ RpS K H0 σ δ ∧ r δ m P PX ∧ GO K F H0 P Q ∧ GX K F H0 PX fun c xd H' => W c xd σ H'
def rNoP : DP := fun _ m P _ => P none m
def rPart (ra : DE) : DP := fun δ m P PX => ra δ m (fun x m1 => match x with | .int i => P (some i) m1 | _ => False) PX
theorem PO.imp {X : Cx} {e : Option Expr} {t t' : TO} (h : PO X e t) (k : ∀ σ H Q, t' σ H Q → t σ H Q) : PO X e t' := ⟨fun pins s σ H Q I w => h.run pins s σ H Q I (k σ H Q w)⟩
theorem dp_none : PO X none (lO X.K W rNoP) := by
  refine PO.imp po_none fun σ H Q h => ?_
  obtain ⟨F, H0, m, δ, P, PX, ok, rs, h, g, gx⟩ := h
  exact g _ _ _ _ (Same.refl _) ok h
theorem dp_some (ha : PE X a (lE X.K W ra)) : PO X (some a) (lO X.K W (rPart ra)) := by
  refine PO.imp (po_some ha) fun σ H Q h => ?_
  obtain ⟨F, H0, m, δ, P, PX, ok, rs, h, g, gx⟩ := h
  refine ⟨F, H0, m, δ, _, PX, ok, rs, h, fun x H1 H01 m1 d s1 ok1 r1 h1 => ?_, gx⟩
  dsimp only at h1
  split at h1
  · cases r1
    exact ⟨_, rfl, g _ _ _ _ s1 ok1 h1⟩
  · exact h1.elim
def oSl : D → Option Int → Option Int → Mu → DK → Prop := fun x lo hi m P => match x with
  | .tup ds => P (.tup (cutD ds lo hi)) m
  | .str z => z.length ≤ sizeLine ∧ P (.str (cutS z lo hi)) m
  | x => match asL m x with
    | some ds => P (.lst (cutD ds lo hi)) m
    | none => False
theorem cutV_whole {xs : List V} {lo hi : Option Int} (h : HT.sIx xs.length 0 lo = 0 ∧ HT.sIx xs.length xs.length hi = xs.length) : cutV xs lo hi = xs := by
  unfold cutV
  rw [h.1, h.2]
  simp
def rSl (ra : DE) (pl ph : DP) : DE := fun δ m P PX => ra δ m (fun x m1 => pl δ m1 (fun l m2 => ph δ m2 (fun u m3 => oSl x l u m3 P) PX) PX) PX
theorem pd_sl {lo hi : Option Expr} {pl ph : DP} {p2 : Pos} (ha : PE X a (lE X.K W ra)) (hl : PO X lo (lO X.K W pl)) (hh : PO X hi (lO X.K W ph)) : PE X (.Subscript a (.Slice lo hi none p2) pos) (lE X.K W (rSl ra pl ph)) := by
  refine PE.imp (pe_slice (sl_list.or (sl_tupA.or sl_str)) ha hl hh) fun σ H Q h => ?_
  obtain ⟨F, H0, m, δ, P, PX, ok, rs, h, g, gx⟩ := h
  refine ⟨F, H0, m, δ, _, PX, ok, rs, h, fun x H1 H01 m1 d1 s1 ok1 r1 h1 => ⟨F, H01, m1, δ, _, PX, ok1, rs.mono s1, h1, fun l H2 H02 m2 s2 ok2 h2 => ⟨F, H02, m2, δ, _, PX, ok2, (rs.mono s1).mono s2, h2, fun u H3 H03 m3 s3 ok3 h3 => ?_, (gx.mono s1).mono s2⟩, gx.mono s1⟩, gx⟩
  have g3 := ((g.mono s1).mono s2).mono s3
  have r3 := (r1.mono s2).mono s3
  unfold oSl at h3
  split at h3
  · rename_i ds
    obtain ⟨p, vs, rfl, q, r⟩ := tup_rp ok3 r3
    refine .inr (.inl ⟨p, vs, rfl, q, fun hw => ?_, fun _ z hz => g3.tup ok3 hz (r.cut _ _) h3⟩)
    have e : cutD ds l u = ds := by
      unfold cutD
      rw [← r.length, hw.1, hw.2, r.length]
      simp
    rw [e] at h3
    exact g3.id ok3 r3 h3
  · cases r3
    exact .inr (.inr ⟨_, rfl, h3.1, g3.id ok3 (.str _) h3.2⟩)
  · split at h3
    · rename_i ds e
      obtain ⟨p, vs, rfl, q, r⟩ := asL_rp ok3 r3 e
      exact .inl ⟨p, vs, rfl, q, fun z hz => g3.lst ok3 hz (r.cut _ _) h3⟩
    · exact h3.elim
end
end DL

namespace DL
open PySem L2
section
variable {X : Cx} {W : WX} {a b c : Expr} {ra rb rc : DE} {pos p : Pos} {e : Expr} {es : List Expr} {qs : DA}
/-! ### calls of built-ins -/
abbrev DC := List D → Mu → DK → Prop
def CalD (K : PySem.W.Frag) (r : List V → Hp → VK → Prop) (ro : DC) : Prop := ∀ F H0 m H vs ds P Q, Ok K F H0 m H → RpL K H0 vs ds → ro ds m P → GV K F H0 P Q → r vs H Q
def rCB (ro : DC) (qs : DA) : DE := fun δ m P PX => qs δ m (fun xs m1 => ro xs m1 P) PX
theorem lE_cb {K : PySem.W.Frag} {r : List V → Hp → VK → Prop} {ro : DC} (cd : CalD K r ro) {σ : St} {H : Hp} {Q : VK} (h : lE K W (rCB ro qs) σ H Q) : tCB r (lA K W qs) σ H Q := by
  obtain ⟨F, H0, m, δ, P, PX, ok, rs, h, g, gx⟩ := h
  exact ⟨F, H0, m, δ, _, PX, ok, rs, h, fun xs H1 H01 m1 ds s1 ok1 r1 h1 => cd _ _ _ _ _ _ _ _ ok1 r1 h1 (g.mono s1), gx⟩
theorem pd_callB {x : Str} {id : String} {r : List V → Hp → VK → Prop} {ro : DC} (hc : CallR X (.builtin id) r) (cd : CalD X.K r ro) (hm : X.mg x = none) (hv : bootBuiltins x = some (.builtin id)) (ha : PA X (e :: es) (lA X.K W qs)) (hg : Gl X x := by rfl) (hn : x ≠ "__name__" := by decide) (hdb : (x == ("__debug__" : Str)) = false := by decide)
    (he : starEach (e :: es) X.env = (false, eval e X.env) :: starEach es X.env := by rfl) (hpl : (backTo pos (starEach es X.env)).any (·.1) = false := by rfl) : PE X (.Call (.Name x p) (e :: es) [] pos) (lE X.K W (rCB ro qs)) :=
  PE.imp (pe_callB hc hg hm hv ha hn hdb he hpl) fun _ _ _ h => lE_cb cd h
theorem pd_callTy {x : Str} {T : String} {r : List V → Hp → VK → Prop} {ro : DC} (hc : CallR X (.type T) r) (cd : CalD X.K r ro) (hm : X.mg x = none) (hv : bootBuiltins x = some (.type T)) (ha : PA X (e :: es) (lA X.K W qs)) (hg : Gl X x := by rfl) (hn : x ≠ "__name__" := by decide) (hdb : (x == ("__debug__" : Str)) = false := by decide)
    (he : starEach (e :: es) X.env = (false, eval e X.env) :: starEach es X.env := by rfl) (hpl : (backTo pos (starEach es X.env)).any (·.1) = false := by rfl) : PE X (.Call (.Name x p) (e :: es) [] pos) (lE X.K W (rCB ro qs)) :=
  PE.imp (pe_callTy hc hg hm hv ha hn hdb he hpl) fun _ _ _ h => lE_cb cd h
theorem RpL.one {K : PySem.W.Frag} {H : Hp} {vs : List V} {d : D} (r : RpL K H vs [d]) : ∃ v, vs = [v] ∧ Rp K H v d := by
  cases r with
  | cons h t => cases t; exact ⟨_, rfl, h⟩
theorem RpL.two {K : PySem.W.Frag} {H : Hp} {vs : List V} {d e : D} (r : RpL K H vs [d, e]) : ∃ v w, vs = [v, w] ∧ Rp K H v d ∧ Rp K H w e := by
  cases r with
  | cons h t =>
    obtain ⟨w, rfl, q⟩ := t.one
    exact ⟨_, _, rfl, h, q⟩
def cLen : DC := fun xs m P => match xs with
  | [.str y] => y.length ≤ sizeLine ∧ P (.int y.length) m
  | [.tup ds] => P (.int ds.length) m
  | [x] => match asL m x with
    | some ds => P (.int ds.length) m
    | none => False
  | _ => False
theorem len_ok {K : PySem.W.Frag} : CalD K (fun xs H Q => ∃ x n, xs = [x] ∧ LenV K x H n ∧ Q (.int n) H) cLen := by
  intro F H0 m H vs ds P Q ok r h g
  unfold cLen at h
  split at h
  · obtain ⟨v, rfl, q⟩ := r.one
    cases q
    exact ⟨_, _, rfl, ⟨h.1, rfl⟩, g.id ok (.int _) h.2⟩
  · obtain ⟨v, rfl, q⟩ := r.one
    obtain ⟨p, ws, rfl, q2, r2⟩ := tup_rp ok q
    exact ⟨_, _, rfl, .inr ⟨_, q2, rfl⟩, by rw [r2.length]; exact g.id ok (.int _) h⟩
  · obtain ⟨v, rfl, q⟩ := r.one
    split at h
    · rename_i es e1
      obtain ⟨p, ws, rfl, q2, r2⟩ := asL_rp ok q e1
      exact ⟨_, _, rfl, .inl ⟨_, q2, rfl⟩, by rw [r2.length]; exact g.id ok (.int _) h⟩
    · exact h.elim
  · exact h.elim
theorem pd_len {x : Str} (hm : X.mg x = none) (hv : bootBuiltins x = some (.builtin "len")) (ha : PA X (e :: es) (lA X.K W qs)) (hg : Gl X x := by rfl) (hn : x ≠ "__name__" := by decide) (hdb : (x == ("__debug__" : Str)) = false := by decide)
    (he : starEach (e :: es) X.env = (false, eval e X.env) :: starEach es X.env := by rfl) (hpl : (backTo pos (starEach es X.env)).any (·.1) = false := by rfl) : PE X (.Call (.Name x p) (e :: es) [] pos) (lE X.K W (rCB cLen qs)) := pd_callB call_len len_ok hm hv ha hg hn hdb he hpl
def cInt : DC := fun xs m P => match xs with
  | [.int i] => P (.int i) m
  | [.bl k] => P (.int (if k then 1 else 0)) m
  | _ => False
theorem int_ok {K : PySem.W.Frag} : CalD K (fun xs H Q => (∃ i, xs = [.int i] ∧ Q (.int i) H) ∨ ∃ k, xs = [.bl k] ∧ Q (.int (if k then 1 else 0)) H) cInt := by
  intro F H0 m H vs ds P Q ok r h g
  unfold cInt at h
  split at h
  · obtain ⟨v, rfl, q⟩ := r.one
    cases q
    exact .inl ⟨_, rfl, g.id ok (.int _) h⟩
  · obtain ⟨v, rfl, q⟩ := r.one
    cases q
    exact .inr ⟨_, rfl, g.id ok (.int _) h⟩
  · exact h.elim
theorem pd_intOf {x : Str} (hm : X.mg x = none) (hv : bootBuiltins x = some (.type "int")) (ha : PA X (e :: es) (lA X.K W qs)) (hg : Gl X x := by rfl) (hn : x ≠ "__name__" := by decide) (hdb : (x == ("__debug__" : Str)) = false := by decide)
    (he : starEach (e :: es) X.env = (false, eval e X.env) :: starEach es X.env := by rfl) (hpl : (backTo pos (starEach es X.env)).any (·.1) = false := by rfl) : PE X (.Call (.Name x p) (e :: es) [] pos) (lE X.K W (rCB cInt qs)) := pd_callTy call_int1 int_ok hm hv ha hg hn hdb he hpl
def cStr : DC := fun xs m P => match xs with
  | [.int i] => i.natAbs.log2 < 1920 ∧ P (.str (toString i)) m
  | _ => False
theorem str_ok {K : PySem.W.Frag} : CalD K (fun xs H Q => ∃ i : Int, xs = [.int i] ∧ i.natAbs.log2 < 1920 ∧ Q (.str (toString i)) H) cStr := by
  intro F H0 m H vs ds P Q ok r h g
  unfold cStr at h
  split at h
  · obtain ⟨v, rfl, q⟩ := r.one
    cases q
    exact ⟨_, rfl, h.1, g.id ok (.str _) h.2⟩
  · exact h.elim
theorem pd_strOf {x : Str} (hm : X.mg x = none) (hv : bootBuiltins x = some (.type "str")) (ha : PA X (e :: es) (lA X.K W qs)) (hg : Gl X x := by rfl) (hn : x ≠ "__name__" := by decide) (hdb : (x == ("__debug__" : Str)) = false := by decide)
    (he : starEach (e :: es) X.env = (false, eval e X.env) :: starEach es X.env := by rfl) (hpl : (backTo pos (starEach es X.env)).any (·.1) = false := by rfl) : PE X (.Call (.Name x p) (e :: es) [] pos) (lE X.K W (rCB cStr qs)) := pd_callTy call_str_int str_ok hm hv ha hg hn hdb he hpl
/-! isinstance of a built-in class -/
def tyN (m : Mu) : D → Option String
  | .non => some "NoneType"
  | .bl _ => some "bool"
  | .int _ => some "int"
  | .str _ => some "str"
  | .lst _ => some "list"
  | .tup _ => some "tuple"
  | .dct _ => some "dict"
  | .adr a => match m a with
    | some (.lst _) => some "list"
    | some (.dct _) => some "dict"
    | some (.dtt _) => some "dict"
    | _ => none
  | _ => none
theorem tyN_rp {K : PySem.W.Frag} {F : Hp} {H0 H : Hp} {m : Mu} {v : V} {d : D} {t : String} (ok : Ok K F H0 m H) (r : Rp K H0 v d) (h : tyN m d = some t) : TyX K H v (.type t) := by
  cases r with
  | non => cases h; exact .base .non
  | bl b => cases h; exact .base (.bl b)
  | int i => cases h; exact .base (.int i)
  | str x => cases h; exact .base (.str x)
  | ty n => cases h
  | adr p =>
    unfold tyN at h
    dsimp only at h
    split at h
    · rename_i e1
      cases h
      obtain ⟨_, vs, hv, _⟩ := ok.cell _ _ e1
      exact .base (.lst hv)
    · rename_i e1
      cases h
      obtain ⟨_, vs, hv, _⟩ := ok.cell _ _ e1
      exact .base (.dK hv)
    · rename_i e1
      cases h
      obtain ⟨_, vs, hv, _⟩ := ok.cell _ _ e1
      exact .base (.dT hv)
    · cases h
  | lst q _ =>
    cases h
    rcases ok.same.seq q with (q | ⟨o, q⟩) | ⟨o, its, n, h1, h2, _⟩
    · exact .base (.lst q)
    · exact .base (.frz q)
    · exact .kList h1 h2
  | tup q _ =>
    cases h
    rcases seqT_mono ok.same q with (q | ⟨o, q⟩) | ⟨o, its, n, h1, h2, _⟩
    · exact .base (.tup q)
    · exact .fTuple q
    · exact .kTuple h1 h2
  | dct q _ _ => cases h; exact .base (.dK (ok.same _ _ q))
  | ins _ _ _ _ => cases h
  | glb _ => cases h
  | exc _ _ _ _ => cases h
/-- is one built-in class under another one -/
def isB (t T : String) : Option Bool := kitB t T
def cIsi : DC := fun xs m P => match xs with
  | [x, .ty T] => match tyN m x with
    | some t => match isB t T with
      | some k => P (.bl k) m
      | none => False
    | none => False
  | _ => False
theorem isi_ok {K : PySem.W.Frag} : CalD K (rIsi K) cIsi := by
  intro F H0 m H vs ds P Q ok r h g
  unfold cIsi at h
  split at h
  · obtain ⟨v, w, rfl, q1, q2⟩ := r.two
    cases q2
    split at h
    · rename_i t e1
      split at h
      · rename_i k e2
        exact ⟨_, _, _, _, k, rfl, .ty _, tyN_rp ok q1 e1, kit_ty e2, g.id ok (.bl _) h⟩
      · exact h.elim
    · exact h.elim
  · exact h.elim
theorem pd_isi {x : Str} (hm : X.mg x = none) (hv : bootBuiltins x = some (.builtin "isinstance")) (ha : PA X (e :: es) (lA X.K W qs)) (hg : Gl X x := by rfl) (hn : x ≠ "__name__" := by decide) (hdb : (x == ("__debug__" : Str)) = false := by decide)
    (he : starEach (e :: es) X.env = (false, eval e X.env) :: starEach es X.env := by rfl) (hpl : (backTo pos (starEach es X.env)).any (·.1) = false := by rfl) : PE X (.Call (.Name x p) (e :: es) [] pos) (lE X.K W (rCB cIsi qs)) := pd_callB call_isi isi_ok hm hv ha hg hn hdb he hpl
/-! list(..), tuple(..) -/
def cLst : DC := fun xs m P => match xs with
  | [.tup ds] => P (.lst ds) m
  | [x] => match asL m x with
    | some ds => P (.lst ds) m
    | none => False
  | _ => False
theorem list_ok {K : PySem.W.Frag} : CalD K (fun xs H Q => ∃ p ys, xs = [.ref p] ∧ (SqL K H p ys ∨ SqT K H p ys) ∧ ∀ l, H l = none → Q (.ref l) (upd H l (.lst ys))) cLst := by
  intro F H0 m H vs ds P Q ok r h g
  unfold cLst at h
  split at h
  · obtain ⟨v, rfl, q⟩ := r.one
    obtain ⟨p, ws, rfl, q2, r2⟩ := tup_rp ok q
    exact ⟨p, ws, rfl, .inr q2, fun l hl => g.lst ok hl r2 h⟩
  · obtain ⟨v, rfl, q⟩ := r.one
    split at h
    · rename_i es e1
      obtain ⟨p, ws, rfl, q2, r2⟩ := asL_rp ok q e1
      exact ⟨p, ws, rfl, .inl q2, fun l hl => g.lst ok hl r2 h⟩
    · exact h.elim
  · exact h.elim
theorem pd_listOf {x : Str} (hm : X.mg x = none) (hv : bootBuiltins x = some (.type "list")) (ha : PA X (e :: es) (lA X.K W qs)) (hg : Gl X x := by rfl) (hn : x ≠ "__name__" := by decide) (hdb : (x == ("__debug__" : Str)) = false := by decide)
    (he : starEach (e :: es) X.env = (false, eval e X.env) :: starEach es X.env := by rfl) (hpl : (backTo pos (starEach es X.env)).any (·.1) = false := by rfl) : PE X (.Call (.Name x p) (e :: es) [] pos) (lE X.K W (rCB cLst qs)) := pd_callTy call_list_of list_ok hm hv ha hg hn hdb he hpl
def cTup : DC := fun xs m P => match xs with
  | [.tup ds] => P (.tup ds) m
  | [x] => match asL m x with
    | some ds => P (.tup ds) m
    | none => False
  | _ => False
theorem tuple_ok {K : PySem.W.Frag} : CalD K (fun xs H Q => ∃ p ys, xs = [.ref p] ∧ ((SqL K H p ys ∧ ∀ l, H l = none → Q (.ref l) (upd H l (.tup ys))) ∨ (SqT K H p ys ∧ Q (.ref p) H))) cTup := by
  intro F H0 m H vs ds P Q ok r h g
  unfold cTup at h
  split at h
  · obtain ⟨v, rfl, q⟩ := r.one
    obtain ⟨p, ws, rfl, q2, r2⟩ := tup_rp ok q
    exact ⟨p, ws, rfl, .inr ⟨q2, g.id ok q h⟩⟩
  · obtain ⟨v, rfl, q⟩ := r.one
    split at h
    · rename_i es e1
      obtain ⟨p, ws, rfl, q2, r2⟩ := asL_rp ok q e1
      exact ⟨p, ws, rfl, .inl ⟨q2, fun l hl => g.tup ok hl r2 h⟩⟩
    · exact h.elim
  · exact h.elim
theorem pd_tupleOf {x : Str} (hm : X.mg x = none) (hv : bootBuiltins x = some (.type "tuple")) (ha : PA X (e :: es) (lA X.K W qs)) (hg : Gl X x := by rfl) (hn : x ≠ "__name__" := by decide) (hdb : (x == ("__debug__" : Str)) = false := by decide)
    (he : starEach (e :: es) X.env = (false, eval e X.env) :: starEach es X.env := by rfl) (hpl : (backTo pos (starEach es X.env)).any (·.1) = false := by rfl) : PE X (.Call (.Name x p) (e :: es) [] pos) (lE X.K W (rCB cTup qs)) := pd_callTy call_tuple_of tuple_ok hm hv ha hg hn hdb he hpl
/-! all, any of truths -/
def boolsD : List D → Option (List Bool)
  | [] => some []
  | .bl b :: ds => (boolsD ds).map (b :: ·)
  | _ :: _ => none
theorem boolsD_map : ∀ bs : List Bool, boolsD (bs.map .bl) = some bs
  | [] => rfl
  | b :: bs => by simp [boolsD, boolsD_map bs]
theorem boolsD_rp {K : PySem.W.Frag} {H : Hp} : ∀ {vs : List V} {ds : List D} {bs : List Bool}, RpL K H vs ds → boolsD ds = some bs → vs = bs.map V.bl
  | _, _, _, .nil, h => by cases h; rfl
  | _, _, _, .cons q r, h => by
    cases q with
    | bl b =>
      simp only [boolsD, Option.map_eq_some_iff] at h
      obtain ⟨z, e2, rfl⟩ := h
      rw [boolsD_rp r e2]; rfl
    | _ => simp [boolsD] at h
def cAllAny (f : List Bool → Bool) : DC := fun xs m P => match xs with
  | [x] => match asL m x with
    | some ds => match boolsD ds with
      | some bs => P (.bl (f bs)) m
      | none => False
    | none => False
  | _ => False
theorem allAny_ok {K : PySem.W.Frag} {f : List Bool → Bool} : CalD K (fun vs H Q => ∃ (a : Addr) (bs : List Bool), vs = [V.ref a] ∧ SqL K H a (bs.map V.bl) ∧ Q (.bl (f bs)) H) (cAllAny f) := by
  intro F H0 m H vs ds P Q ok r h g
  unfold cAllAny at h
  split at h
  · obtain ⟨v, rfl, q⟩ := r.one
    split at h
    · rename_i es e1
      obtain ⟨p, ws, rfl, q2, r2⟩ := asL_rp ok q e1
      split at h
      · rename_i bs e2
        exact ⟨p, bs, rfl, by rw [← boolsD_rp r2 e2]; exact q2, g.id ok (.bl _) h⟩
      · exact h.elim
    · exact h.elim
  · exact h.elim
abbrev cAll : DC := cAllAny fun bs => bs.all id
abbrev cAny : DC := cAllAny fun bs => bs.any id
theorem pd_all {x : Str} (hc : X.calm = true) (hm : X.mg x = none) (hv : bootBuiltins x = some (.builtin "all")) (ha : PA X (e :: es) (lA X.K W qs)) (hg : Gl X x := by rfl) (hn : x ≠ "__name__" := by decide) (hdb : (x == ("__debug__" : Str)) = false := by decide)
    (he : starEach (e :: es) X.env = (false, eval e X.env) :: starEach es X.env := by rfl) (hpl : (backTo pos (starEach es X.env)).any (·.1) = false := by rfl) : PE X (.Call (.Name x p) (e :: es) [] pos) (lE X.K W (rCB cAll qs)) := pd_callB (cr_all hc) allAny_ok hm hv ha hg hn hdb he hpl
theorem pd_any {x : Str} (hc : X.calm = true) (hm : X.mg x = none) (hv : bootBuiltins x = some (.builtin "any")) (ha : PA X (e :: es) (lA X.K W qs)) (hg : Gl X x := by rfl) (hn : x ≠ "__name__" := by decide) (hdb : (x == ("__debug__" : Str)) = false := by decide)
    (he : starEach (e :: es) X.env = (false, eval e X.env) :: starEach es X.env := by rfl) (hpl : (backTo pos (starEach es X.env)).any (·.1) = false := by rfl) : PE X (.Call (.Name x p) (e :: es) [] pos) (lE X.K W (rCB cAny qs)) := pd_callB (cr_any hc) allAny_ok hm hv ha hg hn hdb he hpl
/-! ### sep.join(texts) -/
def textsD : List D → Option (List Str)
  | [] => some []
  | .str b :: ds => (textsD ds).map (b :: ·)
  | _ :: _ => none
theorem textsD_map : ∀ bs : List Str, textsD (bs.map .str) = some bs
  | [] => rfl
  | b :: bs => by simp [textsD, textsD_map bs]
theorem textsD_rp {K : PySem.W.Frag} {H : Hp} : ∀ {vs : List V} {ds : List D} {bs : List Str}, RpL K H vs ds → textsD ds = some bs → vs = bs.map V.str
  | _, _, _, .nil, h => by cases h; rfl
  | _, _, _, .cons q r, h => by
    cases q with
    | str b =>
      simp only [textsD, Option.map_eq_some_iff] at h
      obtain ⟨z, e2, rfl⟩ := h
      rw [textsD_rp r e2]; rfl
    | _ => simp [textsD] at h
def asLT (m : Mu) : D → Option (List D)
  | .tup ds => some ds
  | d => asL m d
def rJoin (ra rb : DE) : DE := fun δ m P PX => ra δ m (fun x m1 => match x with
  | .str s => rb δ m1 (fun y m2 => match asLT m2 y with
    | some ds => match textsD ds with
      | some ys => (ys.map (·.length)).sum + ys.length * s.length ≤ 16777216 ∧ P (.str (Txt.join s ys)) m2
      | none => False
    | none => False) PX
  | _ => False) PX
theorem asLT_rp {K : PySem.W.Frag} {F : Hp} {H0 H : Hp} {m : Mu} {v : V} {d : D} {ds : List D} (ok : Ok K F H0 m H) (r : Rp K H0 v d) (h : asLT m d = some ds) : ∃ a vs, v = .ref a ∧ (SqL K H a vs ∨ SqT K H a vs) ∧ RpL K H0 vs ds := by
  unfold asLT at h
  split at h
  · cases h
    obtain ⟨p, vs, rfl, q, r⟩ := tup_rp ok r
    exact ⟨p, vs, rfl, .inr q, r⟩
  · obtain ⟨p, vs, rfl, q, r⟩ := asL_rp ok r h
    exact ⟨p, vs, rfl, .inl q, r⟩
theorem pd_join {apos : Pos} (ho : PE X a (lE X.K W ra)) (he : PE X b (lE X.K W rb)) (hs : starEach [b] X.env = [(false, eval b X.env)] := by rfl) (hbase : attributeBase a "join" X.env (eval a X.env) = eval a X.env := by rfl) (hline : (apos.endLine == pos.line) = true := by rfl) :
    PE X (.Call (.Attribute a "join" apos) [b] [] pos) (lE X.K W (rJoin ra rb)) := by
  refine PE.imp (pe_join ho he hs hbase hline) fun σ H Q h => ?_
  obtain ⟨F, H0, m, δ, P, PX, ok, rs, h, g, gx⟩ := h
  refine ⟨F, H0, m, δ, _, PX, ok, rs, h, fun x H1 H01 m1 d s1 ok1 r1 h1 => ?_, gx⟩
  dsimp only at h1
  split at h1
  · cases r1
    refine ⟨⟨_, rfl⟩, F, H01, m1, δ, _, PX, ok1, rs.mono s1, h1, fun y H2 H02 m2 d2 s2 ok2 r2 h2 => ?_, gx.mono s1⟩
    dsimp only at h2
    split at h2
    · rename_i ds e1
      obtain ⟨q, vs, rfl, q2, r3⟩ := asLT_rp ok2 r2 e1
      split at h2
      · rename_i ys e2
        exact ⟨_, q, ys, rfl, rfl, by rw [← textsD_rp r3 e2]; exact q2, h2.1, (g.mono s1).mono s2 _ _ _ _ _ (Same.refl _) ok2 (.str _) h2.2⟩
      · exact h2.elim
    · exact h2.elim
  · exact h1.elim
end
end DL

namespace DL
open PySem L2
section
variable {X : Cx} {W : WX} {a b c : Expr} {ra rb rc : DE} {pos p : Pos} {e : Expr} {es : List Expr} {qs qk : DA}
/-! ### calls of defs -/
variable {k : Nat} {f : Addr} {fd : FuncData} {ps ks : List Str} {sp : SpD} {dvs : List V} {ds : List Value} {dD : List D} {x : Str}
def rCall (sp : SpD) (dD : List D) (qs : DA) : DE := fun δ m P PX => qs δ m (fun xs m1 => sp (xs ++ dD) m1 P PX) PX
theorem lE_call {K : PySem.W.Frag} (hD : ∀ H, RpL K H dvs dD) {σ : St} {H : Hp} {Q : VK} (h : lE K W (rCall sp dD qs) σ H Q) : tCallSD (lP K sp) dvs (WE W) (lA K W qs) σ H Q := by
  obtain ⟨F, H0, m, δ, P, PX, ok, rs, h, g, gx⟩ := h
  exact ⟨F, H0, m, δ, _, PX, ok, rs, h, fun xs H1 H01 m1 es s1 ok1 r1 h1 => ⟨F, H01, m1, _, P, PX, ok1, r1.append (hD _), h1, g.mono s1, gx.mono s1⟩, gx⟩
theorem pd_call (G : FnOk X.prog X.w X.K X.mg X.base (L2.CX X.prog X.w) k f fd ps (lP X.K sp)) (hr : Room k X.A) (hm : X.mg x = some (.ref f)) (hk : PySem.W.keepIn X.K (.ref f) = true) (hb : Binds X.K fd ps ds) (hd : Vals dvs ds) (hD : ∀ H, RpL X.K H dvs dD) (tk : Takes X W)
    (ha : PA X (e :: es) (lA X.K W qs)) (hg : Gl X x := by rfl) (hdb : (x == ("__debug__" : Str)) = false := by decide) (he : starEach (e :: es) X.env = (false, eval e X.env) :: starEach es X.env := by rfl) (hpl : (backTo pos (starEach es X.env)).any (·.1) = false := by rfl) :
    PE X (.Call (.Name x p) (e :: es) [] pos) (lE X.K W (rCall sp dD qs)) :=
  PE.imp (pe_callSD G hr hg hm hk hb hd (fun σ => passAt tk σ) ha hdb he hpl) fun _ _ _ h => lE_call hD h
/-- without arguments -/
theorem pd_call0 (G : FnOk X.prog X.w X.K X.mg X.base (L2.CX X.prog X.w) k f fd ps (lP X.K sp)) (hr : Room k X.A) (hm : X.mg x = some (.ref f)) (hk : PySem.W.keepIn X.K (.ref f) = true) (hb : Binds X.K fd ps ds) (hd : Vals dvs ds) (hD : ∀ H, RpL X.K H dvs dD) (tk : Takes X W)
    (hg : Gl X x := by rfl) (hdb : (x == ("__debug__" : Str)) = false := by decide) : PE X (.Call (.Name x p) [] [] pos) (lE X.K W (rCall sp dD rNil)) := by
  refine PE.imp (t := fun σ H Q => lP X.K sp ([] ++ dvs) H Q (WE W σ)) ⟨fun pins s σ H Q I h => ?_⟩ fun σ H Q h => ?_
  · exact wpAny_Call_Name_kw (ld_glob I hg hm (PySem.W.callWith_K0 I.kIn hk (run_fnSD (us := []) G hr hb hd (passAt tk σ) I .nil h)) hdb)
  · obtain ⟨F, H0, m, δ, P, PX, ok, rs, h, g, gx⟩ := h
    exact ⟨F, H0, m, _, P, PX, ok, hD _, h, g, gx⟩
/-- how keywords bind, over data -/
structure KBd (K : PySem.W.Frag) (fd : FuncData) (ps : List Str) (n : Nat) (ks : List Str) (gD : List D → List D → List D) : Prop where
  ex : ∃ g gV, KBn K fd ps n ks g gV ∧ ∀ H vs ds zs es, vs.length = n → zs.length = ks.length → RpL K H vs ds → RpL K H zs es → RpL K H (gV vs zs) (gD ds es)
def rCallK (sp : SpD) (n j : Nat) (gD : List D → List D → List D) (qs qk : DA) : DE := fun δ m P PX => qs δ m (fun xs m1 => qk δ m1 (fun zs m2 => xs.length = n ∧ zs.length = j ∧ sp (gD xs zs) m2 P PX) PX) PX
theorem PK.imp {X : Cx} {e : List Keyword} {t t' : TA} (h : PK X e t) (k : ∀ σ H Q, t' σ H Q → t σ H Q) : PK X e t' := ⟨fun pos pins s σ H Q I w => h.run pos pins s σ H Q I (k σ H Q w)⟩
theorem dk_nil : PK X [] (lA X.K W rNil) := by
  refine PK.imp pk_nil fun σ H Q h => ?_
  obtain ⟨F, H0, m, δ, P, PX, ok, rs, h, g, gx⟩ := h
  exact g _ _ _ _ _ (Same.refl _) ok .nil h
theorem dk_cons {nm : Option Str} {kpos : Pos} {kws : List Keyword} (ha : PE X e (lE X.K W ra)) (hr : PK X kws (lA X.K W qs)) : PK X (⟨nm, e, kpos⟩ :: kws) (lA X.K W (rCons ra qs)) := by
  refine PK.imp (pk_cons ha hr) fun σ H Q h => ?_
  obtain ⟨F, H0, m, δ, P, PX, ok, rs, h, g, gx⟩ := h
  exact ⟨F, H0, m, δ, _, PX, ok, rs, h, fun x H1 H01 m1 d s1 ok1 r1 h1 => ⟨F, H01, m1, δ, _, PX, ok1, rs.mono s1, h1, fun xs H2 H02 m2 ds s2 ok2 r2 h2 => g _ _ _ _ _ (s1.trans s2) ok2 (.cons (r1.mono s2) r2) h2, gx.mono s1⟩, gx⟩
theorem run_kS {n : Nat} {g : List Value → List Value → List Value} {gV : List V → List V → List V} {spH : Sp} {E : XK} {pins : List (Addr × Obj)} {σ : St} {H : Hp} {s : Shared} {Q : VK} {us ws : List Value} {vs zs : List V} (G : FnOk X.prog X.w X.K X.mg X.base (L2.CX X.prog X.w) k f fd ps spH) (hr : Room k X.A) (hb : KBn X.K fd ps n ks g gV) (hx : PassesAt (L2.CX X.prog X.w) X σ E)
    (I : L2.Inv X pins σ H s) (r : Vals vs us) (rz : Vals zs ws) (l1 : vs.length = n) (l2 : zs.length = ks.length) (h : spH (gV vs zs) H Q E) : wpAny (model X.prog X.w) X.A (call (.ref f) us (ks.zip ws)) (EP X pins σ Q) X.xe s := by
  refine wpAny_call (codeAny_mono (G.run X.A X.stack s H _ (g us ws) (gV vs zs) Q E hr I.env0 (hb.to s us ws I.kIn (r.length.symm.trans l1) (rz.length.symm.trans l2)) (hb.rel r rz) h) fun rr s' hq => ?_)
  cases rr with
  | error er => exact hx pins H s er s' I hq
  | ok fl => cases fl with
    | ret u => exact I.after hq
    | _ => exact False.elim hq
theorem pd_callK {n : Nat} {gD : List D → List D → List D} {kws : List Keyword} (G : FnOk X.prog X.w X.K X.mg X.base (L2.CX X.prog X.w) k f fd ps (lP X.K sp)) (hr : Room k X.A) (hm : X.mg x = some (.ref f)) (hk : PySem.W.keepIn X.K (.ref f) = true) (hb : KBd X.K fd ps n ks gD) (tk : Takes X W)
    (ha : PA X (e :: es) (lA X.K W qs)) (hkw : PK X kws (lA X.K W qk)) (hall : (backToKw pos (keywordEach kws X.env)).all (·.1.isSome) = true := by rfl) (hks : (backToKw pos (keywordEach kws X.env)).filterMap (·.1) = ks := by rfl) (hg : Gl X x := by rfl)
    (hdb : (x == ("__debug__" : Str)) = false := by decide) (he : starEach (e :: es) X.env = (false, eval e X.env) :: starEach es X.env := by rfl)
    (hpl : ((backTo pos (starEach (e :: es) X.env)).any (·.1) || (backToKw pos (keywordEach kws X.env)).any (·.1.isNone)) = false := by rfl) :
    PE X (.Call (.Name x p) (e :: es) kws pos) (lE X.K W (rCallK sp n ks.length gD qs qk)) := by
  obtain ⟨gg, gV, hb, hR⟩ := hb.ex
  refine PE.imp (t := fun σ H Q => lA X.K W qs σ H fun vs H1 => lA X.K W qk σ H1 fun zs H2 => vs.length = n ∧ zs.length = ks.length ∧ lP X.K sp (gV vs zs) H2 Q (WE W σ)) ⟨fun pins s σ H Q I h => ?_⟩ fun σ H Q h => ?_
  · refine wpAny_Call_Name_kw (ld_glob I hg hm ?_ hdb)
    refine PySem.W.callWith_KW (h₀ := X.base) I.ok.mod.kin hk hall (thn (ha.run pos pins s σ H _ I h) fun us s1 hh => ?_) hpl he
    obtain ⟨vs, H1, I1, r, q⟩ := hh
    refine thn (hkw.run pos pins s1 σ H1 _ I1 q) fun ws s2 hh2 => ?_
    obtain ⟨zs, H2, I2, rz, l1, l2, q2⟩ := hh2
    refine ⟨I2.kIn, ?_⟩
    rw [hks]
    exact run_kS G hr hb (passAt tk σ) I2 r rz l1 l2 q2
  · obtain ⟨F, H0, m, δ, P, PX, ok, rs, h, g, gx⟩ := h
    refine ⟨F, H0, m, δ, _, PX, ok, rs, h, fun xs H1 H01 m1 ds s1 ok1 r1 h1 => ⟨F, H01, m1, δ, _, PX, ok1, rs.mono s1, h1, fun zs H2 H02 m2 es s2 ok2 r2 h2 => ?_, gx.mono s1⟩, gx⟩
    obtain ⟨e1, e2, h2⟩ := h2
    have l1 : xs.length = n := r1.length.trans e1
    have l2 : zs.length = ks.length := r2.length.trans e2
    exact ⟨l1, l2, F, H02, m2, _, P, PX, ok2, hR _ _ _ _ _ l1 l2 (r1.mono s2) r2, h2, g.mono (s1.trans s2), gx.mono (s1.trans s2)⟩
theorem pd_callK0 {gD : List D → List D → List D} {kws : List Keyword} (G : FnOk X.prog X.w X.K X.mg X.base (L2.CX X.prog X.w) k f fd ps (lP X.K sp)) (hr : Room k X.A) (hm : X.mg x = some (.ref f)) (hk : PySem.W.keepIn X.K (.ref f) = true) (hb : KBd X.K fd ps 0 ks gD) (tk : Takes X W)
    (hkw : PK X kws (lA X.K W qk)) (hall : (backToKw pos (keywordEach kws X.env)).all (·.1.isSome) = true := by rfl) (hks : (backToKw pos (keywordEach kws X.env)).filterMap (·.1) = ks := by rfl) (hg : Gl X x := by rfl)
    (hdb : (x == ("__debug__" : Str)) = false := by decide)
    (hpl : ((backTo pos (starEach [] X.env)).any (·.1) || (backToKw pos (keywordEach kws X.env)).any (·.1.isNone)) = false := by rfl) :
    PE X (.Call (.Name x p) [] kws pos) (lE X.K W (rCallK sp 0 ks.length gD rNil qk)) := by
  obtain ⟨gg, gV, hb, hR⟩ := hb.ex
  refine PE.imp (t := fun σ H Q => lA X.K W qk σ H fun zs H2 => zs.length = ks.length ∧ lP X.K sp (gV [] zs) H2 Q (WE W σ)) ⟨fun pins s σ H Q I h => ?_⟩ fun σ H Q h => ?_
  · refine wpAny_Call_Name_kw (ld_glob I hg hm ?_ hdb)
    refine PySem.W.callWith_KW0 (h₀ := X.base) I.ok.mod.kin hk hall ?_ hpl
    refine thn (hkw.run pos pins s σ H _ I h) fun ws s2 hh2 => ?_
    obtain ⟨zs, H2, I2, rz, l2, q2⟩ := hh2
    refine ⟨I2.kIn, ?_⟩
    rw [hks]
    exact run_kS (us := []) (vs := []) G hr hb (passAt tk σ) I2 .nil rz rfl l2 q2
  · obtain ⟨F, H0, m, δ, P, PX, ok, rs, h, g, gx⟩ := h
    refine ⟨F, H0, m, δ, _, PX, ok, rs, h, fun zs H2 H02 m2 es s2 ok2 r2 h2 => ?_, gx⟩
    obtain ⟨e1, e2, h2⟩ := h2
    have l2 : zs.length = ks.length := r2.length.trans e2
    exact ⟨l2, F, H02, m2, _, P, PX, ok2, hR _ _ _ _ _ rfl l2 .nil r2, h2, g.mono s2, gx.mono s2⟩

/-! ### statements -/
variable {st : Stmt} {rest : List Stmt} {us ut : DS} {qa : DT}
def sSeq (us ut : DS) : DS := fun DD δ m => us { DD with nx := ut DD } δ m
def sNext : DS := fun DD δ m => DD.nx δ m
theorem dss_nil : PSs X [] (lS X.K W sNext) := by
  refine PSs.imp pss_nil fun Dn σ H h => ?_
  obtain ⟨F, H0, m, δ, DD, ok, rs, h, g⟩ := h
  exact g.nx _ _ _ _ _ (Same.refl _) ok rs h
theorem dss_cons (h1 : PS X st (lS X.K W us)) (h2 : PSs X rest (lS X.K W ut)) : PSs X (st :: rest) (lS X.K W (sSeq us ut)) := by
  refine PSs.imp (pss_cons h1 h2) fun Dn σ H h => ?_
  obtain ⟨F, H0, m, δ, DD, ok, rs, h, g⟩ := h
  exact ⟨F, H0, m, δ, _, ok, rs, h, ⟨fun σ1 H1 H01 m1 δ1 s1 ok1 rs1 h1 => ⟨F, H01, m1, δ1, DD, ok1, rs1, h1, g.mono s1⟩, g.rt, g.bk, g.ct, g.xx⟩⟩
theorem dss_one (h1 : PS X st (lS X.K W us)) : PSs X [st] (lS X.K W us) := pss_one h1
def sSet (i : Nat) (ra : DE) : DS := fun DD δ m => ra δ m (fun d m1 => DD.nx (δ.set i (some d)) m1) fun c fs m1 => DD.xx c fs δ m1
theorem GW.at_ {K : PySem.W.Frag} {F H0 : Hp} {PX : Str → List (Str × D) → DSt → Mu → Prop} {W : WX} {σ : St} {δ : DSt} (g : GW K F H0 PX W) (rs : RpS K H0 σ δ) : GX K F H0 (fun c fs m1 => PX c fs δ m1) fun c xd H' => W c xd σ H' :=
  fun c xd H' H0' m' fs s ok x h => g c xd σ H' H0' m' fs δ s ok (rs.mono s) x h
theorem ds_set {i : Nat} {y : Str} {pos' : Pos} (hN : X.N.Nodup) (ha : PE X a (lE X.K W ra)) (hi : X.N[i]? = some y := by rfl) (hx : Loc X.env.scope y := by first | exact Or.inl rfl | exact Or.inr rfl) (hs : swapsWith a (some (.Name y pos')) pos.line X.env = pure false := by rfl) (hf : X.fn y = true ∨ X.env.scope.names.lookup y = some .local := by first | exact .inl rfl | exact .inr rfl) :
    PS X (.Assign [.Name y pos'] a pos) (lS X.K W (sSet i ra)) := by
  refine PS.imp (ps_set hN hi hx ha hs hf) fun Dn σ H h => ?_
  obtain ⟨F, H0, m, δ, DD, ok, rs, h, g⟩ := h
  exact ⟨F, H0, m, δ, _, _, ok, rs, h, fun v H1 H01 m1 d s1 ok1 r1 h1 => g.nx _ _ _ _ _ s1 ok1 ((rs.mono s1).set r1 i) h1, g.xx.at_ rs⟩
def sExpr (ra : DE) : DS := fun DD δ m => ra δ m (fun _ m1 => DD.nx δ m1) fun c fs m1 => DD.xx c fs δ m1
theorem ds_expr (ha : PE X a (lE X.K W ra)) (hs : swapsWith a none pos.line X.env = pure false := by rfl) : PS X (.Expr a pos) (lS X.K W (sExpr ra)) := by
  refine PS.imp (ps_expr ha hs) fun Dn σ H h => ?_
  obtain ⟨F, H0, m, δ, DD, ok, rs, h, g⟩ := h
  exact ⟨F, H0, m, δ, _, _, ok, rs, h, fun v H1 H01 m1 d s1 ok1 r1 h1 => g.nx _ _ _ _ _ s1 ok1 (rs.mono s1) h1, g.xx.at_ rs⟩
def sRet (ra : DE) : DS := fun DD δ m => ra δ m DD.rt fun c fs m1 => DD.xx c fs δ m1
theorem ds_ret (ha : PE X a (lE X.K W ra)) : PS X (.Return (some a) pos) (lS X.K W (sRet ra)) := by
  refine PS.imp (ps_ret ha) fun Dn σ H h => ?_
  obtain ⟨F, H0, m, δ, DD, ok, rs, h, g⟩ := h
  exact ⟨F, H0, m, δ, _, _, ok, rs, h, g.rt, g.xx.at_ rs⟩
def sIf (qa : DT) (us ut : DS) : DS := fun DD δ m => qa δ m (fun k m1 => match k with | true => us DD δ m1 | false => ut DD δ m1) fun c fs m1 => DD.xx c fs δ m1
theorem ds_if {body els : List Stmt} (hc : PT X c (lT X.K W qa)) (h1 : PSs X body (lS X.K W us)) (h2 : PSs X els (lS X.K W ut)) : PS X (.If c body els pos) (lS X.K W (sIf qa us ut)) := by
  refine PS.imp (ps_if hc h1 h2) fun Dn σ H h => ?_
  obtain ⟨F, H0, m, δ, DD, ok, rs, h, g⟩ := h
  refine ⟨F, H0, m, δ, _, _, ok, rs, h, fun k H1 H01 m1 s1 ok1 h1 => ?_, g.xx.at_ rs⟩
  cases k with
  | true => rw [if_pos rfl]; exact ⟨F, H01, m1, δ, DD, ok1, rs.mono s1, h1, g.mono s1⟩
  | false => rw [if_neg Bool.false_ne_true]; exact ⟨F, H01, m1, δ, DD, ok1, rs.mono s1, h1, g.mono s1⟩
/-- o[i] = v, o a list of ours -/
def sSetIx (rv ro ri : DE) : DS := fun DD δ m => rv δ m (fun v m1 => ro δ m1 (fun o m2 => ri δ m2 (fun i m3 => match o, i with
  | .adr p, .int k => match m3 p with
    | some (.lst ds) => match ixN ds.length k with
      | some j => DD.nx δ (mset m3 p (.lst (ds.set j v)))
      | none => False
    | _ => False
  | _, _ => False) fun c fs m1 => DD.xx c fs δ m1) fun c fs m1 => DD.xx c fs δ m1) fun c fs m1 => DD.xx c fs δ m1
theorem ds_setIx {o i : Expr} {ro ri rv : DE} {p2 : Pos} (hv : PE X a (lE X.K W rv)) (ho : PE X o (lE X.K W ro)) (hi : PE X i (lE X.K W ri))
    (hA : ∀ v, assign (.Subscript o i p2) X.env v = (do
      let ov ← holding [v] (eval o X.env)
      let iv ← holding [v, ov] (eval i X.env)
      standAt p2
      holding [v, ov, iv] (setItem ov iv v)
      release [v, ov, iv] []) := by intro _; rfl)
    (hs : swapsWithSole [.Subscript o i p2] a pos.line X.env = pure false := by rfl) (hw : swappedStores [.Subscript o i p2] a X.env = pure none := by rfl) (h1 : (assignEach [.Subscript o i p2] X.env).map (·.2) = [assign (.Subscript o i p2) X.env] := by rfl) :
    PS X (.Assign [.Subscript o i p2] a pos) (lS X.K W (sSetIx rv ro ri)) := by
  refine PS.imp (ps_asg hv (pg_sub ho hi set_list hA) hs hw h1) fun Dn σ H h => ?_
  obtain ⟨F, H0, m, δ, DD, ok, rs, h, g⟩ := h
  refine ⟨F, H0, m, δ, _, _, ok, rs, h, fun v H1 H01 m1 d1 s1 ok1 r1 h1 => ⟨F, H01, m1, δ, _, _, ok1, rs.mono s1, h1, fun o H2 H02 m2 d2 s2 ok2 r2 h2 => ⟨F, H02, m2, δ, _, _, ok2, (rs.mono s1).mono s2, h2, fun iv H3 H03 m3 d3 s3 ok3 r3 h3 => ?_, ((g.mono s1).mono s2).xx.at_ ((rs.mono s1).mono s2)⟩, (g.mono s1).xx.at_ (rs.mono s1)⟩, g.xx.at_ rs⟩
  dsimp only at h3
  split at h3
  · rename_i q k
    cases r3
    cases r2
    split at h3
    · rename_i ds e1
      obtain ⟨_, vs, hv3, rv3⟩ := ok3.cell q _ e1
      split at h3
      · rename_i j e2
        refine ⟨q, vs, k, j, rfl, rfl, hv3, by rw [rv3.length]; exact e2, ?_⟩
        have s123 := (s1.trans s2).trans s3
        exact g.nx _ _ _ _ _ s123 (ok3.write (o := .lst (ds.set j d1)) e1 ⟨_, upd_same, rv3.set ((r1.mono s2).mono s3) j⟩) (rs.mono s123) h3
      · exact h3.elim
    · exact h3.elim
  · exact h3.elim
/-- xs.append(v), xs a list of ours -/
def rApp (ro rv : DE) : DE := fun δ m P PX => ro δ m (fun o m1 => match o with
  | .adr p => (∃ es, m1 p = some (.lst es)) ∧ rv δ m1 (fun v m2 => match m2 p with
    | some (.lst ds) => ds.length < sizeLine ∧ P .non (mset m2 p (.lst (ds ++ [v])))
    | _ => False) PX
  | _ => False) PX
theorem pd_app {apos : Pos} (ho : PE X a (lE X.K W ra)) (hv : PE X b (lE X.K W rb)) (hbase : attributeBase a "append" X.env (eval a X.env) = eval a X.env := by rfl)
    (hfew : ((backTo pos (starEach [b] X.env)).all (fun x => !x.1) && (backToKw pos (keywordEach [] X.env)).all (fun x => x.1.isSome) && decide (([b] : List Expr).length + ([] : List Keyword).length + (if ([] : List Keyword).isEmpty then 0 else 1) < 30)) = true := by rfl)
    (hline : (apos.endLine == pos.line) = true := by rfl) (hs : starEach [b] X.env = (false, eval b X.env) :: starEach [] X.env := by rfl) (hpl : (backTo pos (starEach [] X.env)).any (·.1) = false := by rfl) :
    PE X (.Call (.Attribute a "append" apos) [b] [] pos) (lE X.K W (rApp ra rb)) := by
  refine PE.imp (pe_bm PySem.F.plainAttrs_list PySem.F.slot_list_append PySem.F.type_list_append mt_append ho (pa_cons hv pa_nil hs) hbase hfew hline hs hpl) fun σ H Q h => ?_
  obtain ⟨F, H0, m, δ, P, PX, ok, rs, h, g, gx⟩ := h
  have h' : ra δ m (fun o m1 => match o with
    | .adr p => (∃ es, m1 p = some (.lst es)) ∧ rb δ m1 (fun v m2 => match m2 p with
      | some (.lst ds) => ds.length < sizeLine ∧ P .non (mset m2 p (.lst (ds ++ [v])))
      | _ => False) PX
    | _ => False) PX := h
  refine ⟨F, H0, m, δ, _, PX, ok, rs, h', fun x H1 H01 m1 d s1 ok1 r1 h1 => ?_, gx⟩
  dsimp only at h1
  split at h1
  · rename_i q
    obtain ⟨⟨es, he⟩, h1⟩ := h1
    cases r1
    obtain ⟨_, vs, hv1, _⟩ := ok1.cell q _ he
    refine ⟨.inl ⟨rfl, vs, SqL.of hv1⟩, F, H01, m1, δ, _, PX, ok1, rs.mono s1, h1, fun v H2 H02 m2 d2 s2 ok2 r2 h2 => ?_, gx.mono s1⟩
    dsimp only at h2
    split at h2
    · rename_i ds e1
      obtain ⟨_, ws, hw, rw2⟩ := ok2.cell q _ e1
      refine ⟨q, ws, v, rfl, rfl, hw, by rw [rw2.length]; exact h2.1, ?_⟩
      exact g _ _ H02 _ _ (s1.trans s2) (ok2.write (o := .lst (ds ++ [d2])) e1 ⟨_, upd_same, rw2.snoc r2⟩) .non h2.2
    · exact h2.elim
  · exact h1.elim
end
end DL

namespace DL
open PySem L2
/-! ### what is walked: while Ph holds of what is ours, the items are ds -/
def ItD (K : PySem.W.Frag) (F : Hp) (J : It) (H0 : Hp) (Ph : Mu → Prop) (ds : List D) : Prop := ∀ (i : Nat) (H H1 : Hp) (m : Mu), Same H0 H1 → Ok K F H1 m H → Ph m →
  (∀ d, ds[i]? = some d → J.go i H ∧ ∀ x H', J.yld i H x H' → ∃ H2, Same H1 H2 ∧ Ok K F H2 m H' ∧ Rp K H2 x d) ∧ (i = ds.length → J.stop i H)
abbrev DI := DSt → Mu → ((Mu → Prop) → List D → Mu → Prop) → DX → Prop
/-- (whatever further frame stands around) -/
def GI (K : PySem.W.Frag) (F : Hp) (H0 : Hp) (P : (Mu → Prop) → List D → Mu → Prop) (R : It → Hp → Prop) : Prop := ∀ J H' H0' m' Ph ds, Same H0 H0' → Ok K F H0' m' H' → (∀ F', ItD K F' J H0' Ph ds) → Ph m' → P Ph ds m' → R J H'
def lI (K : PySem.W.Frag) (W : WX) (r : DI) : TI := fun σ H R => ∃ F H0 m δ P PX, Ok K F H0 m H ∧ RpS K H0 σ δ ∧ r δ m P PX ∧ GI K F H0 P R ∧ GX K F H0 PX fun c xd H' => W c xd σ H'
section
variable {X : Cx} {W : WX} {a b c tg : Expr} {ra rb rc : DE} {pos p : Pos} {e : Expr} {es : List Expr} {qs : DA}
theorem PI.imp {X : Cx} {tg e : Expr} {t t' : TI} (h : PI X tg e t) (k : ∀ σ H R, t' σ H R → t σ H R) : PI X tg e t' := ⟨fun pins s σ H R I w => h.run pins s σ H R I (k σ H R w)⟩
/-- a list, a tuple, a text -/
theorem pi_any {l : Expr} {tl : TE} (hl : PE X l tl) : PI X tg l (fun σ H R => tl σ H fun x H1 => (∃ a, x = .ref a ∧ (∃ xs, SqL X.K H1 a xs) ∧ R (Itl X.K a) H1) ∨ (∃ a, x = .ref a ∧ (∃ xs, SqT X.K H1 a xs) ∧ R (Itt X.K a) H1) ∨ ∃ z, x = .str z ∧ R (Its z) H1) := by
  refine ⟨fun pins s σ H R I h => thn (hl.run pins s σ H _ I h) fun v s1 hh => ?_⟩
  obtain ⟨x, H1, I1, r1, q1⟩ := hh
  rcases q1 with ⟨a, rfl, ⟨xs, hq⟩, q⟩ | ⟨a, rfl, ⟨xs, hq⟩, q⟩ | ⟨z, rfl, q⟩
  · cases r1
    obtain ⟨its, rv, pl, hz⟩ := I1.list hq
    exact wpAny_pyIter_list pl.isList (pi_one (tk := s1.toks) I1 _ (turn_list a _) ⟨_, Heap.get?_push_size _ rfl, rfl, rfl⟩ q)
  · cases r1
    obtain ⟨its, rv, pl, hz⟩ := I1.tuple hq
    exact wpAny_pyIter_tuple (show s1.heap.IsTuple a its.toArray from pl) (pi_one (tk := s1.toks) I1 _ (turn_tuple a _) ⟨_, Heap.get?_push_size _ rfl, rfl, rfl⟩ q)
  · obtain ⟨t, rfl⟩ := r1
    cases ha : z.cps.all (· < 128)
    · exact wpAny_pyIter_wide ha (pi_one (tk := s1.toks) I1 _ (turn_str _ z t "str_iterator" (.inr rfl)) ⟨_, Heap.get?_push_size _ rfl, rfl, rfl⟩ q)
    · exact wpAny_pyIter_ascii ha (pi_one (tk := s1.toks) I1 _ (turn_str _ z t "str_ascii_iterator" (.inl rfl)) ⟨_, Heap.get?_push_size _ rfl, rfl, rfl⟩ q)
def signs (z : Str) : List D := z.cps.toList.map fun c => .str ⟨#[c]⟩
def iAny (ra : DE) : DI := fun δ m P PX => ra δ m (fun x m1 => match x with
  | .tup ds => P (fun _ => True) ds m1
  | .lst ds => P (fun _ => True) ds m1
  | .str z => P (fun _ => True) (signs z) m1
  | .adr q => match m1 q with
    | some (.lst ds) => P (fun m => m q = some (.lst ds)) ds m1
    | _ => False
  | _ => False) PX
theorem ItD.list {K : PySem.W.Frag} {H0 : Hp} {q : Addr} {vs : List V} {ds : List D} {Ph : Mu → Prop} (r : RpL K H0 vs ds) (h : ∀ F H1 m H, Same H0 H1 → Ok K F H1 m H → Ph m → SqL K H q vs ∨ ∃ ws, SqL K H q ws ∧ RpL K H1 ws ds) (F : Hp) : ItD K F (Itl K q) H0 Ph ds := by
  intro i H H1 m s1 ok1 ph
  obtain ⟨ws, hq, rw1⟩ : ∃ ws, SqL K H q ws ∧ RpL K H1 ws ds := by
    rcases h F H1 m H s1 ok1 ph with h | h
    · exact ⟨vs, h, r.mono s1⟩
    · exact h
  refine ⟨fun d e => ?_, fun e => ⟨ws, hq, by rw [rw1.length, e]; exact Nat.le_refl _⟩⟩
  obtain ⟨v, e1, rv⟩ := rw1.get e
  refine ⟨⟨ws, v, hq, e1⟩, fun x H' y => ?_⟩
  obtain ⟨rfl, y⟩ := y
  have e2 := y ws hq
  rw [e1] at e2
  cases e2
  exact ⟨H1, Same.refl _, ok1, rv⟩
theorem ItD.tuple {K : PySem.W.Frag} {H0 : Hp} {q : Addr} {vs : List V} {ds : List D} {Ph : Mu → Prop} (r : RpL K H0 vs ds) (h : SqT K H0 q vs) (F : Hp) : ItD K F (Itt K q) H0 Ph ds := by
  intro i H H1 m s1 ok1 ph
  have hq := seqT_mono (s1.trans ok1.same) h
  refine ⟨fun d e => ?_, fun e => ⟨vs, hq, by rw [r.length, e]; exact Nat.le_refl _⟩⟩
  obtain ⟨v, e1, rv⟩ := r.get e
  refine ⟨⟨vs, v, hq, e1⟩, fun x H' y => ?_⟩
  obtain ⟨rfl, y⟩ := y
  have e2 := y vs hq
  rw [e1] at e2
  cases e2
  exact ⟨H1, Same.refl _, ok1, rv.mono s1⟩
theorem ItD.text {K : PySem.W.Frag} {H0 : Hp} {z : Str} {Ph : Mu → Prop} (F : Hp) : ItD K F (Its z) H0 Ph (signs z) := by
  intro i H H1 m s1 ok1 ph
  refine ⟨fun d e => ?_, fun e => ?_⟩
  · unfold signs at e
    rw [List.getElem?_map] at e
    cases hc : z.cps.toList[i]? with
    | none => rw [hc] at e; cases e
    | some c =>
      rw [hc] at e
      cases e
      have hlt : i < z.cps.size := by
        have := (List.getElem?_eq_some_iff.mp hc).1
        simpa using this
      refine ⟨hlt, fun x H' y => ?_⟩
      obtain ⟨rfl, c', e1, rfl⟩ := y
      have e2 : z.cps[i]? = some c := by simpa using hc
      rw [e2] at e1
      cases e1
      exact ⟨H1, Same.refl _, ok1, .str _⟩
  · show z.cps.size ≤ i
    rw [e]
    simp [signs]
theorem di_any (ha : PE X a (lE X.K W ra)) : PI X tg a (lI X.K W (iAny ra)) := by
  refine PI.imp (pi_any ha) fun σ H R h => ?_
  obtain ⟨F, H0, m, δ, P, PX, ok, rs, h, g, gx⟩ := h
  refine ⟨F, H0, m, δ, _, PX, ok, rs, h, fun x H1 H01 m1 d s1 ok1 r1 h1 => ?_, gx⟩
  dsimp only at h1
  split at h1
  · cases r1 with
    | tup q r => exact .inr (.inl ⟨_, rfl, ⟨_, seqT_mono ok1.same q⟩, g _ _ _ _ _ _ s1 ok1 (ItD.tuple r q) trivial h1⟩)
  · cases r1 with
    | lst q r => exact .inl ⟨_, rfl, ⟨_, ok1.same.seq q⟩, g _ _ _ _ _ _ s1 ok1 (ItD.list r fun F H1 m H s ok _ => .inl ((s.trans ok.same).seq q)) trivial h1⟩
  · cases r1
    exact .inr (.inr ⟨_, rfl, g _ _ _ _ _ _ s1 ok1 ItD.text trivial h1⟩)
  · rename_i q
    split at h1
    · rename_i ds e1
      cases r1
      obtain ⟨_, vs, hv, rv⟩ := ok1.cell q _ e1
      refine .inl ⟨q, rfl, ⟨vs, SqL.of hv⟩, g _ _ _ _ _ _ s1 ok1 (ItD.list rv fun F H1 m H s ok ph => ?_) e1 h1⟩
      obtain ⟨_, ws, hw, rw1⟩ := ok.cell q _ ph
      exact .inr ⟨ws, SqL.of hw, rw1⟩
    · exact h1.elim
  · exact h1.elim
def rangeD (lo : Int) (n : Nat) : List D := (List.range n).map fun i : Nat => .int (lo + i)
theorem ItD.range {K : PySem.W.Frag} {H0 : Hp} {lo : Int} {n : Nat} {Ph : Mu → Prop} (F : Hp) : ItD K F (Itr lo n) H0 Ph (rangeD lo n) := by
  intro i H H1 m s1 ok1 ph
  refine ⟨fun d e => ?_, fun e => ?_⟩
  · unfold rangeD at e
    rw [List.getElem?_map] at e
    by_cases hi : i < n
    · rw [List.getElem?_range hi] at e
      cases e
      refine ⟨hi, fun x H' y => ?_⟩
      obtain ⟨rfl, rfl⟩ := y
      exact ⟨H1, Same.refl _, ok1, .int _⟩
    · rw [List.getElem?_eq_none (by simpa using hi)] at e
      cases e
  · show n ≤ i
    rw [e]
    simp [rangeD]
def iRange (qs : DA) : DI := fun δ m P PX => qs δ m (fun xs m1 => match xs with
  | [.int j] => (-(2 ^ 62) ≤ j ∧ j < 2 ^ 62) ∧ P (fun _ => True) (rangeD 0 j.toNat) m1
  | _ => False) PX
theorem di_range {q : Pos} (hm : X.mg "range" = none) (ha : PA X [a] (lA X.K W qs)) (hg : Gl X "range" := by rfl) (hs : starEach [a] X.env = [(false, eval a X.env)] := by rfl) : PI X tg (.Call (.Name "range" q) [a] [] pos) (lI X.K W (iRange qs)) := by
  refine PI.imp (pi_range1 hg hm ha hs) fun σ H R h => ?_
  obtain ⟨F, H0, m, δ, P, PX, ok, rs, h, g, gx⟩ := h
  refine ⟨F, H0, m, δ, _, PX, ok, rs, h, fun xs H1 H01 m1 ds s1 ok1 r1 h1 => ?_, gx⟩
  dsimp only at h1
  split at h1
  · obtain ⟨v, rfl, q⟩ := r1.one
    cases q
    exact ⟨_, rfl, h1.1.1, h1.1.2, g _ _ _ _ _ _ s1 ok1 ItD.range trivial h1.2⟩
  · exact h1.elim
def enumD : Nat → List D → List D
  | _, [] => []
  | i, d :: ds => .tup [.int (i : Nat), d] :: enumD (i + 1) ds
theorem enumD_get : ∀ (ds : List D) (k i : Nat), (enumD k ds)[i]? = ds[i]?.map fun d => .tup [.int ((k + i : Nat) : Int), d]
  | [], k, i => by simp [enumD]
  | d :: ds, k, 0 => by simp [enumD]
  | d :: ds, k, i + 1 => by
    simp only [enumD, List.getElem?_cons_succ]
    rw [enumD_get ds (k + 1) i]
    have e : k + 1 + i = k + (i + 1) := by omega
    rw [e]
theorem enumD_length : ∀ (ds : List D) (k : Nat), (enumD k ds).length = ds.length
  | [], _ => rfl
  | _ :: ds, k => by simp [enumD, enumD_length ds]
def iEnumD (qs : DA) : DI := fun δ m P PX => qs δ m (fun xs m1 => match xs with
  | [.lst ds] => P (fun _ => True) (enumD 0 ds) m1
  | [.adr q] => match m1 q with
    | some (.lst ds) => P (fun m => m q = some (.lst ds)) (enumD 0 ds) m1
    | _ => False
  | _ => False) PX
theorem ItD.enum {K : PySem.W.Frag} {H0 : Hp} {q : Addr} {vs : List V} {ds : List D} {Ph : Mu → Prop} (r : RpL K H0 vs ds) (h : ∀ F H1 m H, Same H0 H1 → Ok K F H1 m H → Ph m → SqL K H q vs ∨ ∃ ws, SqL K H q ws ∧ RpL K H1 ws ds) (F : Hp) : ItD K F (Ite K q) H0 Ph (enumD 0 ds) := by
  intro i H H1 m s1 ok1 ph
  obtain ⟨ws, hq, rw1⟩ : ∃ ws, SqL K H q ws ∧ RpL K H1 ws ds := by
    rcases h F H1 m H s1 ok1 ph with h | h
    · exact ⟨vs, h, r.mono s1⟩
    · exact h
  refine ⟨fun d e => ?_, fun e => ⟨ws, hq, by rw [rw1.length, e, enumD_length]; exact Nat.le_refl _⟩⟩
  rw [enumD_get] at e
  cases e2 : ds[i]? with
  | none => rw [e2] at e; cases e
  | some d' =>
    rw [e2] at e
    cases e
    obtain ⟨v, e1, rv⟩ := rw1.get e2
    refine ⟨⟨ws, v, hq, e1⟩, fun x H' y => ?_⟩
    obtain ⟨T, x', rfl, hT, rfl, y⟩ := y
    have e3 := y ws hq
    rw [e1] at e3
    cases e3
    have sn := same_new (o := HO.tup [V.int (i : Nat), v]) (ok1.free hT).1
    refine ⟨_, sn, ok1.new hT _, .tup (SqT.of upd_same) (.cons ?_ (.cons (rv.mono sn) .nil))⟩
    have e4 : ((0 + i : Nat) : Int) = ((i : Nat) : Int) := by simp
    rw [e4]
    exact .int _
theorem di_enum {elts : List Expr} {kk : Nat} {tpos : Pos} {q : Pos} (hm : X.mg "enumerate" = none) (ha : PA X [a] (lA X.K W qs)) (hg : Gl X "enumerate" := by rfl) (hs : starEach [a] X.env = [(false, eval a X.env)] := by rfl) : PI X (.Tuple elts kk tpos) (.Call (.Name "enumerate" q) [a] [] pos) (lI X.K W (iEnumD qs)) := by
  refine PI.imp (pi_enum hg hm ha hs) fun σ H R h => ?_
  obtain ⟨F, H0, m, δ, P, PX, ok, rs, h, g, gx⟩ := h
  refine ⟨F, H0, m, δ, _, PX, ok, rs, h, fun xs H1 H01 m1 ds s1 ok1 r1 h1 => ?_, gx⟩
  dsimp only at h1
  split at h1
  · obtain ⟨v, rfl, r2⟩ := r1.one
    cases r2 with
    | lst q r => exact ⟨_, _, rfl, ok1.same.seq q, g _ _ _ _ _ _ s1 ok1 (ItD.enum r fun F H1 m H s ok _ => .inl ((s.trans ok.same).seq q)) trivial h1⟩
  · rename_i q
    obtain ⟨v, rfl, r2⟩ := r1.one
    cases r2
    split at h1
    · rename_i ds e1
      obtain ⟨_, vs, hv, rv⟩ := ok1.cell q _ e1
      refine ⟨q, vs, rfl, SqL.of hv, g _ _ _ _ _ _ s1 ok1 (ItD.enum rv fun F H1 m H s ok ph => ?_) e1 h1⟩
      obtain ⟨_, ws, hw, rw1⟩ := ok.cell q _ ph
      exact .inr ⟨ws, SqL.of hw, rw1⟩
    · exact h1.elim
  · exact h1.elim
end
end DL

namespace DL
open PySem L2
/-! ### targets -/
abbrev DG := D → DSt → Mu → (DSt → Mu → Prop) → Prop
def gN (i : Nat) : DG := fun d δ m P => P (δ.set i (some d)) m
def asg (δ : DSt) : List Nat → List D → DSt
  | j :: js, d :: ds => asg (δ.set j (some d)) js ds
  | _, _ => δ
def asgV (σ : St) : List Nat → List V → St
  | j :: js, v :: vs => asgV (σ.set j (some v)) js vs
  | _, _ => σ
def gT (js : List Nat) : DG := fun d δ m P => match d with
  | .tup ds => ds.length = js.length ∧ P (asg δ js ds) m
  | _ => False
theorem RpS.asg {K : PySem.W.Frag} {H0 : Hp} : ∀ {js : List Nat} {vs : List V} {ds : List D} {σ : St} {δ : DSt}, RpL K H0 vs ds → RpS K H0 σ δ → RpS K H0 (asgV σ js vs) (DL.asg δ js ds)
  | [], _, _, _, _, _, h => h
  | _ :: _, _, _, _, _, .nil, h => h
  | j :: js, _, _, _, _, .cons q r, h => RpS.asg (js := js) r (h.set q j)
theorem wipe_get (σ : St) : ∀ (vs : List Nat) (i : Nat), (wipe σ vs)[i]? = if i ∈ vs ∧ i < σ.length then some none else σ[i]?
  | [], i => by simp [wipe]
  | v :: vs, i => by
    have ih := wipe_get σ vs i
    unfold wipe
    by_cases hv : v = i
    · subst hv
      by_cases hl : v < σ.length
      · rw [List.getElem?_set_self (by rw [wipe_length]; exact hl), if_pos ⟨List.mem_cons_self, hl⟩]
      · rw [List.getElem?_eq_none (by simpa [wipe_length] using hl), if_neg (fun z => hl z.2), List.getElem?_eq_none (by simpa using hl)]
    · rw [List.getElem?_set_ne hv, ih]
      have e : (i ∈ v :: vs ∧ i < σ.length) ↔ (i ∈ vs ∧ i < σ.length) := by
        constructor
        · rintro ⟨h1, h2⟩
          rcases List.mem_cons.mp h1 with h | h
          · exact absurd h.symm hv
          · exact ⟨h, h2⟩
        · rintro ⟨h1, h2⟩
          exact ⟨List.mem_cons_of_mem _ h1, h2⟩
      by_cases hc : i ∈ vs ∧ i < σ.length
      · rw [if_pos hc, if_pos (e.mpr hc)]
      · rw [if_neg hc, if_neg (fun z => hc (e.mp z))]
theorem wipe_same {σ σ' : St} {vs : List Nat} (hl : σ'.length = σ.length) (h : ∀ i, i ∉ vs → σ'[i]? = σ[i]?) : wipe σ' vs = wipe σ vs := by
  apply List.ext_getElem?
  intro i
  rw [wipe_get, wipe_get, hl]
  by_cases hi : i ∈ vs
  · by_cases hlt : i < σ.length
    · rw [if_pos ⟨hi, hlt⟩, if_pos ⟨hi, hlt⟩]
    · rw [if_neg (fun z => hlt z.2), if_neg (fun z => hlt z.2), List.getElem?_eq_none (by omega), List.getElem?_eq_none (by omega)]
  · rw [if_neg (fun z => hi z.1), if_neg (fun z => hi z.1)]
    exact h i hi
theorem asgV_length : ∀ (js : List Nat) (vs : List V) (σ : St), (asgV σ js vs).length = σ.length
  | [], _, _ => rfl
  | _ :: _, [], _ => rfl
  | j :: js, v :: vs, σ => by
    show (asgV (σ.set j (some v)) js vs).length = σ.length
    rw [asgV_length js vs, List.length_set]
theorem asgV_out : ∀ (js : List Nat) (vs : List V) (σ : St) (i : Nat), i ∉ js → (asgV σ js vs)[i]? = σ[i]?
  | [], _, _, _, _ => rfl
  | _ :: _, [], _, _, _ => rfl
  | j :: js, v :: vs, σ, i, h => by
    show (asgV (σ.set j (some v)) js vs)[i]? = σ[i]?
    rw [asgV_out js vs _ i (fun z => h (List.mem_cons_of_mem _ z)), List.getElem?_set_ne (fun z => h (by rw [z]; exact List.mem_cons_self))]
/-- a target: what it does to the slots of js alone -/
def Gok (K : PySem.W.Frag) (js : List Nat) (g : TG) (rg : DG) : Prop := ∀ F H0 m H σ δ v d P Q, Ok K F H0 m H → RpS K H0 σ δ → Rp K H0 v d → rg d δ m P → (∀ σ' δ', RpS K H0 σ' δ' → wipe σ' js = wipe σ js → P δ' m → Q σ' H) → g v σ H Q
theorem gN_ok {K : PySem.W.Frag} {j : Nat} : Gok K [j] (gName j) (gN j) := fun F H0 m H σ δ v d P Q ok rs r h k =>
  k _ _ (rs.set r j) (wipe_same (by simp) fun i hi => List.getElem?_set_ne fun z => hi (by simp [z])) h
/-- a tuple of names -/
def gNames (js : List Nat) : TGs := fun vs σ H Q => vs.length = js.length ∧ Q (asgV σ js vs) H
section
variable {X : Cx} {W : WX} {a b c tg : Expr} {ra rb rc : DE} {pos p : Pos} {e : Expr} {es : List Expr} {qs : DA}
theorem PGs.imp {X : Cx} {e : List Expr} {t t' : TGs} (h : PGs X e t) (k : ∀ v σ H Q, t' v σ H Q → t v σ H Q) : PGs X e t' := ⟨fun pins s σ H vs us Q I r w => h.run pins s σ H vs us Q I r (k vs σ H Q w)⟩
theorem PG.imp {X : Cx} {e : Expr} {t t' : TG} (h : PG X e t) (k : ∀ v σ H Q, t' v σ H Q → t v σ H Q) : PG X e t' := ⟨fun pins s σ H v u Q I r w => h.run pins s σ H v u Q I r (k v σ H Q w)⟩
theorem dgs_nil : PGs X [] (gNames []) := PGs.imp pgs_nil fun vs σ H Q h => by
  have e : vs = [] := List.eq_nil_of_length_eq_zero h.1
  subst e
  exact ⟨rfl, h.2⟩
theorem dgs_cons {j : Nat} {js : List Nat} (h1 : PG X e (gName j)) (h2 : PGs X es (gNames js)) (hs : (assignEach (e :: es) X.env).map (·.2) = assign e X.env :: (assignEach es X.env).map (·.2) := by rfl) : PGs X (e :: es) (gNames (j :: js)) :=
  PGs.imp (pgs_cons h1 h2 hs) fun vs σ H Q h => by
    cases vs with
    | nil => exact absurd h.1 (by simp)
    | cons v vs => exact ⟨v, vs, rfl, by simpa using h.1, h.2⟩
theorem gT_ok {K : PySem.W.Frag} {js : List Nat} : Gok K js (gTup K js.length (gNames js)) (gT js) := by
  intro F H0 m H σ δ v d P Q ok rs r h k
  unfold gT at h
  split at h
  · obtain ⟨q, vs, rfl, hq, rv⟩ := tup_rp ok r
    have hl : vs.length = js.length := rv.length.trans h.1
    exact ⟨q, vs, rfl, hq, hl, hl, k _ _ (rs.asg rv) (wipe_same (asgV_length _ _ _) fun i hi => asgV_out _ _ _ i hi) h.2⟩
  · exact h.elim
/-! ### for -/
def sLoop0 (Ph : Mu → Prop) (rg : DG) (rb : DS) (DD : DEnds) : List D → DSt → Mu → Prop
  | [], δ, m => Ph m ∧ DD.nx δ m
  | d :: ds, δ, m => Ph m ∧ rg d δ m fun δ' m' => rb { DD with nx := sLoop0 Ph rg rb DD ds, ct := sLoop0 Ph rg rb DD ds, bk := DD.nx } δ' m'
@[irreducible] def sLoop (Ph : Mu → Prop) (rg : DG) (rb : DS) (DD : DEnds) (ds : List D) (δ : DSt) (m : Mu) : Prop := sLoop0 Ph rg rb DD ds δ m
theorem sLoop_nil {Ph : Mu → Prop} {rg : DG} {rb : DS} {DD : DEnds} {δ : DSt} {m : Mu} : sLoop Ph rg rb DD [] δ m = (Ph m ∧ DD.nx δ m) := by unfold sLoop; rfl
theorem sLoop_cons {Ph : Mu → Prop} {rg : DG} {rb : DS} {DD : DEnds} {δ : DSt} {m : Mu} {d : D} {ds : List D} : sLoop Ph rg rb DD (d :: ds) δ m = (Ph m ∧ rg d δ m fun δ' m' => rb { DD with nx := sLoop Ph rg rb DD ds, ct := sLoop Ph rg rb DD ds, bk := DD.nx } δ' m') := by
  have e : sLoop Ph rg rb DD ds = sLoop0 Ph rg rb DD ds := by funext δ m; unfold sLoop; rfl
  rw [e]
  unfold sLoop
  rfl
def sFor (ri : DI) (rg : DG) (rb : DS) : DS := fun DD δ m => ri δ m (fun Ph ds m1 => sLoop Ph rg rb DD ds δ m1) fun c fs m1 => DD.xx c fs δ m1
theorem ds_for {iter : Expr} {body : List Stmt} {ri : DI} {g : TG} {rg : DG} {rb : DS} {js : List Nat} (hp : PassesOwn (model X.prog X.w) X.A X.env X.xe) (hc : X.calm = true) (hi : PI X tg iter (lI X.K W ri)) (hg : PG X tg g) (go : Gok X.K js g rg) (hb : PSs X body (lS X.K W rb))
    (hs : ∀ x, foldedSetIterable iter X.env x = pure x := by intro _; rfl) : PS X (.For tg iter body [] pos) (lS X.K W (sFor ri rg rb)) := by
  refine PS.imp (ps_for hp hc hi hg hb hs) fun Dn σ H h => ?_
  obtain ⟨F, H0, m, δ, DD, ok, rs, h, gd⟩ := h
  refine ⟨F, H0, m, δ, _, _, ok, rs, h, fun J H1 H01 m1 Ph ds s1 ok1 it ph h1 => ?_, gd.xx.at_ rs⟩
  refine ⟨fun i k σ' H' => ∃ H0' m' δ', Same H01 H0' ∧ Ok X.K F H0' m' H' ∧ RpS X.K H0' σ' δ' ∧ i + k = ds.length ∧ sLoop Ph rg rb DD (ds.drop i) δ' m', ⟨ds.length, H01, m1, δ, Same.refl _, ok1, rs.mono s1, by omega, h1⟩, ?_⟩
  rintro i k σ2 H2 ⟨H02, m2, δ2, s2, ok2, rs2, hik, h2⟩
  by_cases hlt : i < ds.length
  · have e1 : ds[i]? = some ds[i] := List.getElem?_eq_getElem hlt
    rw [List.drop_eq_getElem_cons hlt, sLoop_cons] at h2
    obtain ⟨ph2, h2⟩ := h2
    obtain ⟨go1, yl⟩ := (it F i H2 H02 m2 s2 ok2 ph2).1 _ e1
    refine .inr ⟨go1, fun σ' H' => ∃ H0' m' δ', Same H01 H0' ∧ Ok X.K F H0' m' H' ∧ RpS X.K H0' σ' δ' ∧ sLoop Ph rg rb DD (ds.drop (i + 1)) δ' m', fun σ' H' hN => ?_, fun x H' y => ?_⟩
    · obtain ⟨H0', m', δ', z1, z2, z3, z4⟩ := hN
      exact ⟨k - 1, by omega, H0', m', δ', z1, z2, z3, by omega, z4⟩
    · obtain ⟨H03, s3, ok3, r3⟩ := yl x H' y
      refine go F H03 m2 H' σ2 δ2 x _ _ _ ok3 (rs2.mono s3) r3 h2 fun σ4 δ4 rs4 _ h4 => ?_
      have s13 := s1.trans (s2.trans s3)
      refine ⟨F, H03, m2, δ4, _, ok3, rs4, h4, ⟨fun σ5 H5 H05 m5 δ5 s5 ok5 rs5 h5 => ⟨H05, m5, δ5, (s2.trans s3).trans s5, ok5, rs5, h5⟩, (gd.mono s13).rt, (gd.mono s13).nx, fun σ5 H5 H05 m5 δ5 s5 ok5 rs5 h5 => ⟨H05, m5, δ5, (s2.trans s3).trans s5, ok5, rs5, h5⟩, (gd.mono s13).xx⟩⟩
  · have e : i = ds.length := by omega
    subst e
    rw [List.drop_length, sLoop_nil] at h2
    exact .inl ⟨(it F _ H2 H02 m2 s2 ok2 h2.1).2 rfl, gd.nx _ _ _ _ _ (s1.trans s2) ok2 rs2 h2.2⟩
/-! ### list comprehensions -/
def wipeD (δ : DSt) : List Nat → DSt
  | [] => δ
  | v :: vs => (wipeD δ vs).set v none
theorem RpS.wipe {K : PySem.W.Frag} {H0 : Hp} {σ : St} {δ : DSt} (r : RpS K H0 σ δ) : ∀ vs : List Nat, RpS K H0 (L2.wipe σ vs) (wipeD δ vs)
  | [] => r
  | v :: vs => (RpS.wipe r vs).clear v
theorem wipe_twice (σ : St) (vs : List Nat) : wipe (wipe σ vs) vs = wipe σ vs := wipe_same (wipe_length σ vs) fun i hi => by rw [wipe_get, if_neg fun z => hi z.1]
abbrev noX : DX := fun _ _ _ => False
abbrev noW : WX := fun _ _ _ _ => False
def rComp0 (Ph : Mu → Prop) (rg : DG) (qt : DT) (re : DE) (δ : DSt) (P : List D → Mu → Prop) : List D → List D → Mu → Prop
  | [], acc, m => Ph m ∧ P acc m
  | d :: ds, acc, m => Ph m ∧ rg d δ m fun δ' m' => qt δ' m' (fun k m1 => match k with
    | true => re δ' m1 (fun x m2 => acc.length < sizeLine ∧ rComp0 Ph rg qt re δ P ds (acc ++ [x]) m2) noX
    | false => rComp0 Ph rg qt re δ P ds acc m1) noX
@[irreducible] def rComp (Ph : Mu → Prop) (rg : DG) (qt : DT) (re : DE) (δ : DSt) (P : List D → Mu → Prop) (ds acc : List D) (m : Mu) : Prop := rComp0 Ph rg qt re δ P ds acc m
theorem rComp_nil {Ph : Mu → Prop} {rg : DG} {qt : DT} {re : DE} {δ : DSt} {P : List D → Mu → Prop} {acc : List D} {m : Mu} : rComp Ph rg qt re δ P [] acc m = (Ph m ∧ P acc m) := by unfold rComp; rfl
theorem rComp_cons {Ph : Mu → Prop} {rg : DG} {qt : DT} {re : DE} {δ : DSt} {P : List D → Mu → Prop} {d : D} {ds acc : List D} {m : Mu} : rComp Ph rg qt re δ P (d :: ds) acc m = (Ph m ∧ rg d δ m fun δ' m' => qt δ' m' (fun k m1 => match k with
    | true => re δ' m1 (fun x m2 => acc.length < sizeLine ∧ rComp Ph rg qt re δ P ds (acc ++ [x]) m2) noX
    | false => rComp Ph rg qt re δ P ds acc m1) noX) := by
  have e : rComp Ph rg qt re δ P ds = rComp0 Ph rg qt re δ P ds := by funext acc m; unfold rComp; rfl
  rw [e]
  unfold rComp
  rfl
def rLc (ri : DI) (js : List Nat) (rg : DG) (qt : DT) (re : DE) : DE := fun δ m P PX => ri δ m (fun Ph ds m1 => rComp Ph rg qt re (wipeD δ js) (fun acc m2 => P (.lst acc) m2) ds [] m1) PX
def rLcM (ri : DI) (js : List Nat) (rg : DG) (qt : DT) (re : DE) : DE := fun δ m P PX => ri δ m (fun Ph ds m1 => rComp Ph rg qt re (wipeD δ js) (fun acc m2 => ∀ q, m2 q = none → P (.adr q) (mset m2 q (.lst acc))) ds [] m1) PX
theorem Ok.addF {K : PySem.W.Frag} {F H0 H : Hp} {m : Mu} {q : Addr} {o : HO} (ok : Ok K F H0 m H) (h : H q = none) : Ok K (upd F q o) H0 m (upd H q o) := by
  obtain ⟨h0, hm⟩ := ok.free h
  refine ⟨fun b u e => ?_, fun a u e => ?_, fun a u e => ?_⟩
  · rw [upd_ne (ne_of_none e h0)]; exact ok.same b u e
  · have ha : a ≠ q := fun z => by rw [z, hm] at e; cases e
    obtain ⟨c1, c2⟩ := ok.cell a u e
    exact ⟨c1, c2.mono (Same.refl _) (upd_ne ha)⟩
  · by_cases ha : a = q
    · subst ha; rw [upd_same] at e ⊢; exact ⟨e, h0, hm⟩
    · rw [upd_ne ha] at e ⊢; exact ok.fr a u e
theorem Ok.reF {K : PySem.W.Frag} {F H0 H : Hp} {m : Mu} {q : Addr} {o o' : HO} (ok : Ok K (upd F q o) H0 m H) : Ok K (upd F q o') H0 m (upd H q o') := by
  obtain ⟨h1, h0, hm⟩ := ok.fr q o upd_same
  refine ⟨fun b u e => ?_, fun a u e => ?_, fun a u e => ?_⟩
  · rw [upd_ne (ne_of_none e h0)]; exact ok.same b u e
  · have ha : a ≠ q := fun z => by rw [z, hm] at e; cases e
    obtain ⟨c1, c2⟩ := ok.cell a u e
    exact ⟨c1, c2.mono (Same.refl _) (upd_ne ha)⟩
  · by_cases ha : a = q
    · subst ha; rw [upd_same] at e ⊢; exact ⟨e, h0, hm⟩
    · rw [upd_ne ha] at e ⊢
      exact ok.fr a u (by rw [upd_ne ha]; exact e)
theorem Ok.promote {K : PySem.W.Frag} {F H0 H : Hp} {m : Mu} {q : Addr} {o : HO} (ok : Ok K F H0 m H) (h : H q = some o) (h0 : H0 q = none) (hm : m q = none) (hF : F q = none) : Ok K F (upd H0 q o) m H := by
  refine ⟨fun b u e => ?_, fun a u e => ?_, fun a u e => ?_⟩
  · by_cases hb : b = q
    · subst hb; rw [upd_same] at e; cases e; exact h
    · rw [upd_ne hb] at e; exact ok.same b u e
  · have ha : a ≠ q := fun z => by rw [z, hm] at e; cases e
    obtain ⟨c1, c2⟩ := ok.cell a u e
    exact ⟨by rw [upd_ne ha]; exact c1, c2.mono (same_new h0) rfl⟩
  · have ha : a ≠ q := ne_of_none e hF
    obtain ⟨c1, c2, c3⟩ := ok.fr a u e
    exact ⟨c1, by rw [upd_ne ha]; exact c2, c3⟩
theorem Ok.own {K : PySem.W.Frag} {F H0 H : Hp} {m : Mu} {q : Addr} {o : MO} (ok : Ok K F H0 m H) (h : MRep K H0 H q o) (h0 : H0 q = none) (hF : F q = none) : Ok K F H0 (mset m q o) H := by
  refine ⟨ok.same, fun a u e => ?_, fun a u e => ?_⟩
  · unfold mset at e
    by_cases ha : a = q
    · subst ha; rw [if_pos rfl] at e; cases e; exact ⟨h0, h⟩
    · rw [if_neg ha] at e; exact ok.cell a u e
  · have ha : a ≠ q := ne_of_none e hF
    obtain ⟨c1, c2, c3⟩ := ok.fr a u e
    exact ⟨c1, c2, by unfold mset; rw [if_neg ha]; exact c3⟩
theorem lc_lift {K : PySem.W.Frag} {ri : DI} {g : TG} {rg : DG} {qt : DT} {re : DE} {js : List Nat} {Pf : DK → List D → Mu → Prop} (go : Gok K js g rg)
    (fin : ∀ F H0 m H q vs acc P Q, Ok K F H0 m H → H q = some (.lst vs) → H0 q = none → m q = none → F q = none → RpL K H0 vs acc → Pf P acc m → GV K F H0 P Q → Q (.ref q) H)
    {σ : St} {H : Hp} {Q : VK} (h : lE K W (fun δ m P PX => ri δ m (fun Ph ds m1 => rComp Ph rg qt re (wipeD δ js) (Pf P) ds [] m1) PX) σ H Q) : tLc (lI K W ri) g (lT K noW qt) (lE K noW re) js σ H Q := by
  obtain ⟨F, H0, m, δ, P, PX, ok, rs, h, gv, gx⟩ := h
  refine ⟨F, H0, m, δ, _, _, ok, rs, h, fun J H1 H01 m1 Ph ds s1 ok1 it ph h1 q hq => ?_, gx⟩
  have hF : F q = none := ok1.freeF hq
  refine ⟨fun i k H' => ∃ H0' m' vs acc, Same H01 H0' ∧ Ok K (upd F q (.lst vs)) H0' m' H' ∧ RpL K H0' vs acc ∧ i + k = ds.length ∧ rComp Ph rg qt re (wipeD δ js) (Pf P) (ds.drop i) acc m', ⟨ds.length, H01, m1, [], [], Same.refl _, ok1.addF hq, .nil, by omega, h1⟩, ?_⟩
  rintro i k H2 ⟨H02, m2, vs, acc, s2, ok2, rl, hik, h2⟩
  by_cases hlt : i < ds.length
  · have e1 : ds[i]? = some ds[i] := List.getElem?_eq_getElem hlt
    rw [List.drop_eq_getElem_cons hlt, rComp_cons] at h2
    obtain ⟨ph2, h2⟩ := h2
    obtain ⟨go1, yl⟩ := (it _ i H2 H02 m2 s2 ok2 ph2).1 _ e1
    refine .inr ⟨go1, fun H' => ∃ H0' m' vs acc, Same H01 H0' ∧ Ok K (upd F q (.lst vs)) H0' m' H' ∧ RpL K H0' vs acc ∧ rComp Ph rg qt re (wipeD δ js) (Pf P) (ds.drop (i + 1)) acc m', fun H' hN => ?_, fun x H' y => ?_⟩
    · obtain ⟨H0', m', vs', acc', z1, z2, z3, z4⟩ := hN
      exact ⟨k - 1, by omega, H0', m', vs', acc', z1, z2, z3, by omega, z4⟩
    · obtain ⟨H03, s3, ok3, r3⟩ := yl x H' y
      have rs3 := (rs.wipe js).mono (s1.trans (s2.trans s3))
      refine go _ H03 m2 H' _ _ x _ _ _ ok3 rs3 r3 h2 fun σ4 δ4 rs4 hw4 h4 => ⟨by rw [hw4, wipe_twice], ?_⟩
      refine ⟨_, H03, m2, δ4, _, noX, ok3, rs4, h4, fun b H5 H05 m5 s5 ok5 h5 => ?_, fun _ _ _ _ _ _ _ _ _ z => z⟩
      cases b with
      | false =>
        rw [if_neg Bool.false_ne_true]
        exact ⟨H05, m5, vs, acc, (s2.trans s3).trans s5, ok5, (rl.mono s3).mono s5, h5⟩
      | true =>
        rw [if_pos rfl]
        refine ⟨_, H05, m5, δ4, _, noX, ok5, rs4.mono s5, h5, fun y H6 H06 m6 d6 s6 ok6 r6 h6 => ?_, fun _ _ _ _ _ _ _ _ _ z => z⟩
        have rl6 := ((rl.mono s3).mono s5).mono s6
        exact ⟨vs, (ok6.fr q _ upd_same).1, by rw [rl6.length]; exact h6.1, H06, m6, vs ++ [y], acc ++ [d6], ((s2.trans s3).trans s5).trans s6, ok6.reF, rl6.snoc r6, h6.2⟩
  · have e : i = ds.length := by omega
    subst e
    rw [List.drop_length, rComp_nil] at h2
    obtain ⟨ok3, z1, z2, z3⟩ := ok2.unframe hF
    exact .inl ⟨(it _ _ H2 H02 m2 s2 ok2 h2.1).2 rfl, fin F H02 m2 H2 q vs acc P Q ok3 z1 z2 z3 hF rl h2.2 (gv.mono (s1.trans s2))⟩
theorem lc_fin {K : PySem.W.Frag} : ∀ F H0 m H q vs acc P Q, Ok K F H0 m H → H q = some (.lst vs) → H0 q = none → m q = none → F q = none → RpL K H0 vs acc → P (.lst acc) m → GV K F H0 P Q → Q (.ref q) H :=
  fun F H0 m H q vs acc P Q ok h h0 hm hF r h1 g => g _ _ (upd H0 q (.lst vs)) m _ (same_new h0) (ok.promote h h0 hm hF) (.lst (SqL.of upd_same) (r.mono (same_new h0))) h1
theorem lc_finM {K : PySem.W.Frag} : ∀ F H0 m H q vs acc P Q, Ok K F H0 m H → H q = some (.lst vs) → H0 q = none → m q = none → F q = none → RpL K H0 vs acc → (∀ q, m q = none → P (.adr q) (mset m q (.lst acc))) → GV K F H0 P Q → Q (.ref q) H :=
  fun F H0 m H q vs acc P Q ok h h0 hm hF r h1 g => g _ _ H0 _ _ (Same.refl _) (ok.own (o := .lst acc) ⟨vs, h, r⟩ h0 hF) (.adr q) (h1 q hm)
variable {ifs : List Expr} {scope : Scope} {own : List (Str × Nat)} {ri : DI} {g : TG} {rg : DG} {qt : DT} {re : DE}
theorem pd_lc {elt iter : Expr} {js : List Nat} (hc : X.calm = true) (hN : X.N.Nodup) (hi : PI X tg iter (lI X.K W ri)) (ok : BlkOk X.N X.env.scope scope own) (go : Gok X.K js g rg) (hj : own.map (·.2) = js)
    (hg : ∀ (s : Shared) (H : Hp) (C : Addr) (cl : List (Str × Addr)) (fp : List Addr), PG (X.blk s H scope (compEnvC scope cl C X.env) fp) tg g) (ht : ∀ (s : Shared) (H : Hp) (C : Addr) (cl : List (Str × Addr)) (fp : List Addr), PTs (X.blk s H scope (compEnvC scope cl C X.env) fp) ifs (lT X.K noW qt))
    (he : ∀ (s : Shared) (H : Hp) (C : Addr) (cl : List (Str × Addr)) (fp : List Addr), PE (X.blk s H scope (compEnvC scope cl C X.env) fp) elt (lE X.K noW re)) (hs : ∀ x, foldedSetIterable iter X.env x = pure x := by intro _; rfl) :
    PE X (.ListComp elt [⟨tg, iter, ifs, 0⟩] scope pos) (lE X.K W (rLc ri js rg qt re)) := by
  subst hj
  exact PE.imp (pe_lc hc hN hi ok hg ht he hs) fun _ _ _ h => lc_lift go lc_fin h
theorem ds_setLc {elt iter : Expr} {js : List Nat} {i : Nat} {y : Str} {py spos : Pos} (hc : X.calm = true) (hN : X.N.Nodup) (hsw : swapsWith (.ListComp elt [⟨tg, iter, ifs, 0⟩] scope pos) (some (.Name y py)) spos.line X.env = pure true) (hi : PI X tg iter (lI X.K W ri)) (ok : BlkOk X.N X.env.scope scope own) (go : Gok X.K js g rg) (hj : own.map (·.2) = js)
    (hg : ∀ (s : Shared) (H : Hp) (C : Addr) (cl : List (Str × Addr)) (fp : List Addr), PG (X.blk s H scope (compEnvC scope cl C X.env) fp) tg g) (ht : ∀ (s : Shared) (H : Hp) (C : Addr) (cl : List (Str × Addr)) (fp : List Addr), PTs (X.blk s H scope (compEnvC scope cl C X.env) fp) ifs (lT X.K noW qt))
    (he : ∀ (s : Shared) (H : Hp) (C : Addr) (cl : List (Str × Addr)) (fp : List Addr), PE (X.blk s H scope (compEnvC scope cl C X.env) fp) elt (lE X.K noW re)) (hy : X.N[i]? = some y := by rfl) (hyl : X.env.scope.names.lookup y = some .local := by rfl) (hs : ∀ x, foldedSetIterable iter X.env x = pure x := by intro _; rfl) :
    PS X (.Assign [.Name y py] (.ListComp elt [⟨tg, iter, ifs, 0⟩] scope pos) spos) (lS X.K W (sSet i (rLc ri js rg qt re))) := by
  subst hj
  refine PS.imp (ps_setLc (i := i) hc hN hy hyl hsw hi ok hg ht he hs) fun Dn σ H h => ?_
  obtain ⟨F, H0, m, δ, DD, ok, rs, h, gd⟩ := h
  unfold sSet rLc at h
  refine lc_lift go lc_fin (Q := fun x H1 => gName i x σ H1 Dn.nx) ⟨F, H0, m, δ, fun d m1 => DD.nx (δ.set i (some d)) m1, fun c fs m1 => DD.xx c fs δ m1, ok, rs, h, fun v H1 H01 m1 d s1 ok1 r1 h1 => gd.nx _ _ _ _ _ s1 ok1 ((rs.mono s1).set r1 i) h1, gd.xx.at_ rs⟩
def qYes : DT := fun _ m P _ => P true m
theorem PTs.imp {X : Cx} {e : List Expr} {t t' : TT} (h : PTs X e t) (k : ∀ σ H Q, t' σ H Q → t σ H Q) : PTs X e t' := ⟨fun pins s σ H Q I w => h.run pins s σ H Q I (k σ H Q w)⟩
theorem dts_nil : PTs X [] (lT X.K W qYes) := PTs.imp pts_nil fun σ H Q h => by
  obtain ⟨F, H0, m, δ, P, PX, ok, rs, h, g, gx⟩ := h
  exact g _ _ _ _ (Same.refl _) ok h
theorem dts_one (h : PT X c (lT X.K W qt)) : PTs X [c] (lT X.K W qt) := pts_one h
end
/-! ### a def -/
def dstart (N : List Str) (ds : List D) : DSt := ds.map some ++ List.replicate (N.length - ds.length) none
def dEnds (P : DK) (PX : DX) : DEnds := { nx := fun _ m => P .non m, rt := P, bk := fun _ _ => False, ct := fun _ _ => False, xx := fun c fs _ m => PX c fs m }
theorem rps_start {K : PySem.W.Frag} {H0 : Hp} {N : List Str} {vs : List V} {ds : List D} (r : RpL K H0 vs ds) : RpS K H0 (L2.start N vs) (dstart N ds) := by
  have hl := r.length
  refine ⟨by simp [L2.start, dstart, hl], fun i d e => ?_⟩
  unfold dstart at e
  unfold L2.start
  by_cases hi : i < ds.length
  · rw [List.getElem?_append_left (by simpa using hi), List.getElem?_map] at e
    cases e2 : ds[i]? with
    | none => rw [e2] at e; cases e
    | some d' =>
      rw [e2] at e
      cases e
      obtain ⟨v, e3, rv⟩ := r.get e2
      exact ⟨v, by rw [List.getElem?_append_left (by simpa [hl] using hi), List.getElem?_map, e3]; rfl, rv⟩
  · rw [List.getElem?_append_right (by simpa using hi)] at e
    rw [List.getElem?_replicate] at e
    split at e <;> cases e
section
variable {P : Program} {w : World} {K : PySem.W.Frag} {mg : Str → Option Value} {base : Heap}
theorem fn_ok {x qual : Str} {st : Stmt} {f : Addr} {fd : FuncData} {N ps : List Str} {k : Nat} {sp : SpD} {r : DS} (G : Fun K x qual st f fd) (S : FnScope N ps (defScope st)) (hlen : ∀ ds m Q PX, sp ds m Q PX → ds.length = ps.length)
    (hd : ∀ (cdv : Value) (A : Around) (outer : List Env) (s : Shared) (H : Hp) (E : XK), Room k (A.deeper (PyProof.Rows.envOfC qual (defScope st) s.heap.objs.size f cdv)) →
      PSs (cxOf (L2.CX P w) P w K mg base N qual (defScope st) f cdv A outer s H E) (defBody st) (lS K (fun c d _ H => E c d H) r))
    (hp : ∀ ds m Q PX, sp ds m Q PX → r (dEnds Q PX) (dstart N ds) m) : FnOk P w K mg base (L2.CX P w) (k + 1) f fd ps (lP K sp) := by
  refine G.okX S (fun vs H Q E h => ?_) (fun cdv A outer s H vs Q E hr h => ⟨_, hd cdv A outer s H E hr, ?_⟩)
  · obtain ⟨F, H0, m, ds, Q', PX, ok, rl, h, _⟩ := h
    exact rl.length.trans (hlen _ _ _ _ h)
  · obtain ⟨F, H0, m, ds, Q', PX, ok, rl, h, g, gx⟩ := h
    exact ⟨F, H0, m, _, _, ok, rps_start rl, hp ds m Q' PX h, ⟨fun σ' H' H0' m' δ' s ok' _ z => g _ _ _ _ _ s ok' .non z, g, fun _ _ _ _ _ _ _ _ z => z.elim, fun _ _ _ _ _ _ _ _ z => z.elim, fun c xd σ' H' H0' m' fs δ' s ok' _ x z => gx c xd H' H0' m' fs s ok' x z⟩⟩
end
/-! ### the law -/
theorem rpl_ints {K : PySem.W.Frag} {H : Hp} : ∀ ns : List Int, RpL K H (ns.map V.int) (ns.map D.int)
  | [] => .nil
  | n :: ns => .cons (.int n) (rpl_ints ns)
def spLaw : SpD := fun ds _ P _ => ∃ ns : List Int, ds = [.lst (ns.map .int)] ∧ ns.length ≤ 63 ∧ ∀ m, P (.bl true) m
theorem law_sp (K : PySem.W.Frag) (H : Hp) (a : Addr) (ns : List Int) (hl : ns.length ≤ 63) (hS : SqL K H a (ns.map V.int)) : lP K spLaw [.ref a] H (fun v _ => v = .bl true) fun _ _ _ => False :=
  ⟨fun _ => none, H, fun _ => none, [.lst (ns.map .int)], fun d _ => d = .bl true, fun _ _ _ => False, ⟨Same.refl _, fun _ _ e => (by cases e), fun _ _ e => (by cases e)⟩, .cons (.lst hS (rpl_ints ns)) .nil, ⟨ns, rfl, hl, fun _ => rfl⟩, fun v H' H0' m' d _ _ r e => by subst e; cases r; rfl, fun _ _ _ _ _ _ _ _ _ z => z⟩
theorem cx_false {P : Program} {w : World} {H : Hp} {s : Shared} {e : Value} {s' : Shared} (h : L2.CX P w [] H s (fun _ _ _ => False) e s') : False := by
  obtain ⟨_, _, _, _, _, _, _, _, _, _, _, _, z⟩ := h
  exact z
end DL

namespace DL
open PySem L2
theorem units65 {k : Nat} {A : Around} (r : Room k A) : A.units + 65 < cLine := by have := r.un; omega
/-! ### a def of the text by its name -/
def FunAt (K : PySem.W.Frag) (mg : Str → Option Value) (x qual : Str) (st : Stmt) : Prop := ∃ f fd, mg x = some (.ref f) ∧ Fun K x qual st f fd
theorem funAt_mk {K : PySem.W.Frag} {h : Heap} {mg : Str → Option Value} {x : Str} {st : Stmt} {f : Addr} {oc : Value} {od an : Option Addr} {osl : Array (Option Value)} {kV doc pm cdv ct : Value} (X : K.In h) (G : h.Ns mainGlobals mg)
    (a : PySem.W.nsIn K mainGlobals x = some (some (.ref f))) (l : K.lookup f = some ⟨oc, od, .func (PySem.W.fnOf x x (defArgs st) (defBody st) (defScope st) .none kV doc pm an cdv ct), osl⟩)
    (c : PySem.W.codeIn K cdv x = true) (k : PySem.W.keepIn K (.ref f) = true) : FunAt K mg x x st := ⟨f, _, PySem.W.mg_of X G a, fun_mk l c k⟩
structure DefOk (P : Program) (w : World) (K : PySem.W.Frag) (mg : Str → Option Value) (base : Heap) (k : Nat) (x qual : Str) (st : Stmt) (ps : List Str) (sp : SpD) : Prop where
  ex : ∃ f fd, mg x = some (.ref f) ∧ Fun K x qual st f fd ∧ FnOk P w K mg base (L2.CX P w) k f fd ps (lP K sp)
def BindAll (x qual : Str) (st : Stmt) (ps : List Str) : Prop := ∀ (kV doc pm : Value) (an : Option Addr) (cdv ct : Value) (us : List Value), us.length = ps.length → bindArgs (PySem.W.fnOf x qual (defArgs st) (defBody st) (defScope st) .none kV doc pm an cdv ct) ⟨us, []⟩ = pure (ps.zip us)
section
variable {P : Program} {w : World} {K : PySem.W.Frag} {mg : Str → Option Value} {base : Heap}
theorem def_ok {x qual : Str} {st : Stmt} {N ps : List Str} {k : Nat} {sp : SpD} {r : DS} (G : FunAt K mg x qual st) (S : FnScope N ps (defScope st)) (hlen : ∀ ds m Q PX, sp ds m Q PX → ds.length = ps.length)
    (hd : ∀ (f : Addr) (cdv : Value) (A : Around) (outer : List Env) (s : Shared) (H : Hp) (E : XK), Room k (A.deeper (PyProof.Rows.envOfC qual (defScope st) s.heap.objs.size f cdv)) →
      PSs (cxOf (L2.CX P w) P w K mg base N qual (defScope st) f cdv A outer s H E) (defBody st) (lS K (fun c d _ H => E c d H) r))
    (hp : ∀ ds m Q PX, sp ds m Q PX → r (dEnds Q PX) (dstart N ds) m) : DefOk P w K mg base (k + 1) x qual st ps sp := by
  obtain ⟨f, fd, e, G⟩ := G
  exact ⟨f, fd, e, G, fn_ok G S hlen (hd f) hp⟩
theorem DefOk.mono {x qual : Str} {st : Stmt} {ps : List Str} {j k : Nat} {sp : SpD} (G : DefOk P w K mg base j x qual st ps sp) (h : j ≤ k) : DefOk P w K mg base k x qual st ps sp := by
  obtain ⟨f, fd, e, G1, G2⟩ := G.ex
  exact ⟨f, fd, e, G1, G2.mono h⟩
end
section
variable {X : Cx} {W : WX} {pos p : Pos} {e : Expr} {es : List Expr} {qs qk : DA} {k : Nat} {ps ks : List Str} {sp : SpD} {x qual : Str} {st : Stmt}
theorem pd_callD (G : DefOk X.prog X.w X.K X.mg X.base k x qual st ps sp) (B : BindAll x qual st ps) (hr : Room k X.A) (tk : Takes X W)
    (ha : PA X (e :: es) (lA X.K W qs)) (hg : Gl X x := by rfl) (hdb : (x == ("__debug__" : Str)) = false := by decide) (he : starEach (e :: es) X.env = (false, eval e X.env) :: starEach es X.env := by rfl) (hpl : (backTo pos (starEach es X.env)).any (·.1) = false := by rfl) :
    PE X (.Call (.Name x p) (e :: es) [] pos) (lE X.K W (rCall sp [] qs)) := by
  obtain ⟨f, fd, hm, G1, G2⟩ := G.ex
  exact pd_call G2 hr hm G1.kp (G1.binds B) .nil (fun _ => .nil) tk ha hg hdb he hpl
theorem pd_callD0 (G : DefOk X.prog X.w X.K X.mg X.base k x qual st ps sp) (B : BindAll x qual st ps) (hr : Room k X.A) (tk : Takes X W)
    (hg : Gl X x := by rfl) (hdb : (x == ("__debug__" : Str)) = false := by decide) : PE X (.Call (.Name x p) [] [] pos) (lE X.K W (rCall sp [] rNil)) := by
  obtain ⟨f, fd, hm, G1, G2⟩ := G.ex
  exact pd_call0 G2 hr hm G1.kp (G1.binds B) .nil (fun _ => .nil) tk hg hdb
/-- the arguments in the parameters' order: by their places, positional ones first, then keywords -/
def gI {α : Type} (ix : List Nat) (us ws : List α) : List α := ix.filterMap fun i => (us ++ ws)[i]?
theorem gI_rp {K : PySem.W.Frag} {H : Hp} {vs zs : List V} {ds es : List D} (r1 : RpL K H vs ds) (r2 : RpL K H zs es) : ∀ ix : List Nat, RpL K H (gI ix vs zs) (gI ix ds es)
  | [] => .nil
  | i :: ix => by
    have ih := gI_rp r1 r2 ix
    have r := r1.append r2
    unfold gI at ih ⊢
    rw [List.filterMap_cons, List.filterMap_cons]
    cases h : (ds ++ es)[i]? with
    | none =>
      have h2 : (vs ++ zs)[i]? = none := by
        have := List.getElem?_eq_none_iff.mp h
        exact List.getElem?_eq_none_iff.mpr (by rw [r.length]; exact this)
      rw [h2]
      exact ih
    | some d =>
      obtain ⟨v, h2, q⟩ := r.get h
      rw [h2]
      exact .cons q ih
theorem gI_vals {vs zs : List V} {us ws : List Value} (r1 : Vals vs us) (r2 : Vals zs ws) : ∀ ix : List Nat, Vals (gI ix vs zs) (gI ix us ws)
  | [] => .nil
  | i :: ix => by
    have ih := gI_vals r1 r2 ix
    have r : Vals (vs ++ zs) (us ++ ws) := r1.append r2
    unfold gI at ih ⊢
    rw [List.filterMap_cons, List.filterMap_cons]
    cases h : (vs ++ zs)[i]? with
    | none => rw [r.none_of h]; exact ih
    | some d =>
      obtain ⟨v, h2, q⟩ := r.get h
      rw [h2]
      exact .cons q ih
def BindKw (x qual : Str) (st : Stmt) (ps : List Str) (n : Nat) (ks : List Str) (ix : List Nat) : Prop := ∀ (kV doc pm : Value) (an : Option Addr) (cdv ct : Value) (us ws : List Value), us.length = n → ws.length = ks.length → bindArgs (PySem.W.fnOf x qual (defArgs st) (defBody st) (defScope st) .none kV doc pm an cdv ct) ⟨us, ks.zip ws⟩ = pure (ps.zip (gI ix us ws))
theorem kbd_of {K : PySem.W.Frag} {n : Nat} {ix : List Nat} {f : Addr} {fd : FuncData} (G : Fun K x qual st f fd) (B : BindKw x qual st ps n ks ix) : KBd K fd ps n ks (gI ix) := by
  obtain ⟨oc, od, kV, doc, pm, an, cdv, ct, osl, rfl, lk, hcd⟩ := G.ex
  exact ⟨gI ix, gI ix, ⟨fun s us ws _ l1 l2 => BindsTo.of_eq (B kV doc pm an cdv ct us ws l1 l2), fun r1 r2 => gI_vals r1 r2 ix⟩, fun H vs ds zs es _ _ r1 r2 => gI_rp r1 r2 ix⟩
theorem pd_callDK {n : Nat} {ix : List Nat} {kws : List Keyword} (G : DefOk X.prog X.w X.K X.mg X.base k x qual st ps sp) (B : BindKw x qual st ps n ks ix) (hr : Room k X.A) (tk : Takes X W)
    (ha : PA X (e :: es) (lA X.K W qs)) (hkw : PK X kws (lA X.K W qk)) (hall : (backToKw pos (keywordEach kws X.env)).all (·.1.isSome) = true := by rfl) (hks : (backToKw pos (keywordEach kws X.env)).filterMap (·.1) = ks := by rfl) (hg : Gl X x := by rfl)
    (hdb : (x == ("__debug__" : Str)) = false := by decide) (he : starEach (e :: es) X.env = (false, eval e X.env) :: starEach es X.env := by rfl)
    (hpl : ((backTo pos (starEach (e :: es) X.env)).any (·.1) || (backToKw pos (keywordEach kws X.env)).any (·.1.isNone)) = false := by rfl) :
    PE X (.Call (.Name x p) (e :: es) kws pos) (lE X.K W (rCallK sp n ks.length (gI ix) qs qk)) := by
  obtain ⟨f, fd, hm, G1, G2⟩ := G.ex
  exact pd_callK G2 hr hm G1.kp (kbd_of G1 B) tk ha hkw hall hks hg hdb he hpl
theorem pd_callDK0 {ix : List Nat} {kws : List Keyword} (G : DefOk X.prog X.w X.K X.mg X.base k x qual st ps sp) (B : BindKw x qual st ps 0 ks ix) (hr : Room k X.A) (tk : Takes X W)
    (hkw : PK X kws (lA X.K W qk)) (hall : (backToKw pos (keywordEach kws X.env)).all (·.1.isSome) = true := by rfl) (hks : (backToKw pos (keywordEach kws X.env)).filterMap (·.1) = ks := by rfl) (hg : Gl X x := by rfl)
    (hdb : (x == ("__debug__" : Str)) = false := by decide)
    (hpl : ((backTo pos (starEach [] X.env)).any (·.1) || (backToKw pos (keywordEach kws X.env)).any (·.1.isNone)) = false := by rfl) :
    PE X (.Call (.Name x p) [] kws pos) (lE X.K W (rCallK sp 0 ks.length (gI ix) rNil qk)) := by
  obtain ⟨f, fd, hm, G1, G2⟩ := G.ex
  exact pd_callK0 G2 hr hm G1.kp (kbd_of G1 B) tk hkw hall hks hg hdb hpl
end
/-- what the law's row asks of its def -/
theorem law_mk {P : Program} {w : World} {K : PySem.W.Frag} {mg : Str → Option Value} {k : Nat} {x : Str} {st : Stmt} {fa : Addr} (B : BindAll "law" "law" st [x]) (FA : FunAt K mg "law" "law" st) (hfa : mg "law" = some (.ref fa))
    (G : ∀ base : Heap, K.In base → base.Ns mainGlobals mg → DefOk P w K mg base k "law" "law" st [x] spLaw) :
    ∃ fd : FuncData, (∀ (s : Shared) (u : Value), BindsTo s fd ⟨[u], []⟩ [(x, u)]) ∧ ∀ base : Heap, K.In base → base.Ns mainGlobals mg → FnOk P w K mg base (L2.CX P w) k fa fd [x] (lP K spLaw) := by
  obtain ⟨f0, fd0, e0, F0⟩ := FA
  rw [hfa] at e0
  cases e0
  have look := F0
  obtain ⟨oc, od, kV, doc, pm, an, cdv, ct, osl, rfl, lk, hcd⟩ := F0.ex
  refine ⟨_, fun s u => BindsTo.of_eq (B kV doc pm an cdv ct [u] rfl), fun base hK hN => ?_⟩
  obtain ⟨f, fd, e, G1, G2⟩ := (G base hK hN).ex
  rw [hfa] at e
  cases e
  obtain ⟨oc', od', kV', doc', pm', an', cdv', ct', osl', e', lk', hcd'⟩ := G1.ex
  rw [lk] at lk'
  cases lk'
  exact G2
end DL

namespace DL
open PySem L2
section
variable {X : Cx} {W : WX} {a b c : Expr} {ra rb rc : DE} {pos p : Pos}
def rNeg (ra : DE) : DE := fun δ m P PX => ra δ m (fun x m1 => match x with | .int i => P (.int (-i)) m1 | _ => False) PX
theorem pd_neg (ha : PE X a (lE X.K W ra)) : PE X (.UnaryOp .USub a pos) (lE X.K W (rNeg ra)) := by
  refine PE.imp (pe_un un_neg ha) fun σ H Q h => ?_
  obtain ⟨F, H0, m, δ, P, PX, ok, rs, h, g, gx⟩ := h
  refine ⟨F, H0, m, δ, _, PX, ok, rs, h, fun x H1 H01 m1 d s1 ok1 r1 h1 => ?_, gx⟩
  dsimp only at h1
  split at h1
  · cases r1
    exact ⟨_, rfl, g _ _ _ _ _ s1 ok1 (.int _) h1⟩
  · exact h1.elim
/-! ### dicts that are handed about -/
def rDct0 : DE := fun _ m P _ => P (.dct []) m
theorem pd_dct0 : PE X (.Dict [] [] pos) (lE X.K W rDct0) := by
  refine PE.imp pe_dnewK fun σ H Q h => ?_
  obtain ⟨F, H0, m, δ, P, PX, ok, rs, h, g, gx⟩ := h
  exact fun q hq => g _ _ _ _ _ (same_new (ok.free hq).1) (ok.new hq (.dK [])) (.dct (kvs := []) upd_same rfl .nil) h
def keyD : D → Option Key
  | .int i => some (.inl i)
  | .str x => some (.inr x)
  | _ => none
def rDct1 (ra rb : DE) : DE := fun δ m P PX => ra δ m (fun x m1 => rb δ m1 (fun y m2 => match keyD x with
  | some k => P (.dct [(k, y)]) m2
  | none => False) PX) PX
theorem keyD_rp {K : PySem.W.Frag} {H : Hp} {v : V} {d : D} {k : Key} (r : Rp K H v d) (h : keyD d = some k) : v = kV k := by
  cases r <;> first | (cases h; rfl) | cases h
/-- while the new dict stands by itself -/
theorem pd_dct1 (ha : PE X a (lE X.K W ra)) (hb : PE X b (lE X.K W rb)) : PE X (.Dict [some a] [b] pos) (lE X.K W (rDct1 ra rb)) := by
  refine PE.imp (pe_disp (pps_cons ha hb pps_nil) (by rfl) (by rfl) (fun z => by cases z) (by simp)) fun σ H Q h => ?_
  obtain ⟨F, H0, m, δ, P, PX, ok, rs, h, g, gx⟩ := h
  intro q hq
  have hF : F q = none := ok.freeF hq
  have okq : Ok X.K (upd F q (.dK [])) H0 m (upd H q (.dK [])) := ok.addF hq
  have gx' : ∀ H1, Same H0 H1 → GX X.K (upd F q (.dK [])) H1 PX fun c xd H' => W c xd σ H' := fun H1 s c xd H' H0' m' fs s' ok' x z => gx c xd H' H0' m' fs (s.trans s') (ok'.unframe hF).1 x z
  refine ⟨_, H0, m, δ, _, PX, okq, rs, h, fun x H1 H01 m1 d1 s1 ok1 r1 h1 => ⟨_, H01, m1, δ, _, PX, ok1, rs.mono s1, h1, fun y H2 H02 m2 d2 s2 ok2 r2 h2 => ?_, gx' _ s1⟩, gx' _ (Same.refl _)⟩
  dsimp only at h2
  split at h2
  · rename_i k e
    have ek := keyD_rp r1 e
    subst ek
    obtain ⟨z1, z2, z3⟩ := ok2.fr q _ upd_same
    refine ⟨z1, [(k, y)], rfl, by simp, ?_⟩
    obtain ⟨ok3, w1, w2, w3⟩ := (ok2.reF (o' := .dK [(k, y)])).unframe hF
    have em : mergeK [] [(k, y)] = [(k, y)] := rfl
    rw [em]
    exact g _ _ _ _ _ ((s1.trans s2).trans (same_new w2)) (ok3.promote w1 w2 w3 hF) (.dct upd_same rfl (.cons (r2.mono (same_new w2)) .nil)) h2
  · exact h2.elim
end
end DL
namespace DL
open PySem L2
theorem constS_mk {K : PySem.W.Frag} {h : Heap} {mg : Str → Option Value} {x z : Str} {u : Value} (X : K.In h) (G : h.Ns mainGlobals mg) (a : PySem.W.nsIn K mainGlobals x = some (some u)) (r : ∃ t, u = .str z t) : ∃ t, mg x = some (.str z t) := by
  obtain ⟨t, rfl⟩ := r
  exact ⟨t, PySem.W.mg_of X G a⟩
theorem constI_mk {K : PySem.W.Frag} {h : Heap} {mg : Str → Option Value} {x : Str} {z : Int} {u : Value} (X : K.In h) (G : h.Ns mainGlobals mg) (a : PySem.W.nsIn K mainGlobals x = some (some u)) (r : ∃ t, u = .int z t) : ∃ t, mg x = some (.int z t) := by
  obtain ⟨t, rfl⟩ := r
  exact ⟨t, PySem.W.mg_of X G a⟩
end DL

namespace DL
open PySem L2
theorem isB_NoneType_int : isB "NoneType" "int" = some false := by decide +kernel
theorem isB_NoneType_bool : isB "NoneType" "bool" = some false := by decide +kernel
theorem isB_NoneType_str : isB "NoneType" "str" = some false := by decide +kernel
theorem isB_NoneType_tuple : isB "NoneType" "tuple" = some false := by decide +kernel
theorem isB_NoneType_list : isB "NoneType" "list" = some false := by decide +kernel
theorem isB_NoneType_dict : isB "NoneType" "dict" = some false := by decide +kernel
theorem isB_bool_int : isB "bool" "int" = some true := by decide +kernel
theorem isB_bool_bool : isB "bool" "bool" = some true := by decide +kernel
theorem isB_bool_str : isB "bool" "str" = some false := by decide +kernel
theorem isB_bool_tuple : isB "bool" "tuple" = some false := by decide +kernel
theorem isB_bool_list : isB "bool" "list" = some false := by decide +kernel
theorem isB_bool_dict : isB "bool" "dict" = some false := by decide +kernel
theorem isB_int_int : isB "int" "int" = some true := by decide +kernel
theorem isB_int_bool : isB "int" "bool" = some false := by decide +kernel
theorem isB_int_str : isB "int" "str" = some false := by decide +kernel
theorem isB_int_tuple : isB "int" "tuple" = some false := by decide +kernel
theorem isB_int_list : isB "int" "list" = some false := by decide +kernel
theorem isB_int_dict : isB "int" "dict" = some false := by decide +kernel
theorem isB_str_int : isB "str" "int" = some false := by decide +kernel
theorem isB_str_bool : isB "str" "bool" = some false := by decide +kernel
theorem isB_str_str : isB "str" "str" = some true := by decide +kernel
theorem isB_str_tuple : isB "str" "tuple" = some false := by decide +kernel
theorem isB_str_list : isB "str" "list" = some false := by decide +kernel
theorem isB_str_dict : isB "str" "dict" = some false := by decide +kernel
theorem isB_list_int : isB "list" "int" = some false := by decide +kernel
theorem isB_list_bool : isB "list" "bool" = some false := by decide +kernel
theorem isB_list_str : isB "list" "str" = some false := by decide +kernel
theorem isB_list_tuple : isB "list" "tuple" = some false := by decide +kernel
theorem isB_list_list : isB "list" "list" = some true := by decide +kernel
theorem isB_list_dict : isB "list" "dict" = some false := by decide +kernel
theorem isB_tuple_int : isB "tuple" "int" = some false := by decide +kernel
theorem isB_tuple_bool : isB "tuple" "bool" = some false := by decide +kernel
theorem isB_tuple_str : isB "tuple" "str" = some false := by decide +kernel
theorem isB_tuple_tuple : isB "tuple" "tuple" = some true := by decide +kernel
theorem isB_tuple_list : isB "tuple" "list" = some false := by decide +kernel
theorem isB_tuple_dict : isB "tuple" "dict" = some false := by decide +kernel
theorem isB_dict_int : isB "dict" "int" = some false := by decide +kernel
theorem isB_dict_bool : isB "dict" "bool" = some false := by decide +kernel
theorem isB_dict_str : isB "dict" "str" = some false := by decide +kernel
theorem isB_dict_tuple : isB "dict" "tuple" = some false := by decide +kernel
theorem isB_dict_list : isB "dict" "list" = some false := by decide +kernel
theorem isB_dict_dict : isB "dict" "dict" = some true := by decide +kernel
/-- the words of the readings, unfolded -/
local macro_rules | `(tactic| walk_at "dl") => `(tactic| simp only [rV, rC, rOp, rNil, rCons, rTup, rLst, rLstM, rCB, rCall, rCallK, rAndV, rOrV, rNotV, rIfE, rTru, rTst, rAnd, rOr, rNot, rChain, rSl, rNoP, rPart, rJoin, rApp, rLc, rLcM, rNeg, rDct0, rDct1, sSeq, sSet, sRet, sIf, sExpr, sNext, sFor, sSetIx, iAny, iRange, iEnumD, qYes, gN, gT, asg, wipeD, dEnds, dstart, oAdd, oI, oI0, oSub, oMul, oDiv, oMod, oPow, oLt, oLe, oGt, oGe, oIx, oSl, cLen, cInt, cStr, cLst, cTup, cIsi, asL, asLT, tyN, truD, gI, oIsN, isNone, isB_NoneType_int, isB_NoneType_bool, isB_NoneType_str, isB_NoneType_tuple, isB_NoneType_list, isB_NoneType_dict, isB_bool_int, isB_bool_bool, isB_bool_str, isB_bool_tuple, isB_bool_list, isB_bool_dict, isB_int_int, isB_int_bool, isB_int_str, isB_int_tuple, isB_int_list, isB_int_dict, isB_str_int, isB_str_bool, isB_str_str, isB_str_tuple, isB_str_list, isB_str_dict, isB_list_int, isB_list_bool, isB_list_str, isB_list_tuple, isB_list_list, isB_list_dict, isB_tuple_int, isB_tuple_bool, isB_tuple_str, isB_tuple_tuple, isB_tuple_list, isB_tuple_dict, isB_dict_int, isB_dict_bool, isB_dict_str, isB_dict_tuple, isB_dict_list, isB_dict_dict, List.getElem?_cons_zero, List.getElem?_cons_succ, List.set_cons_zero, List.set_cons_succ, List.map_cons, List.map_nil, List.length_cons, List.length_nil, List.cons_append, List.nil_append, List.append_nil, List.replicate, Nat.sub_self, Nat.reduceSub, Nat.reduceAdd, List.filterMap_cons, List.filterMap_nil, Bool.not_true, Bool.not_false, if_true, if_false, Bool.false_eq_true])
end DL

namespace DL
open PySem L2
/-! ### reading loops and comprehensions -/
section
variable {Ph : Mu → Prop} {rg : DG} {rb : DS} {DD : DEnds} {qt : DT} {re : DE} {δ : DSt} {P : List D → Mu → Prop}
theorem loop_inv {ds : List D} (I : Nat → DSt → Mu → Prop) (hs : ∀ (i : Nat) d δ m, ds[i]? = some d → I i δ m → Ph m ∧ ∀ Nx : DSt → Mu → Prop, (∀ δ' m', I (i + 1) δ' m' → Nx δ' m') → rg d δ m fun δ' m' => rb { DD with nx := Nx, ct := Nx, bk := DD.nx } δ' m')
    (hd : ∀ δ m, I ds.length δ m → Ph m ∧ DD.nx δ m) {δ : DSt} {m : Mu} (h0 : I 0 δ m) : sLoop Ph rg rb DD ds δ m := by
  have go : ∀ (k i : Nat) δ m, i + k = ds.length → I i δ m → sLoop Ph rg rb DD (ds.drop i) δ m := by
    intro k
    induction k with
    | zero =>
      intro i δ m e h
      have e : i = ds.length := by omega
      subst e
      rw [List.drop_length, sLoop_nil]
      exact hd δ m h
    | succ k ih =>
      intro i δ m e h
      have hlt : i < ds.length := by omega
      rw [List.drop_eq_getElem_cons hlt, sLoop_cons]
      obtain ⟨ph, h2⟩ := hs i _ δ m (List.getElem?_eq_getElem hlt) h
      exact ⟨ph, h2 _ fun δ' m' h' => ih (i + 1) δ' m' (by omega) h'⟩
  exact go ds.length 0 δ m (by omega) h0
theorem comp_inv {ds : List D} (I : Nat → List D → Mu → Prop) (hl : ∀ (i : Nat) acc m, I i acc m → acc.length ≤ i) (hn : ds.length ≤ 16777216)
    (hs : ∀ (i : Nat) d acc m, ds[i]? = some d → I i acc m → Ph m ∧ ∀ (Kt : D → Mu → Prop) (Kf : Mu → Prop), (∀ x m2, I (i + 1) (acc ++ [x]) m2 → Kt x m2) → (∀ m1, I (i + 1) acc m1 → Kf m1) → rg d δ m fun δ' m' => qt δ' m' (fun k m1 => match k with
      | true => re δ' m1 Kt noX
      | false => Kf m1) noX)
    (hd : ∀ acc m, I ds.length acc m → Ph m ∧ P acc m) {m : Mu} (h0 : I 0 [] m) : rComp Ph rg qt re δ P ds [] m := by
  have go : ∀ (k i : Nat) acc m, i + k = ds.length → I i acc m → rComp Ph rg qt re δ P (ds.drop i) acc m := by
    intro k
    induction k with
    | zero =>
      intro i acc m e h
      have e : i = ds.length := by omega
      subst e
      rw [List.drop_length, rComp_nil]
      exact hd acc m h
    | succ k ih =>
      intro i acc m e h
      have hlt : i < ds.length := by omega
      rw [List.drop_eq_getElem_cons hlt, rComp_cons]
      obtain ⟨ph, h2⟩ := hs i _ acc m (List.getElem?_eq_getElem hlt) h
      have hz : acc.length < sizeLine := by
        have h3 := hl i acc m h
        have h4 : sizeLine = 16777216 := sizeLine_eq
        omega
      exact ⟨ph, h2 (fun x m2 => acc.length < sizeLine ∧ rComp Ph rg qt re δ P (ds.drop (i + 1)) (acc ++ [x]) m2) (fun m1 => rComp Ph rg qt re δ P (ds.drop (i + 1)) acc m1) (fun x m2 h' => ⟨hz, ih (i + 1) _ m2 (by omega) h'⟩) (fun m1 h' => ih (i + 1) _ m1 (by omega) h')⟩
  exact go ds.length 0 [] m (by omega) h0
/-- where nothing changes -/
theorem comp_fm {ds : List D} {j : Nat} {m : Mu} (p : D → Bool) (f : D → D) (hn : ds.length ≤ 16777216) (ph : Ph m) (ht : ∀ d ∈ ds, ∀ Q : Bool → Mu → Prop, Q (p d) m → qt (δ.set j (some d)) m Q noX) (he : ∀ d ∈ ds, p d = true → ∀ Q : DK, Q (f d) m → re (δ.set j (some d)) m Q noX)
    (h : P ((ds.filter p).map f) m) : rComp Ph (gN j) qt re δ P ds [] m := by
  refine comp_inv (fun i acc m' => m' = m ∧ acc = ((ds.take i).filter p).map f) (fun i acc m' h => ?_) hn (fun i d acc m' e h => ?_) (fun acc m' h => ?_) ⟨rfl, by simp⟩
  · rw [h.2, List.length_map]
    exact Nat.le_trans (List.length_filter_le _ _) (by rw [List.length_take]; omega)
  · obtain ⟨rfl, rfl⟩ := h
    refine ⟨ph, fun Kt Kf h1 h2 => ?_⟩
    have hm := List.mem_of_getElem? e
    have e2 : ds.take (i + 1) = ds.take i ++ [d] := by
      rw [List.take_succ, e]; rfl
    show qt (δ.set j (some d)) m' _ noX
    refine ht d hm _ ?_
    cases hp : p d with
    | true => exact he d hm hp _ (h1 _ _ ⟨rfl, by rw [e2]; simp [hp]⟩)
    | false => exact h2 _ ⟨rfl, by rw [e2]; simp [hp]⟩
  · obtain ⟨rfl, rfl⟩ := h
    rw [List.take_length]
    exact ⟨ph, h⟩
theorem comp_map {ds : List D} {j : Nat} {m : Mu} (f : D → D) (hn : ds.length ≤ 16777216) (ph : Ph m) (he : ∀ d ∈ ds, ∀ Q : DK, Q (f d) m → re (δ.set j (some d)) m Q noX)
    (h : P (ds.map f) m) : rComp Ph (gN j) qYes re δ P ds [] m :=
  comp_fm (fun _ => true) f hn ph (fun _ _ _ q => q) (fun d hd _ => he d hd) (by rw [List.filter_eq_self.mpr (fun _ _ => rfl)]; exact h)
end
/-! ### what is ours -/
theorem mset_same {m : Mu} {a : Addr} {o : MO} : mset m a o a = some o := by unfold mset; rw [if_pos rfl]
theorem mset_ne {m : Mu} {a b : Addr} {o : MO} (h : b ≠ a) : mset m a o b = m b := by unfold mset; rw [if_neg h]
theorem asL_adr {m : Mu} {a : Addr} {ds : List D} (h : m a = some (.lst ds)) : asL m (.adr a) = some ds := by unfold asL; dsimp only; rw [h]
/-- things that may be handed about -/
def plain : D → Bool
  | .ty _ => false
  | .adr _ => false
  | .glb _ => false
  | .exc _ _ _ _ _ => false
  | .ins _ _ => false
  | _ => true
/-- a text's size -/
theorem len_line {n : Nat} (h : n ≤ 1000000) : n ≤ sizeLine := Nat.le_trans h (by decide)
/-! ### a well: three numbers -/
structure Wl (m : Mu) (w : Addr) (k : Nat) : Prop where
  ex : ∃ a b c : Int, m w = some (.lst [.int a, .int b, .int c]) ∧ 0 ≤ b ∧ b < 2147483629 ∧ 0 ≤ c ∧ c ≤ k
/-- nothing but the well has changed -/
def Only1 (w : Addr) (m m' : Mu) : Prop := ∀ a, a ≠ w → m' a = m a
theorem Only1.refl (w : Addr) (m : Mu) : Only1 w m m := fun _ _ => rfl
theorem Only1.trans {w : Addr} {m m1 m2 : Mu} (a : Only1 w m m1) (b : Only1 w m1 m2) : Only1 w m m2 := fun x h => (b x h).trans (a x h)
theorem Wl.mono {m : Mu} {w : Addr} {k j : Nat} (h : Wl m w k) (hj : k ≤ j) : Wl m w j := by
  obtain ⟨a, b, c, e, h1, h2, h3, h4⟩ := h.ex
  exact ⟨a, b, c, e, h1, h2, h3, by omega⟩
def spDraw : SpD := fun ds m P _ => ∃ (w : Addr) (many : Int) (k : Nat), ds = [.adr w, .int many] ∧ Wl m w k ∧ k ≤ 1000000000 ∧ 0 < many ∧ many.natAbs < 2 ^ 200 ∧
  ∀ (r : Int) m', 0 ≤ r → r < many → Only1 w m m' → Wl m' w (k + 1) → P (.int r) m'
def spWell : SpD := fun ds m P _ => ∃ c : Int, ds = [.int c] ∧ ∀ w m', m w = none → Only1 w m m' → Wl m' w 0 → P (.adr w) m'
def spCellAt : SpD := fun ds m P _ => ∃ (ns : List Int) (k : Nat), ds = [.lst (ns.map .int), .int k] ∧ ∀ c : Int, P (.int c) m
end DL

namespace DL
open PySem L2
local macro_rules | `(tactic| walk_at "dl") => `(tactic| ((conv => whnf); try dsimp only))
def rdDraw : DS :=
    sSeq (sIf (rTst (rOp oGt (rOp oIx (rV 0) (rC (.int 0))) (rC (.int 0)))) (sSeq (sSet 3 (rOp oMod (rCB cInt (rCons (rOp oIx (rV 0) (rC (.int 0))) (rNil))) (rV 1)))
    (sSeq (sSetIx (rOp oDiv (rOp oIx (rV 0) (rC (.int 0))) (rV 1)) (rV 0) (rC (.int 0)))
    (sRet (rV 3)))) (sNext))
    (sSeq (sSetIx (rOp oAdd (rOp oIx (rV 0) (rC (.int 2))) (rC (.int 1))) (rV 0) (rC (.int 2)))
    (sSeq (sSet 2 (rOp oMod (rCB cInt (rCons (rOp oPow (rOp oAdd (rOp oAdd (rOp oIx (rV 0) (rC (.int 1))) (rOp oMul (rC (.int 7919)) (rOp oIx (rV 0) (rC (.int 2))))) (rC (.int 1))) (rC (.int 5))) (rNil))) (rC (.int 2147483647))))
    (sSeq (sSet 2 (rOp oMod (rCB cInt (rCons (rOp oMul (rV 2) (rOp oAdd (rOp oAdd (rOp oDiv (rV 2) (rC (.int 1009))) (rC (.int 69621))) (rOp oIx (rV 0) (rC (.int 2))))) (rNil))) (rC (.int 2147483629))))
    (sRet (rOp oMod (rCB cInt (rCons (rOp oMod (rCB cInt (rCons (rOp oMul (rV 2) (rOp oAdd (rOp oDiv (rV 2) (rC (.int 2003))) (rC (.int 40692)))) (rNil))) (rC (.int 2147483399))) (rNil))) (rV 1))))))
theorem only_mset (w : Addr) (m : Mu) (o : MO) : Only1 w m (mset m w o) := fun _ h => mset_ne h
theorem draw_pure (x1 x2 x3 x4 : Str) : ∀ ds m Q PX, spDraw ds m Q PX → rdDraw (dEnds Q PX) (dstart [x1, x2, x3, x4] ds) m := by
  rintro ds m Q PX ⟨w, many, k, rfl, wl, hk, h0, hb, h⟩
  obtain ⟨a, b, c, e, hb1, hb2, hc1, hc2⟩ := wl.ex
  have dv : ∀ i : Int, CDivW i many := fun i => wide_div h0 hb (by decide) (by decide)
  walk_at "dl"
  rw [asL_adr e]
  walk_at "dl"
  cases ha : decide (0 < a) with
  | true =>
    walk_at "dl"
    rw [asL_adr e]
    walk_at "dl"
    refine ⟨h0, ?_⟩
    walk_at "dl"
    rw [asL_adr e]
    walk_at "dl"
    refine ⟨dv a, ?_⟩
    walk_at "dl"
    rw [e]
    walk_at "dl"
    exact h _ _ (Int.emod_nonneg _ (by omega)) (Int.emod_lt_of_pos _ h0) (only_mset _ _ _) ⟨_, b, c, mset_same, hb1, hb2, hc1, by omega⟩
  | false =>
    walk_at "dl"
    rw [asL_adr e]
    walk_at "dl"
    rw [e]
    walk_at "dl"
    rw [asL_adr mset_same]
    walk_at "dl"
    rw [asL_adr mset_same]
    walk_at "dl"
    refine ⟨.inl ⟨by decide, by decide⟩, ?_⟩
    walk_at "dl"
    have bound : ∀ z : Int, 0 ≤ z → z ≤ 10000000000000 → CPow (b + z + 1) 5 := fun z h1 h2 => ⟨by decide, by decide, by
      have : (2 : Nat) ^ 64 = 18446744073709551616 := by decide
      omega⟩
    refine ⟨bound _ (by omega) (by omega), ?_⟩
    walk_at "dl"
    refine ⟨(by show (0 : Int) < _; decide), ?_⟩
    walk_at "dl"
    generalize hF : (b + 7919 * (c + 1) + 1) ^ Int.toNat 5 % 2147483647 = f1
    have f1a : 0 ≤ f1 := by rw [← hF]; exact Int.emod_nonneg _ (by decide)
    have f1b : f1 < 2147483647 := by rw [← hF]; exact Int.emod_lt_of_pos _ (by decide)
    refine ⟨wide_div (b := 11) (by decide) (by decide) (by decide) (by decide), ?_⟩
    walk_at "dl"
    rw [asL_adr mset_same]
    walk_at "dl"
    refine ⟨.inl ⟨by omega, by omega⟩, ?_⟩
    walk_at "dl"
    refine ⟨(by show (0 : Int) < _; decide), ?_⟩
    walk_at "dl"
    generalize hF2 : f1 * (f1 / 1009 + 69621 + (c + 1)) % 2147483629 = f2
    have f2a : 0 ≤ f2 := by rw [← hF2]; exact Int.emod_nonneg _ (by decide)
    have f2b : f2 < 2147483629 := by rw [← hF2]; exact Int.emod_lt_of_pos _ (by decide)
    refine ⟨wide_div (b := 11) (by decide) (by decide) (by decide) (by decide), ?_⟩
    walk_at "dl"
    refine ⟨.inl ⟨by omega, by omega⟩, ?_⟩
    walk_at "dl"
    refine ⟨(by show (0 : Int) < _; decide), ?_⟩
    walk_at "dl"
    refine ⟨h0, ?_⟩
    exact h _ _ (Int.emod_nonneg _ (by omega)) (Int.emod_lt_of_pos _ h0) (only_mset _ _ _) ⟨a, b, c + 1, mset_same, hb1, hb2, by omega, by omega⟩
end DL
namespace DL
open PySem L2
local macro_rules | `(tactic| walk_at "dl") => `(tactic| ((conv => whnf); try dsimp only))
def rdWell : DS :=
    sRet (rLstM (rCons (rOp oIx (rLst (rCons (rC (.int 0)) (rCons (rV 0) (rNil)))) (rCB cInt (rCons (rOp oGe (rV 0) (rOp oPow (rC (.int 10)) (rC (.int 18)))) (rNil)))) (rCons (rOp oMod (rCB cInt (rCons (rV 0) (rNil))) (rC (.int 2147483629))) (rCons (rC (.int 0)) (rNil)))))
theorem well_pure (x1 : Str) : ∀ ds m Q PX, spWell ds m Q PX → rdWell (dEnds Q PX) (dstart [x1] ds) m := by
  rintro ds m Q PX ⟨c, rfl, h⟩
  walk_at "dl"
  refine ⟨len_line (by simp), ?_⟩
  walk_at "dl"
  refine ⟨⟨by decide, by decide, by decide⟩, ?_⟩
  have fin : ∀ z : Int, (rCons (rOp oMod (rCB cInt (rCons (rV 0) (rNil))) (rC (.int 2147483629))) (rCons (rC (.int 0)) (rNil))) [some (.int c)] m (fun xs m2 => ([D.int z] ++ xs).length ≤ sizeLine ∧ ∀ q, m2 q = none → Q (.adr q) (mset m2 q (.lst ([D.int z] ++ xs)))) (fun c fs m1 => PX c fs m1) := by
    intro z
    walk_at "dl"
    refine ⟨(by show (0 : Int) < _; decide), ?_⟩
    refine ⟨len_line (by show 3 ≤ 1000000; decide), fun q hq => h q _ hq (only_mset _ _ _) ⟨z, c % 2147483629, 0, mset_same, Int.emod_nonneg _ (by decide), Int.emod_lt_of_pos _ (by decide), by decide, by decide⟩⟩
  walk_at "dl"
  cases hc : decide (10 ^ Int.toNat 18 ≤ c) with
  | true => exact fin c
  | false => exact fin 0
def rdCellAt : DS :=
    sSeq (sIf (rTst (rOp oLt (rV 1) (rCB cLen (rCons (rV 0) (rNil))))) (sRet (rOp oIx (rV 0) (rV 1))) (sNext))
    (sRet (rC (.int 0)))
theorem atI_some {α : Type} {xs : List α} {i : Int} (h0 : 0 ≤ i) (h1 : i < xs.length) : ∃ x, atI xs i = some x ∧ xs[i.toNat]? = some x := by
  unfold atI ixN
  rw [if_pos h0, if_pos h1]
  have hl : i.toNat < xs.length := by omega
  exact ⟨xs[i.toNat], by simp [hl], by simp [hl]⟩
theorem cellAt_pure (x1 x2 : Str) : ∀ ds m Q PX, spCellAt ds m Q PX → rdCellAt (dEnds Q PX) (dstart [x1, x2] ds) m := by
  rintro ds m Q PX ⟨ns, k, rfl, h⟩
  walk_at "dl"
  cases hk : decide ((k : Int) < ((ns.map D.int).length : Nat)) with
  | true =>
    have hk' := of_decide_eq_true hk
    obtain ⟨x, e1, e2⟩ := atI_some (by omega) hk'
    walk_at "dl"
    rw [e1]
    rw [List.getElem?_map] at e2
    cases e3 : ns[((k : Nat) : Int).toNat]? with
    | none => rw [e3] at e2; cases e2
    | some n =>
      rw [e3] at e2
      cases e2
      exact h n
  | false => exact h 0
end DL

namespace DL
open PySem L2
/-! ### a new object that a rule of the ledger has laid -/
theorem obj_alive {P : Program} {w : World} {H : Hp} {h : Heap} {a : Addr} {o : HO} (x : ObjOk P w H h a o) : ∃ u, h.get? a = some u := by
  cases o with
  | lst xs => obtain ⟨_, _, _, _, e⟩ := x; exact ⟨_, e⟩
  | tup xs => obtain ⟨_, _, _, o, e, _⟩ := x; exact ⟨_, e⟩
  | dK kvs => obtain ⟨_, _, _, _, o, _, _, e, _⟩ := x; exact ⟨_, e⟩
  | dT kvs => obtain ⟨_, _, _, _, o, _, _, e, _⟩ := x; exact ⟨_, e⟩
  | set S n => obtain ⟨o, _, _, _, e, _⟩ := x; exact ⟨_, e⟩
  | ins C dx fs => obtain ⟨_, _, _, e, _⟩ := x; exact ⟨_, e⟩
  | own y => exact x
  | xd fs => obtain ⟨_, ⟨_, _, _, e, _⟩, _⟩ := x; exact ⟨_, e⟩
  | rng lo hi => obtain ⟨_, _, _, e⟩ := x; exact ⟨_, e⟩
  | frz ob u => obtain ⟨e, _⟩ := x; exact ⟨_, e⟩
  | tbl ps => exact ⟨_, x⟩
  | met f y => exact ⟨_, x⟩
  | ext φ => exact x.2.1
theorem inv_news {X : Cx} {pins : List (Addr × Obj)} {σ : St} {H : Hp} {s : Shared} {h' : Heap} {tk : Nat} {q : Addr} {o : Obj} {u : HO} {mm : Str → Option Value} (I : L2.Inv X pins σ H s) (F0 : PyProof.Rows.Fr X.base X.env.locals s.heap mm) (F' : PyProof.Rows.Fr X.base X.env.locals h' mm)
    (N' : PyProof.Rows.News X.base X.env.locals h' ((q, o) :: allNews X.base s.heap X.env.locals)) (l1 : ∀ z ∈ allNews X.base s.heap X.env.locals, z.1 < q)
    (new : ∀ H2, ObjOk X.prog X.w H2 h' q u) : L2.Inv X pins σ (upd H q u) { s with heap := h', toks := tk } ∧ H q = none := by
  have nq := N' _ List.mem_cons_self
  have keep : ∀ b ob, b ≠ X.env.locals → s.heap.get? b = some ob → h'.get? b = some ob := fun b ob hb e => by
    cases z : X.base.get? b with
    | some v =>
      have := I.bk b v z
      rw [e] at this; cases this
      exact F'.keep b _ z
    | none => exact (N' (b, ob) (List.mem_cons_of_mem _ (mem_allNews hb z e))).1
  have dead : s.heap.get? q = none := by
    cases z : s.heap.get? q with
    | none => rfl
    | some v => exact absurd (l1 (q, v) (mem_allNews nq.2.1 nq.2.2 z)) (Nat.lt_irrefl _)
  have hq : H q = none := by
    cases z : H q with
    | none => rfl
    | some v =>
      obtain ⟨w, hw⟩ := obj_alive (I.hok q v z)
      rw [dead] at hw; cases hw
  have ne : ∀ b ob, s.heap.get? b = some ob → b ≠ q := fun b ob e z => by rw [z, dead] at e; cases e
  refine ⟨I.step (g' := s.gens) (d' := s.drawn) (ch := []) (fun _ z => nomatch z) (fun b ob hb _ _ e _ => keep b ob hb e) (fun b ob hb _ _ e _ => ⟨ob.slots, keep b ob hb e⟩) (fun b ob _ e n => by rw [upd_ne (ne b ob e)]; exact n)
    (fun b ob _ e => ?_) (fun b xs e => by rw [upd_ne (ne_of_none e hq)]; exact e) (fun b ob xs e => by rw [upd_ne (ne_of_none e hq)]; exact e) (fun b ps e => ⟨#[], by rw [upd_ne (ne_of_none e hq), e]; simp⟩) (fun m2 hm => ?_) (fun b v e => ?_) I.bare, hq⟩
  · by_cases hb : b = X.env.locals
    · obtain ⟨ob2, _, _, e2, _⟩ := F'.ns
      exact ⟨ob2, by rw [hb]; exact e2⟩
    · exact ⟨ob, keep b ob hb e⟩
  · have e : m2 = mm := by rw [hm.eq_nsMap, F0.ns.eq_nsMap]
    rw [e]
    exact F'.ns
  · by_cases hb : b = q
    · subst hb
      rw [upd_same] at e; cases e
      exact new _
    · rw [upd_ne hb] at e
      refine (I.hok b v e).stay (fun c w hc z => keep c w ?_ z) (fun c z => by rw [upd_ne (ne_of_none z hq)]; exact z) fun c xs z => by rw [upd_ne (ne_of_none z hq)]; exact z
      rcases hc with rfl | hc
      · intro z; rw [z, I.free] at e; cases e
      · intro z; rw [z, I.free] at hc; cases hc
/-! ### x, *rest = a tuple or list -/
def gStarV (K : PySem.W.Frag) (i j : Nat) : TG := fun v σ H Q => ∃ a z zs, v = .ref a ∧ (SqL K H a (z :: zs) ∨ SqT K H a (z :: zs)) ∧ zs.length < 16000 ∧ ∀ q, H q = none → Q ((σ.set i (some z)).set j (some (.ref q))) (upd H q (.lst zs))
section
variable {X : Cx} {W : WX} {a b c : Expr} {ra rb rc : DE} {pos p : Pos}
theorem pg_star {i j : Nat} {x y : Str} {p1 p2 p3 : Pos} {k : Nat} (hc : X.calm = true) (hx : PG X (.Name x p1) (gName i)) (hy : PG X (.Name y p2) (gName j)) : PG X (.Tuple [.Name x p1, .Starred (.Name y p2) p3] k pos) (gStarV X.K i j) := by
  refine ⟨fun pins s σ H v u Q I r hw => ?_⟩
  obtain ⟨q, z, zs, rfl, hq, hl, hw⟩ := hw
  cases r
  obtain ⟨mm, F0⟩ := I.fr
  have names : PGs X [.Name x p1, .Name y p2] (gCons (gName i) (gCons (gName j) gNil)) := pgs_cons hx (pgs_cons hy pgs_nil)
  have fin : ∀ (z' : Value) (zs' : List Value) D h' tk, RelV z z' → Vals zs zs' → PyProof.Rows.Fr X.base X.env.locals h' mm → PyProof.Rows.News X.base X.env.locals h' ((D, PySem.W.listOf zs'.toArray 0) :: allNews X.base s.heap X.env.locals) → (∀ w ∈ allNews X.base s.heap X.env.locals, w.1 < D) →
      wpAny (model X.prog X.w) X.A (assignInOrder ((assignEach [.Name x p1, .Starred (.Name y p2) p3] X.env).map (·.2)) ([z'] ++ [.ref D] ++ [])) (fun _ s' => ∃ σ' H', L2.Inv X pins σ' H' s' ∧ Q σ' H') X.xe { s with heap := h', toks := tk } := fun z' zs' D h' tk rz rzs F' N' l1 => by
    have hlen := rzs.length
    obtain ⟨I', hD⟩ := inv_news (u := .lst zs) (tk := tk) I F0 F' N' l1 fun H2 => ⟨by rw [sizeLine_eq]; omega, zs', 0, rzs, (N' _ List.mem_cons_self).1⟩
    exact names.run pins _ σ _ [z, .ref D] [z', .ref D] Q I' (.cons rz (.cons rfl .nil)) ⟨z, _, rfl, _, _, rfl, rfl, hw D hD⟩
  rcases hq with hq | hq
  · obtain ⟨its, rv, pl, hz⟩ := I.list hq
    cases rv with
    | @cons _ z' _ zs' rz rzs =>
      have hlen := rzs.length
      exact PySem.W.kun_assignL (n := 2) (i := 1) (first := [z']) (mids := zs') (lasts := []) F0 news_all pl.isList (I.ok.hd hc) rfl rfl (by decide) (by simp) (by simp; omega) (by simp) (by simp) (by simp) fun D h' tk F' N' l1 => fin z' zs' D h' tk rz rzs F' N' l1
  · obtain ⟨its, rv, pl, hz⟩ := I.tuple hq
    cases rv with
    | @cons _ z' _ zs' rz rzs =>
      have hlen := rzs.length
      exact PySem.W.kun_assignT (n := 2) (i := 1) (first := [z']) (mids := zs') (lasts := []) F0 news_all pl (I.ok.hd hc) rfl rfl (by decide) (by simp) (by simp; omega) (by simp) (by simp) (by simp) fun D h' tk F' N' l1 => fin z' zs' D h' tk rz rzs F' N' l1
/-- over data -/
def sStar (i j : Nat) (ra : DE) : DS := fun DD δ m => ra δ m (fun d m1 => match asLT m1 d with
  | some (z :: zs) => zs.length < 16000 ∧ DD.nx ((δ.set i (some z)).set j (some (.lst zs))) m1
  | _ => False) fun c fs m1 => DD.xx c fs δ m1
theorem ds_star {i j : Nat} {x y : Str} {p1 p2 p3 p4 : Pos} {k : Nat} (hc : X.calm = true) (ha : PE X a (lE X.K W ra)) (hx : PG X (.Name x p1) (gName i)) (hy : PG X (.Name y p2) (gName j))
    (hs : swapsWithSole [.Tuple [.Name x p1, .Starred (.Name y p2) p3] k p4] a pos.line X.env = pure false := by rfl) (hw : swappedStores [.Tuple [.Name x p1, .Starred (.Name y p2) p3] k p4] a X.env = pure none := by rfl) (h1 : (assignEach [.Tuple [.Name x p1, .Starred (.Name y p2) p3] k p4] X.env).map (·.2) = [assign (.Tuple [.Name x p1, .Starred (.Name y p2) p3] k p4) X.env] := by rfl) :
    PS X (.Assign [.Tuple [.Name x p1, .Starred (.Name y p2) p3] k p4] a pos) (lS X.K W (sStar i j ra)) := by
  refine PS.imp (ps_asg ha (pg_star hc hx hy) hs hw h1) fun Dn σ H h => ?_
  obtain ⟨F, H0, m, δ, DD, ok, rs, h, g⟩ := h
  refine ⟨F, H0, m, δ, _, _, ok, rs, h, fun v H1 H01 m1 d s1 ok1 r1 h1 => ?_, g.xx.at_ rs⟩
  dsimp only at h1
  split at h1
  · rename_i z zs e1
    obtain ⟨q, vs, rfl, hq, rv⟩ := asLT_rp ok1 r1 e1
    cases rv with
    | @cons zv vs' _ _ rz rzs =>
      refine ⟨q, zv, vs', rfl, hq, by rw [rzs.length]; exact h1.1, fun D hD => ?_⟩
      have sn := same_new (o := HO.lst vs') (ok1.free hD).1
      exact g.nx _ _ _ _ _ (s1.trans sn) (ok1.new hD _) ((((rs.mono s1).mono sn).set (rz.mono sn) i).set (.lst (SqL.of upd_same) (rzs.mono sn)) j) h1.2
  · exact h1.elim
end
end DL

namespace DL
open PySem L2
/-! ### pairs of a dict -/
section
variable {κ : Type} [DecidableEq κ]
@[irreducible] def valD (kvs : List (κ × D)) (k : κ) : Option D := (kvs.find? fun kv => decide (kv.1 = k)).map (·.2)
theorem valD_nil {k : κ} : valD ([] : List (κ × D)) k = none := by unfold valD; rfl
theorem valD_pos {p : κ × D} {r : List (κ × D)} {k : κ} (e : p.1 = k) : valD (p :: r) k = some p.2 := by unfold valD; simp [List.find?_cons, e]
theorem valD_neg {p : κ × D} {r : List (κ × D)} {k : κ} (e : ¬ p.1 = k) : valD (p :: r) k = valD r k := by unfold valD; simp [List.find?_cons, e]
@[irreducible] def putD (kvs : List (κ × D)) (k : κ) (d : D) : List (κ × D) := if (valD kvs k).isSome then kvs.map (fun kv => if kv.1 = k then (kv.1, d) else kv) else kvs ++ [(k, d)]
theorem putD_new {kvs : List (κ × D)} {k : κ} {d : D} (h : valD kvs k = none) : putD kvs k d = kvs ++ [(k, d)] := by unfold putD; rw [h]; rfl
inductive RpK (K : PySem.W.Frag) (H : Hp) : List (κ × V) → List (κ × D) → Prop
  | nil : RpK K H [] []
  | cons {k : κ} {v : V} {d : D} {r : List (κ × V)} {t : List (κ × D)} : Rp K H v d → RpK K H r t → RpK K H ((k, v) :: r) ((k, d) :: t)
theorem rpK_of {K : PySem.W.Frag} {H : Hp} : ∀ {kv : List (κ × V)} {ds : List (κ × D)}, kv.map (·.1) = ds.map (·.1) → RpL K H (kv.map (·.2)) (ds.map (·.2)) → RpK K H kv ds
  | [], [], _, _ => .nil
  | [], _ :: _, e, _ => by simp at e
  | _ :: _, [], e, _ => by simp at e
  | (k, v) :: r, (k2, d) :: t, e, q => by
    simp only [List.map_cons, List.cons.injEq] at e
    obtain ⟨rfl, e⟩ := e
    cases q with
    | cons q1 q2 => exact .cons q1 (rpK_of e q2)
theorem RpK.keys {K : PySem.W.Frag} {H : Hp} {kv : List (κ × V)} {ds : List (κ × D)} (r : RpK K H kv ds) : kv.map (·.1) = ds.map (·.1) := by
  induction r with
  | nil => rfl
  | cons _ _ ih => simp [ih]
theorem RpK.vals {K : PySem.W.Frag} {H : Hp} {kv : List (κ × V)} {ds : List (κ × D)} (r : RpK K H kv ds) : RpL K H (kv.map (·.2)) (ds.map (·.2)) := by
  induction r with
  | nil => exact .nil
  | cons q _ ih => exact .cons q ih
theorem RpK.length {K : PySem.W.Frag} {H : Hp} {kv : List (κ × V)} {ds : List (κ × D)} (r : RpK K H kv ds) : kv.length = ds.length := by
  have := congrArg List.length r.keys; simpa using this
theorem RpK.mono {K : PySem.W.Frag} {H H' : Hp} (s : Same H H') {kv : List (κ × V)} {ds : List (κ × D)} (r : RpK K H kv ds) : RpK K H' kv ds := by
  induction r with
  | nil => exact .nil
  | cons q _ ih => exact .cons (q.mono s) ih
theorem RpK.val {K : PySem.W.Frag} {H : Hp} {kv : List (κ × V)} {ds : List (κ × D)} (r : RpK K H kv ds) (k : κ) : (valV kv k = none ∧ valD ds k = none) ∨ ∃ v d, valV kv k = some v ∧ valD ds k = some d ∧ Rp K H v d := by
  induction r with
  | nil => exact .inl ⟨valV_nil, valD_nil⟩
  | @cons k2 v d r t q _ ih =>
    by_cases e : k2 = k
    · exact .inr ⟨v, d, valV_pos e, valD_pos e, q⟩
    · rw [valV_neg e, valD_neg e]; exact ih
theorem RpK.append {K : PySem.W.Frag} {H : Hp} {kv kv' : List (κ × V)} {ds ds' : List (κ × D)} (r : RpK K H kv ds) (r' : RpK K H kv' ds') : RpK K H (kv ++ kv') (ds ++ ds') := by
  induction r with
  | nil => exact r'
  | cons q _ ih => exact .cons q ih
theorem RpK.put {K : PySem.W.Frag} {H : Hp} {kv : List (κ × V)} {ds : List (κ × D)} (r : RpK K H kv ds) (k : κ) {v : V} {d : D} (q : Rp K H v d) : RpK K H (putK kv k v) (putD ds k d) := by
  unfold putK putD
  rw [valV_any]
  have e : (valV kv k).isSome = (valD ds k).isSome := by
    rcases r.val k with ⟨a, b⟩ | ⟨_, _, a, b, _⟩ <;> rw [a, b] <;> rfl
  rw [e]
  split
  · rename_i hh
    clear e hh
    induction r with
    | nil => exact .nil
    | @cons k2 v2 d2 r t q2 _ ih =>
      simp only [List.map_cons]
      by_cases e : k2 = k
      · rw [if_pos e, if_pos e]; exact .cons q ih
      · rw [if_neg e, if_neg e]; exact .cons q2 ih
  · exact r.append (.cons q .nil)
end
def mergeD (kvs more : List (Key × D)) : List (Key × D) := more.foldl (fun acc kv => putD acc kv.1 kv.2) kvs
theorem RpK.merge {K : PySem.W.Frag} {H : Hp} {more : List (Key × V)} {mo : List (Key × D)} (q : RpK K H more mo) : ∀ {kv : List (Key × V)} {ds : List (Key × D)}, RpK K H kv ds → RpK K H (mergeK kv more) (mergeD ds mo) := by
  induction q with
  | nil => exact fun r => r
  | cons q _ ih => exact fun r => ih (r.put _ q)
theorem Rp.dctK {K : PySem.W.Frag} {H : Hp} {a : Addr} {kv : List (Key × V)} {ds : List (Key × D)} (h : H a = some (.dK kv)) (r : RpK K H kv ds) : Rp K H (.ref a) (.dct ds) := .dct h r.keys r.vals
section
variable {X : Cx} {W : WX} {a b c : Expr} {ra rb rc : DE} {pos p : Pos}
/-! ### {k: v, ..} -/
def rPairs : List (DE × DE) → DSt → Mu → (List (Key × D) → Mu → Prop) → DX → Prop
  | [], _, m, P, _ => P [] m
  | (ra, rb) :: r, δ, m, P, PX => ra δ m (fun x m1 => rb δ m1 (fun y m2 => match keyD x with
    | some k => rPairs r δ m2 (fun ps m3 => P ((k, y) :: ps) m3) PX
    | none => False) PX) PX
def lPair (K : PySem.W.Frag) (W : WX) (p : DE × DE) : TE × TE := (lE K W p.1, lE K W p.2)
theorem pairs_up {K : PySem.W.Frag} {F : Hp} {δ : DSt} {σ : St} {PX : DX} : ∀ (rs : List (DE × DE)) {H0 H : Hp} {m : Mu} {P : List (Key × D) → Mu → Prop} {Q : List (V × V) → Hp → Prop}, Ok K F H0 m H → RpS K H0 σ δ → rPairs rs δ m P PX →
    (∀ kvs H' H0' m' ds, Same H0 H0' → Ok K F H0' m' H' → RpK K H0' kvs ds → P ds m' → Q (kvs.map fun kv => (kV kv.1, kv.2)) H') → GX K F H0 PX (fun c xd H' => W c xd σ H') → tPairs (rs.map (lPair K W)) σ H Q
  | [], H0, H, m, P, Q, ok, rs, h, g, gx => g [] H H0 m [] (Same.refl _) ok .nil h
  | (ra, rb) :: r, H0, H, m, P, Q, ok, rs, h, g, gx => by
    refine ⟨F, H0, m, δ, _, PX, ok, rs, h, fun x H1 H01 m1 d1 s1 ok1 r1 h1 => ⟨F, H01, m1, δ, _, PX, ok1, rs.mono s1, h1, fun y H2 H02 m2 d2 s2 ok2 r2 h2 => ?_, gx.mono s1⟩, gx⟩
    dsimp only at h2
    split at h2
    · rename_i k e
      have ek := keyD_rp (r1.mono s2) e
      subst ek
      refine pairs_up r ok2 (rs.mono (s1.trans s2)) h2 (fun kvs H' H0' m' ds s3 ok3 rk h3 => ?_) (gx.mono (s1.trans s2))
      exact g ((k, y) :: kvs) H' H0' m' _ ((s1.trans s2).trans s3) ok3 (.cons (r2.mono s3) rk) h3
    · exact h2.elim
def rDctN (rs : List (DE × DE)) : DE := fun δ m P PX => rPairs rs δ m (fun ps m1 => ps.length ≤ 15 ∧ P (.dct (mergeD [] ps)) m1) PX
theorem dps_nil : PPs X pos [] [] ([].map (lPair X.K W)) := pps_nil
theorem dps_cons {k v : Expr} {ks : List (Option Expr)} {vs : List Expr} {rs : List (DE × DE)} (ha : PE X k (lE X.K W ra)) (hb : PE X v (lE X.K W rb)) (hr : PPs X pos ks vs (rs.map (lPair X.K W))) : PPs X pos (some k :: ks) (v :: vs) (((ra, rb) :: rs).map (lPair X.K W)) := pps_cons ha hb hr
theorem pd_dctN {keys : List (Option Expr)} {values : List Expr} {rs : List (DE × DE)} (h : PPs X pos keys values (rs.map (lPair X.K W))) (hall : keys.all (·.isSome) = true := by rfl) (hl : keys.length = values.length := by rfl) (h0 : keys ≠ [] := by intro z; cases z) (h15 : keys.length ≤ 15 := by decide) :
    PE X (.Dict keys values pos) (lE X.K W (rDctN rs)) := by
  refine PE.imp (pe_disp h hall hl h0 h15) fun σ H Q h => ?_
  obtain ⟨F, H0, m, δ, P, PX, ok, rs, h, g, gx⟩ := h
  intro q hq
  have hF : F q = none := ok.freeF hq
  have okq : Ok X.K (upd F q (.dK [])) H0 m (upd H q (.dK [])) := ok.addF hq
  refine pairs_up _ okq rs h (fun kvs H' H0' m' ds s1 ok1 rk h1 => ?_) fun c xd H' H0' m' fs s' ok' x z => gx c xd H' H0' m' fs s' (ok'.unframe hF).1 x z
  obtain ⟨z1, z2, z3⟩ := ok1.fr q _ upd_same
  refine ⟨z1, kvs, rfl, by rw [rk.length]; exact h1.1, ?_⟩
  obtain ⟨ok3, w1, w2, w3⟩ := (ok1.reF (o' := .dK (mergeK [] kvs))).unframe hF
  exact g _ _ _ _ _ (s1.trans (same_new w2)) (ok3.promote w1 w2 w3 hF) (.dctK upd_same ((rk.merge .nil).mono (same_new w2))) h1.2
/-! ### d[k] -/
def asDc (m : Mu) : D → Option (List (Key × D))
  | .dct kvs => some kvs
  | .adr q => match m q with | some (.dct kvs) => some kvs | _ => none
  | _ => none
theorem asDc_rp {K : PySem.W.Frag} {F H0 H : Hp} {m : Mu} {v : V} {d : D} {ds : List (Key × D)} (ok : Ok K F H0 m H) (r : Rp K H0 v d) (h : asDc m d = some ds) : ∃ q kv, v = .ref q ∧ H q = some (.dK kv) ∧ RpK K H0 kv ds := by
  cases d with
  | dct kvs =>
    cases h
    cases r with
    | dct e1 e2 e3 => exact ⟨_, _, rfl, ok.same _ _ e1, rpK_of e2 e3⟩
  | adr q =>
    cases r
    change (match m q with | some (.dct kvs) => some kvs | _ => none) = some ds at h
    cases e : m q with
    | none => rw [e] at h; cases h
    | some o =>
      rw [e] at h
      cases o with
      | dct kvs =>
        cases h
        obtain ⟨_, kv, e1, e2, e3⟩ := ok.cell q _ e
        exact ⟨q, kv, rfl, e1, rpK_of e2 e3⟩
      | _ => cases h
  | _ => cases h
def oDGet : DO := fun x y m P => match asDc m x, keyD y with
  | some kvs, some k => match valD kvs k with | some d => P d m | none => False
  | _, _ => False
theorem pd_dget (hu : X.A.units + 1 < cLine) (ha : PE X a (lE X.K W ra)) (hb : PE X b (lE X.K W rb)) (hs : NoSl b := by intro _ _; rfl) : PE X (.Subscript a b pos) (lE X.K W (rOp oDGet ra rb)) := by
  refine PE.imp (pe_dget hu ha hb hs) fun σ H Q h => ?_
  obtain ⟨F, H0, m, δ, P, PX, ok, rs, h, g, gx⟩ := h
  refine ⟨F, H0, m, δ, _, PX, ok, rs, h, fun x H1 H01 m1 d1 s1 ok1 r1 h1 => ⟨F, H01, m1, δ, _, PX, ok1, rs.mono s1, h1, fun y H2 H02 m2 d2 s2 ok2 r2 h2 => ?_, gx.mono s1⟩, gx⟩
  unfold oDGet at h2
  dsimp only at h2
  split at h2
  · rename_i kvs k e1 e2
    obtain ⟨q, kv, rfl, e3, rk⟩ := asDc_rp ok2 (r1.mono s2) e1
    have ek := keyD_rp r2 e2
    subst ek
    rcases rk.val k with ⟨_, z⟩ | ⟨v, d, z1, z2, z3⟩
    · rw [z] at h2; exact h2.elim
    · rw [z2] at h2
      exact ⟨q, v, rfl, z1 ▸ DGet.k e3, g _ _ _ _ _ (s1.trans s2) ok2 z3 h2⟩
  · exact h2.elim
/-! ### while -/
def sWhile (rt : DT) (rb : DS) : DS := fun DD δ m => ∃ I : Nat → DSt → Mu → Prop, (∃ n, I n δ m) ∧ ∀ n δ m, I n δ m → rt δ m (fun b m1 => match b with
  | true => rb { DD with nx := fun δ' m' => ∃ n', n' < n ∧ I n' δ' m', ct := fun δ' m' => ∃ n', n' < n ∧ I n' δ' m', bk := DD.nx } δ m1
  | false => DD.nx δ m1) fun c fs m1 => DD.xx c fs δ m1
theorem ds_while {body : List Stmt} {rt : DT} {rb : DS} (hp : PassesOwn (model X.prog X.w) X.A X.env X.xe) (hc : PT X c (lT X.K W rt)) (hb : PSs X body (lS X.K W rb)) : PS X (.While c body [] pos) (lS X.K W (sWhile rt rb)) := by
  refine PS.imp (ps_while hp hc hb) fun Dn σ H h => ?_
  obtain ⟨F, H0, m, δ, DD, ok, rs, ⟨I, ⟨n, h0⟩, hI⟩, gd⟩ := h
  refine ⟨fun n σ' H' => ∃ H0' m' δ', Same H0 H0' ∧ Ok X.K F H0' m' H' ∧ RpS X.K H0' σ' δ' ∧ I n δ' m', ⟨n, H0, m, δ, Same.refl _, ok, rs, h0⟩, ?_⟩
  rintro k σ1 H1 ⟨H01, m1, δ1, s1, ok1, rs1, i1⟩
  have gd1 := gd.mono s1
  refine ⟨F, H01, m1, δ1, _, _, ok1, rs1, hI k δ1 m1 i1, fun b H2 H02 m2 s2 ok2 h2 => ?_, gd1.xx.at_ rs1⟩
  have gd2 := gd1.mono s2
  cases b with
  | true =>
    dsimp only
    rw [if_pos rfl]
    refine ⟨fun σ' H' => ∃ n', n' < k ∧ ∃ H0' m' δ', Same H0 H0' ∧ Ok X.K F H0' m' H' ∧ RpS X.K H0' σ' δ' ∧ I n' δ' m', fun σ' H' z => z, F, H02, m2, δ1, _, ok2, rs1.mono s2, h2, ?_⟩
    have again : GS X.K F H02 (fun δ' m' => ∃ n', n' < k ∧ I n' δ' m') fun σ' H' => ∃ n', n' < k ∧ ∃ H0' m' δ', Same H0 H0' ∧ Ok X.K F H0' m' H' ∧ RpS X.K H0' σ' δ' ∧ I n' δ' m' := fun σ3 H3 H03 m3 δ3 s3 ok3 rs3 ⟨n', l, z⟩ => ⟨n', l, H03, m3, δ3, (s1.trans s2).trans s3, ok3, rs3, z⟩
    exact ⟨again, gd2.rt, gd2.nx, again, gd2.xx⟩
  | false =>
    dsimp only
    rw [if_neg Bool.false_ne_true]
    exact gd2.nx _ _ _ _ _ (Same.refl _) ok2 (rs1.mono s2) h2
/-- by a word and a measure -/
theorem while_inv {rt : DT} {rb : DS} {DD : DEnds} {δ : DSt} {m : Mu} (I : Nat → DSt → Mu → Prop) (n : Nat) (h0 : I n δ m) (h : ∀ n δ m, I n δ m → rt δ m (fun b m1 => match b with
  | true => rb { DD with nx := fun δ' m' => ∃ n', n' < n ∧ I n' δ' m', ct := fun δ' m' => ∃ n', n' < n ∧ I n' δ' m', bk := DD.nx } δ m1
  | false => DD.nx δ m1) fun c fs m1 => DD.xx c fs δ m1) : sWhile rt rb DD δ m := ⟨I, ⟨n, h0⟩, h⟩
end
/-! ### a def that calls itself: at depth 0 nothing is promised -/
def spNo : SpD := fun _ _ _ _ => False
theorem def_no {P : Program} {w : World} {K : PySem.W.Frag} {mg : Str → Option Value} {base : Heap} {x qual : Str} {st : Stmt} {ps : List Str} {sp : SpD} (k : Nat) (G : FunAt K mg x qual st) (h : ∀ ds m Q PX, ¬ sp ds m Q PX) : DefOk P w K mg base k x qual st ps sp := by
  obtain ⟨f, fd, e, G⟩ := G
  exact ⟨f, fd, e, G, fun vs H Q E ⟨_, _, _, _, _, _, _, _, z, _⟩ => (h _ _ _ _ z).elim, fun A outer s H args us vs Q E _ _ _ _ ⟨_, _, _, _, _, _, _, _, z, _⟩ => (h _ _ _ _ z).elim⟩
end DL
namespace DL
open PySem L2
theorem units1 {k : Nat} {A : Around} (r : Room k A) : A.units + 1 < cLine := by have := r.un; omega
end DL

namespace DL
open PySem L2
/-! ### == of data without truths -/
mutual
def pur : D → Bool
  | .non => true
  | .int _ => true
  | .str _ => true
  | .lst ds => purL ds
  | .tup ds => purL ds
  | .bl _ => false
  | .ty _ => false
  | .adr _ => false
  | .glb _ => false
  | .exc _ _ _ _ _ => false
  | .dct _ => false
  | .ins _ _ => false
def purL : List D → Bool
  | [] => true
  | d :: ds => pur d && purL ds
end
mutual
theorem eqv_iff : ∀ (d e : D), pur d = true → pur e = true → (PyData.eqv (py d) (py e) = true ↔ d = e)
  | .non, e, h1, h2 => by cases e <;> simp [pur, py, PyData.eqv] at h2 ⊢
  | .int i, e, h1, h2 => by cases e <;> simp [pur, py, PyData.eqv] at h2 ⊢
  | .str i, e, h1, h2 => by cases e <;> simp [pur, py, PyData.eqv] at h2 ⊢
  | .lst ds, e, h1, h2 => by
    rw [pur] at h1
    cases e with
    | lst es => rw [pur] at h2; rw [py, py, PyData.eqv, eqvL_iff ds es h1 h2]; simp
    | _ => simp [pur, py, PyData.eqv] at h2 ⊢
  | .tup ds, e, h1, h2 => by
    rw [pur] at h1
    cases e with
    | tup es => rw [pur] at h2; rw [py, py, PyData.eqv, eqvL_iff ds es h1 h2]; simp
    | _ => simp [pur, py, PyData.eqv] at h2 ⊢
  | .bl _, _, h1, _ => by rw [pur] at h1; cases h1
  | .ty _, _, h1, _ => by rw [pur] at h1; cases h1
  | .adr _, _, h1, _ => by rw [pur] at h1; cases h1
  | .dct _, _, h1, _ => by rw [pur] at h1; cases h1
  | .ins _ _, _, h1, _ => by rw [pur] at h1; cases h1
  | .glb _, _, h1, _ => by rw [pur] at h1; cases h1
  | .exc _ _ _ _ _, _, h1, _ => by rw [pur] at h1; cases h1
theorem eqvL_iff : ∀ (ds es : List D), purL ds = true → purL es = true → (PyData.eqvAll (pyL ds) (pyL es) = true ↔ ds = es)
  | [], [], _, _ => by rw [pyL, PyData.eqvAll]; simp
  | [], _ :: _, _, _ => by rw [pyL, pyL, PyData.eqvAll]; simp
  | _ :: _, [], _, _ => by rw [pyL, pyL, PyData.eqvAll]; simp
  | d :: ds, e :: es, h1, h2 => by
    rw [purL, Bool.and_eq_true] at h1 h2
    rw [pyL, pyL, PyData.eqvAll, Bool.and_eq_true, eqv_iff d e h1.1 h2.1, eqvL_iff ds es h1.2 h2.2]
    simp
end
theorem deq_iff {d e : D} (h1 : pur d = true) (h2 : pur e = true) : deq d e = true ↔ d = e := eqv_iff d e h1 h2
theorem purL_all {ds : List D} (h : ∀ d ∈ ds, pur d = true) : purL ds = true := by
  induction ds with
  | nil => rw [purL]
  | cons d ds ih => rw [purL, h d List.mem_cons_self, ih fun e he => h e (List.mem_cons_of_mem _ he)]; rfl
/-! ### data that == may look at -/
def fitD : Nat → D → Prop
  | _, .non => True
  | _, .bl _ => True
  | _, .int _ => True
  | _, .str x => ∀ c ∈ x.cps.toList, c < 1114112
  | n + 1, .lst ds => ∀ d ∈ ds, fitD n d
  | n + 1, .tup ds => ∀ d ∈ ds, fitD n d
  | _, _ => False
theorem fit_lay : ∀ (n : Nat) (d : D), fitD n d → PyData.canLay0 (py d) = true ∧ PyData.depth (py d) ≤ n + 1 := by
  have str : ∀ (n : Nat) (x : Str), (∀ c ∈ x.cps.toList, c < 1114112) → PyData.canLay0 (py (.str x)) = true ∧ PyData.depth (py (.str x)) ≤ n + 1 := fun n x h => by
    rw [py, PyData.canLay0, PyData.depth, PyData.strOk]
    refine ⟨?_, Nat.zero_le _⟩
    rw [← Array.all_toList, List.all_eq_true]
    intro c hc
    exact decide_eq_true (h c hc)
  intro n
  induction n with
  | zero =>
    intro d h
    cases d with
    | str x => exact str 0 x h
    | lst ds => exact h.elim
    | tup ds => exact h.elim
    | non => rw [py, PyData.canLay0, PyData.depth]; exact ⟨rfl, Nat.zero_le _⟩
    | bl b => rw [py, PyData.canLay0, PyData.depth]; exact ⟨rfl, Nat.zero_le _⟩
    | int i => rw [py, PyData.canLay0, PyData.depth]; exact ⟨rfl, Nat.zero_le _⟩
    | _ => exact h.elim
  | succ n ih =>
    have all : ∀ ds : List D, (∀ d ∈ ds, fitD n d) → PyData.canLayAll0 (pyL ds) = true ∧ PyData.depthAll (pyL ds) ≤ n + 1 := fun ds => by
      induction ds with
      | nil => intro _; rw [pyL, PyData.canLayAll0, PyData.depthAll]; exact ⟨rfl, Nat.zero_le _⟩
      | cons d ds ih2 =>
        intro h
        obtain ⟨a1, a2⟩ := ih d (h d List.mem_cons_self)
        obtain ⟨b1, b2⟩ := ih2 fun e he => h e (List.mem_cons_of_mem _ he)
        rw [pyL, PyData.canLayAll0, PyData.depthAll, a1, b1]
        exact ⟨rfl, Nat.max_le.mpr ⟨a2, b2⟩⟩
    intro d h
    cases d with
    | str x => exact str (n + 1) x h
    | lst ds =>
      obtain ⟨a1, a2⟩ := all ds h
      rw [py, PyData.canLay0, PyData.depth]
      exact ⟨a1, by omega⟩
    | tup ds =>
      obtain ⟨a1, a2⟩ := all ds h
      rw [py, PyData.canLay0, PyData.depth]
      exact ⟨a1, by omega⟩
    | non => rw [py, PyData.canLay0, PyData.depth]; exact ⟨rfl, Nat.zero_le _⟩
    | bl b => rw [py, PyData.canLay0, PyData.depth]; exact ⟨rfl, Nat.zero_le _⟩
    | int i => rw [py, PyData.canLay0, PyData.depth]; exact ⟨rfl, Nat.zero_le _⟩
    | _ => exact h.elim
theorem shp_of {n : Nat} {d : D} (h : fitD n d) (hn : n ≤ 60 := by decide) : shp d := by
  obtain ⟨a, b⟩ := fit_lay n d h
  unfold shp SeqAt.shaped
  rw [a]
  simp
  omega
theorem valD_put {κ : Type} [DecidableEq κ] (kvs : List (κ × D)) (k j : κ) (d : D) : valD (putD kvs k d) j = if j = k then some d else valD kvs j := by
  unfold putD
  split
  · rename_i h
    induction kvs with
    | nil => rw [valD_nil] at h; cases h
    | cons p r ih =>
      simp only [List.map_cons]
      by_cases e : p.1 = k
      · rw [if_pos e]
        by_cases ej : j = k
        · rw [if_pos ej]; exact valD_pos (p := (p.1, d)) (e.trans ej.symm)
        · rw [if_neg ej, valD_neg (by intro z; exact ej (z.symm.trans e)), valD_neg (by intro z; exact ej (z.symm.trans e))]
          clear ih h
          induction r with
          | nil => rfl
          | cons p2 r2 ih2 =>
            simp only [List.map_cons]
            by_cases e2 : p2.1 = k
            · rw [if_pos e2, valD_neg (by intro z; exact ej (z.symm.trans e2)), valD_neg (by intro z; exact ej (z.symm.trans e2))]; exact ih2
            · rw [if_neg e2]
              by_cases e3 : p2.1 = j
              · rw [valD_pos e3, valD_pos e3]
              · rw [valD_neg e3, valD_neg e3]; exact ih2
      · rw [if_neg e]
        rw [valD_neg e] at h
        by_cases e3 : p.1 = j
        · rw [valD_pos e3, valD_pos e3, if_neg (fun z => e (e3.trans z))]
        · rw [valD_neg e3, valD_neg e3]; exact ih h
  · rename_i h
    have h : valD kvs k = none := by cases z : valD kvs k with
      | none => rfl
      | some d => rw [z] at h; exact absurd rfl h
    induction kvs with
    | nil =>
      by_cases ej : j = k
      · rw [if_pos ej]; exact valD_pos ej.symm
      · rw [if_neg ej]; exact valD_neg (fun z => ej z.symm)
    | cons p r ih =>
      have e : ¬ p.1 = k := fun z => by rw [valD_pos z] at h; cases h
      rw [valD_neg e] at h
      by_cases e3 : p.1 = j
      · rw [List.cons_append, valD_pos e3, valD_pos e3, if_neg (fun z => e (e3.trans z))]
      · rw [List.cons_append, valD_neg e3, valD_neg e3]; exact ih (by rename_i q _; rw [h]; simp) h
/-! ### texts -/
theorem cps_app (x y : Str) : (x ++ y).cps.toList = x.cps.toList ++ y.cps.toList := PyProof.Rows.cps_toList_append x y
theorem str_ext {x y : Str} (h : x.cps.toList = y.cps.toList) : x = y := by
  cases x; cases y
  congr
  exact Array.toList_inj.mp h
/-- parted by a sign that is in neither -/
theorem sep_inj {c : Nat} : ∀ {x y r s : List Nat}, c ∉ x → c ∉ y → x ++ c :: r = y ++ c :: s → x = y ∧ r = s
  | [], [], r, s, _, _, h => by simp at h; exact ⟨rfl, h⟩
  | [], b :: y, r, s, _, hy, h => by simp at h; exact absurd h.1 (fun z => hy (by rw [z]; simp))
  | a :: x, [], r, s, hx, _, h => by simp at h; exact absurd h.1 (fun z => hx (by rw [z]; simp))
  | a :: x, b :: y, r, s, hx, hy, h => by
    simp at h
    obtain ⟨e1, e2⟩ := sep_inj (fun z => hx (by simp [z])) (fun z => hy (by simp [z])) h.2
    exact ⟨by rw [h.1, e1], e2⟩
theorem sep_no {c : Nat} {x y s : List Nat} (hx : c ∉ x) : x ≠ y ++ c :: s := fun h => hx (by rw [h]; simp)
/-! ### a number's text -/
abbrev dig (n : Int) : Str := (toString n : String)
theorem dig_free {k : Nat} (n : Int) (hk : k ≠ 45 ∧ (k < 48 ∨ 57 < k) := by decide) : k ∉ (dig n).cps.toList := PyProof.Rows.int_text_free' k hk n
theorem dig_nat (m : Nat) : (dig (m : Nat)).cps.toList = (Nat.toDigits 10 m).map Char.toNat := PySem.W.KIN.signs_num m
theorem dig_neg (m : Nat) : (dig (-((m + 1 : Nat) : Int))).cps.toList = 45 :: (dig ((m + 1 : Nat) : Int)).cps.toList := by
  show (Str.ofString (toString (Int.negSucc m))).cps.toList = _
  rw [PyProof.Rows.signs_ofString]
  show ("-" ++ Nat.repr (m + 1)).toList.map Char.toNat = _
  rw [String.toList_append, List.map_append]
  show [45] ++ (Nat.repr (m + 1)).toList.map Char.toNat = _
  rw [← PyProof.Rows.signs_ofString]
  rfl
theorem dig_nat_free (m : Nat) : (45 : Nat) ∉ (dig (m : Nat)).cps.toList := by
  rw [dig_nat]
  intro h
  obtain ⟨ch, hch, e⟩ := List.mem_map.mp h
  have r := PyProof.Rows.digit_range (Nat.isDigit_of_mem_toDigits (by decide) (by decide) hch)
  omega
theorem dig_ne (n : Int) : (dig n).cps.toList ≠ [] := by
  cases n with
  | ofNat m =>
    show (dig ((m : Nat) : Int)).cps.toList ≠ []
    rw [dig_nat]
    intro e
    have h := PySem.toDigits_len_ge 10 m
    rw [List.map_eq_nil_iff.mp e] at h
    exact absurd h (by decide)
  | negSucc m =>
    show (dig (-((m + 1 : Nat) : Int))).cps.toList ≠ []
    rw [dig_neg]
    simp
theorem dig_inj {a b : Int} (h : (dig a).cps.toList = (dig b).cps.toList) : a = b := by
  have nat : ∀ m k : Nat, (dig (m : Nat)).cps.toList = (dig (k : Nat)).cps.toList → m = k := fun m k h => by
    rw [dig_nat, dig_nat] at h
    have := congrArg PySem.NumText.digitsVal h
    rw [PySem.W.KIN.val_back, PySem.W.KIN.val_back] at this
    exact this
  cases a with
  | ofNat m =>
    cases b with
    | ofNat k => rw [nat m k h]
    | negSucc k =>
      change (dig ((m : Nat) : Int)).cps.toList = (dig (-((k + 1 : Nat) : Int))).cps.toList at h
      rw [dig_neg] at h
      exact absurd (by rw [h]; simp) (dig_nat_free m)
  | negSucc m =>
    cases b with
    | ofNat k =>
      change (dig (-((m + 1 : Nat) : Int))).cps.toList = (dig ((k : Nat) : Int)).cps.toList at h
      rw [dig_neg] at h
      exact absurd (by rw [← h]; simp) (dig_nat_free k)
    | negSucc k =>
      change (dig (-((m + 1 : Nat) : Int))).cps.toList = (dig (-((k + 1 : Nat) : Int))).cps.toList at h
      rw [dig_neg, dig_neg] at h
      have := nat _ _ (List.cons.inj h).2
      have : m = k := by omega
      rw [this]
theorem dig_step (m : Nat) (h : 9 < m) : (dig (m : Nat)).cps.toList = (dig ((m / 10 : Nat) : Int)).cps.toList ++ (dig ((m % 10 : Nat) : Int)).cps.toList := by
  rw [dig_nat, dig_nat, dig_nat, ← List.map_append]
  have hm : m % 10 < 10 := Nat.mod_lt m (by decide)
  have t : Nat.toDigits 10 (m / 10) ++ Nat.toDigits 10 (m % 10) = Nat.toDigits 10 (10 * (m / 10) + m % 10) := Nat.toDigits_append_toDigits (by decide) (by omega) hm
  rw [Nat.div_add_mod] at t
  rw [t]
theorem dig_len {n : Int} (h : n.natAbs < 2 ^ 200) : (dig n).length ≤ 201 := PySem.int_text_length_le (k := 200) (by decide) (PySem.Flt.log2_lt_of (by decide) h) |> fun h => by
  have e : (dig n).length = (toString n).length := by
    show (Str.ofString (toString n)).cps.size = _
    rw [← Array.length_toList, PyProof.Rows.signs_ofString, List.length_map]
    rfl
  rw [e]; exact h
/-! ### what stays: all but ws -/
def Kp (ws : List Addr) (m m' : Mu) : Prop := ∀ a o, a ∉ ws → m a = some o → m' a = some o
theorem Kp.refl (ws : List Addr) (m : Mu) : Kp ws m m := fun _ _ _ h => h
theorem Kp.trans {ws : List Addr} {m m1 m2 : Mu} (a : Kp ws m m1) (b : Kp ws m1 m2) : Kp ws m m2 := fun x o h e => b x o h (a x o h e)
theorem Kp.more {ws vs : List Addr} {m m' : Mu} (a : Kp ws m m') (h : ∀ x ∈ ws, x ∈ vs) : Kp vs m m' := fun x o hx e => a x o (fun z => hx (h x z)) e
theorem Only1.kp {w : Addr} {m m' : Mu} (h : Only1 w m m') : Kp [w] m m' := fun a o ha e => by rw [h a (by simpa using ha)]; exact e
theorem kp_new {ws : List Addr} {m : Mu} {q : Addr} {o : MO} (h : m q = none) : Kp ws m (mset m q o) := fun a u _ e => by
  rw [mset_ne (fun z => by rw [z, h] at e; cases e)]; exact e
theorem kp_set {ws : List Addr} {m : Mu} {q : Addr} {o : MO} (h : q ∈ ws) : Kp ws m (mset m q o) := fun a u ha e => by
  rw [mset_ne (fun z => ha (by rw [z]; exact h))]; exact e
/-- drawn from the well w in at most n turns -/
def Dr (w : Addr) (n : Nat) (R : D → Prop) (m : Mu) (P : DK) : Prop := ∃ k, Wl m w k ∧ k + n ≤ 1000000000 ∧ ∀ d m', R d → Kp [w] m m' → Wl m' w (k + n) → P d m'
theorem Wl.keep {m m' : Mu} {w : Addr} {k : Nat} {ws : List Addr} (h : Wl m w k) (kp : Kp ws m m') (hw : w ∉ ws) : Wl m' w k := by
  obtain ⟨a, b, c, e, r⟩ := h.ex
  exact ⟨a, b, c, kp w _ hw e, r⟩
def spDrawK : SpD := fun ds m P _ => ∃ (w : Addr) (many : Int), ds = [.adr w, .int many] ∧ 0 < many ∧ many.natAbs < 2 ^ 200 ∧ Dr w 1 (fun d => ∃ r : Int, 0 ≤ r ∧ r < many ∧ d = .int r) m P
theorem drawK_draw {ds : List D} {m : Mu} {P : DK} {PX : DX} (h : spDrawK ds m P PX) : spDraw ds m P PX := by
  obtain ⟨w, many, rfl, h0, h1, k, wl, hk, h⟩ := h
  exact ⟨w, many, k, rfl, wl, by omega, h0, h1, fun r m' r0 r1 o w1 => h _ m' ⟨r, r0, r1, rfl⟩ o.kp w1⟩
def spWellK : SpD := fun ds m P _ => ∃ c : Int, ds = [.int c] ∧ ∀ w m', m w = none → Kp [] m m' → Wl m' w 0 → P (.adr w) m'
theorem wellK_well {ds : List D} {m : Mu} {P : DK} {PX : DX} (h : spWellK ds m P PX) : spWell ds m P PX := by
  obtain ⟨c, rfl, h⟩ := h
  refine ⟨c, rfl, fun w m' hw o w1 => h w m' hw (fun a q _ e => ?_) w1⟩
  rw [o a (fun z => by rw [z, hw] at e; cases e)]
  exact e
end DL

namespace DL
open PySem L2
local macro_rules | `(tactic| walk_at "dl") => `(tactic| ((conv => whnf); try dsimp only))
/-! ### looks -/
inductive Lk where
  | any | is (n : Int) | frm (n : Int) | upto (n : Int) | inn (a b : Int) | one (ns : List Int) | but (l : Lk)
def Lk.d : Lk → D
  | .any => .tup [.str "any"]
  | .is n => .tup [.str "is", .int n]
  | .frm n => .tup [.str "from", .int n]
  | .upto n => .tup [.str "to", .int n]
  | .inn a b => .tup [.str "in", .int a, .int b]
  | .one ns => .tup [.str "one", .tup (ns.map .int)]
  | .but l => .tup [.str "but", l.d]
def Lk.dep : Lk → Nat
  | .but l => l.dep + 1
  | _ => 1
def Lk.nums : Lk → List Int
  | .any => []
  | .is n => [n]
  | .frm n => [n]
  | .upto n => [n]
  | .inn a b => [a, b]
  | .one ns => ns
  | .but l => l.nums
def Lk.few : Lk → Prop
  | .one ns => ns.length ≤ 4
  | .but l => l.few
  | _ => True
/-- numbers of a fit size -/
def Nm (n : Int) : Prop := n.natAbs < 2 ^ 1900
structure Lk.Ok (l : Lk) : Prop where
  nm : ∀ n ∈ l.nums, Nm n
  few : l.few
  dp : l.dep ≤ 2
theorem Lk.Ok.but {l : Lk} (ok : (Lk.but l).Ok) : l.Ok := ⟨ok.nm, ok.few, Nat.le_trans (Nat.le_succ _) ok.dp⟩
def Lk.text : Lk → Str
  | .any => "*"
  | .is n => dig n
  | .frm n => dig n ++ (".." : Str)
  | .upto n => (".." : Str) ++ dig n
  | .inn a b => dig a ++ (".." : Str) ++ dig b
  | .one ns => ("{" : Str) ++ Txt.join "," (ns.map dig) ++ ("}" : Str)
  | .but l => ("!" : Str) ++ l.text
theorem Nm.log {n : Int} (h : Nm n) : n.natAbs.log2 < 1920 := Nat.lt_of_lt_of_le (PySem.Flt.log2_lt_of (by decide : 0 < 1900) h) (by decide)
theorem Nm.len {n : Int} (h : Nm n) : (dig n).length ≤ 1901 := PySem.int_text_length_le (k := 1900) (by decide) (PySem.Flt.log2_lt_of (by decide) h) |> fun h => by
  have e : (dig n).length = (toString n).length := by
    show (Str.ofString (toString n)).cps.size = _
    rw [← Array.length_toList, PyProof.Rows.signs_ofString, List.length_map]
    rfl
  rw [e]; exact h
def sp_look_text : Nat → SpD
  | 0 => spNo
  | k + 1 => fun ds m P _ => ∃ l : Lk, ds = [l.d] ∧ l.dep ≤ k + 1 ∧ l.Ok ∧ P (.str l.text) m
def rd_look_text (self : SpD) : DS :=
    sSeq (sStar 3 4 (rV 0))
    (sSeq (sIf (rTst (rOp oEq (rV 3) (rC (.str "but")))) (sRet (rOp oAdd (rC (.str "!")) (rCall self [] (rCons (rOp oIx (rV 4) (rC (.int 0))) (rNil))))) (sNext))
    (sSeq (sIf (rTst (rOp oEq (rV 3) (rC (.str "any")))) (sRet (rC (.str "*"))) (sNext))
    (sSeq (sIf (rTst (rOp oEq (rV 3) (rC (.str "one")))) (sRet (rOp oAdd (rOp oAdd (rC (.str "{")) (rJoin (rC (.str ",")) (rLc (iAny (rOp oIx (rV 4) (rC (.int 0)))) [5] (gN 5) (qYes) (rCB cStr (rCons (rV 5) (rNil)))))) (rC (.str "}")))) (sNext))
    (sSeq (sSet 1 (rCB cStr (rCons (rOp oIx (rV 4) (rC (.int 0))) (rNil))))
    (sSeq (sSet 2 (rDctN [(rC (.str "is"), rV 1), (rC (.str "from"), rOp oAdd (rV 1) (rC (.str ".."))), (rC (.str "to"), rOp oAdd (rC (.str "..")) (rV 1)), (rC (.str "in"), rOp oAdd (rOp oAdd (rV 1) (rC (.str ".."))) (rCB cStr (rCons (rOp oIx (rV 4) (rNeg (rC (.int 1)))) (rNil))))]))
    (sRet (rOp oDGet (rV 2) (rV 3))))))))
theorem ln_look_text : ∀ kk ds m Q PX, sp_look_text kk ds m Q PX → ds.length = 1
  | 0, _, _, _, _, h => h.elim
  | _ + 1, _, _, _, _, ⟨_, e, _⟩ => by rw [e]; rfl
theorem val4a (a b c d : D) : valD (mergeD [] [((.inr "is" : Key), a), (.inr "from", b), (.inr "to", c), (.inr "in", d)]) (.inr "is") = some a := by
  simp only [mergeD, List.foldl]
  rw [valD_put, if_neg (by decide), valD_put, if_neg (by decide), valD_put, if_neg (by decide), valD_put, if_pos rfl]
theorem val4b (a b c d : D) : valD (mergeD [] [((.inr "is" : Key), a), (.inr "from", b), (.inr "to", c), (.inr "in", d)]) (.inr "from") = some b := by
  simp only [mergeD, List.foldl]
  rw [valD_put, if_neg (by decide), valD_put, if_neg (by decide), valD_put, if_pos rfl]
theorem val4c (a b c d : D) : valD (mergeD [] [((.inr "is" : Key), a), (.inr "from", b), (.inr "to", c), (.inr "in", d)]) (.inr "to") = some c := by
  simp only [mergeD, List.foldl]
  rw [valD_put, if_neg (by decide), valD_put, if_pos rfl]
theorem val4d (a b c d : D) : valD (mergeD [] [((.inr "is" : Key), a), (.inr "from", b), (.inr "to", c), (.inr "in", d)]) (.inr "in") = some d := by
  simp only [mergeD, List.foldl]
  rw [valD_put, if_pos rfl]
theorem l_dots : Str.length ".." = 2 := by decide
theorem textsD_strs {α : Type} (f : α → Str) (l : List α) : textsD (l.map fun x => D.str (f x)) = some (l.map f) := by
  rw [← textsD_map, List.map_map]; rfl
theorem sum_len {l : List Str} {k : Nat} (h : ∀ x ∈ l, x.length ≤ k) : (l.map (·.length)).sum ≤ l.length * k := by
  induction l with
  | nil => simp
  | cons x l ih =>
    have h1 := h x List.mem_cons_self
    have h2 := ih fun y hy => h y (List.mem_cons_of_mem _ hy)
    simp only [List.map_cons, List.sum_cons, List.length_cons, Nat.add_mul]
    omega
theorem join_len (s : Str) : ∀ l : List Str, (Txt.join s l).length ≤ (l.map (·.length)).sum + l.length * s.length := by
  intro l
  rw [TL.join_eq]
  induction l with
  | nil => exact Nat.zero_le _
  | cons x l ih =>
    cases l with
    | nil => rw [PyProof.Rows.join_one]; simp
    | cons y r =>
      rw [PyProof.Rows.join_cons_cons, PySem.Str.length_append, PySem.Str.length_append]
      simp only [List.map_cons, List.sum_cons, List.length_cons, Nat.add_mul] at ih ⊢
      omega
theorem Lk.dig_sum {ns : List Int} (hn : ∀ n ∈ ns, Nm n) (hl : ns.length ≤ 4) : ((ns.map dig).map (·.length)).sum + (ns.map dig).length * Str.length "," ≤ 8000 := by
  have h1 : ((ns.map dig).map (·.length)).sum ≤ (ns.map dig).length * 1901 := sum_len fun x hx => by
    obtain ⟨n, hn', rfl⟩ := List.mem_map.mp hx
    exact (hn n hn').len
  rw [List.length_map] at h1 ⊢
  have e : Str.length "," = 1 := by decide
  rw [e]
  omega
theorem Lk.text_len : ∀ (l : Lk), l.Ok → l.text.length ≤ 10000 + l.dep
  | .any, _ => by show Str.length "*" ≤ _; have : Str.length "*" = 1 := by decide
                  omega
  | .is n, ok => by have := (ok.nm n (by simp [Lk.nums])).len; show (dig n).length ≤ _; omega
  | .frm n, ok => by have := (ok.nm n (by simp [Lk.nums])).len; show (dig n ++ (".." : Str)).length ≤ _; rw [PySem.Str.length_append, l_dots]; omega
  | .upto n, ok => by have := (ok.nm n (by simp [Lk.nums])).len; show ((".." : Str) ++ dig n).length ≤ _; rw [PySem.Str.length_append, l_dots]; omega
  | .inn a b, ok => by
    have h1 := (ok.nm a (by simp [Lk.nums])).len
    have h2 := (ok.nm b (by simp [Lk.nums])).len
    show (dig a ++ (".." : Str) ++ dig b).length ≤ _; rw [PySem.Str.length_append, PySem.Str.length_append, l_dots]; omega
  | .one ns, ok => by
    have h1 := Lk.dig_sum (ns := ns) (fun n hn => ok.nm n hn) ok.few
    have h2 := join_len "," (ns.map dig)
    have e1 : Str.length "{" = 1 := by decide
    have e2 : Str.length "}" = 1 := by decide
    show (("{" : Str) ++ Txt.join "," (ns.map dig) ++ ("}" : Str)).length ≤ _
    rw [PySem.Str.length_append, PySem.Str.length_append, e1, e2]
    omega
  | .but l, ok => by
    have ih := Lk.text_len l ok.but
    have e1 : Str.length "!" = 1 := by decide
    show (("!" : Str) ++ l.text).length ≤ _
    rw [PySem.Str.length_append, e1]
    show _ ≤ 10000 + (l.dep + 1)
    omega
theorem pu_look_text : ∀ kk ds m Q PX, sp_look_text (kk + 1) ds m Q PX → rd_look_text (sp_look_text kk) (dEnds Q PX) (dstart ["look", "first", "some", "word", "rest", "number"] ds) m := by
  rintro kk ds m Q PX ⟨l, rfl, hd, ok, h⟩
  have l2 := l_dots
  cases l with
  | any =>
    walk_at "dl"
    refine ⟨by decide, ?_⟩
    walk_at "dl"
    exact h
  | is n =>
    have hn : Nm n := ok.nm n (by simp [Lk.nums])
    have hl : (Str.ofString (toString n)).length ≤ 1901 := hn.len
    have hb : Nm n := ok.nm n (by simp [Lk.nums])
    have hlb : (Str.ofString (toString n)).length ≤ 1901 := hb.len
    walk_at "dl"
    refine ⟨by show 1 < _; decide, ?_⟩
    walk_at "dl"
    refine ⟨hn.log, ?_⟩
    walk_at "dl"
    refine ⟨len_line (by omega), ?_⟩
    walk_at "dl"
    refine ⟨len_line (by omega), ?_⟩
    walk_at "dl"
    refine ⟨len_line (by omega), ?_⟩
    walk_at "dl"
    refine ⟨hb.log, ?_⟩
    walk_at "dl"
    refine ⟨len_line (by rw [PySem.Str.length_append]; omega), ?_⟩
    walk_at "dl"
    refine ⟨by show 4 ≤ _; decide, ?_⟩
    walk_at "dl"
    rw [val4a]
    exact h
  | frm n =>
    have hn : Nm n := ok.nm n (by simp [Lk.nums])
    have hl : (Str.ofString (toString n)).length ≤ 1901 := hn.len
    have hb : Nm n := ok.nm n (by simp [Lk.nums])
    have hlb : (Str.ofString (toString n)).length ≤ 1901 := hb.len
    walk_at "dl"
    refine ⟨by show 1 < _; decide, ?_⟩
    walk_at "dl"
    refine ⟨hn.log, ?_⟩
    walk_at "dl"
    refine ⟨len_line (by omega), ?_⟩
    walk_at "dl"
    refine ⟨len_line (by omega), ?_⟩
    walk_at "dl"
    refine ⟨len_line (by omega), ?_⟩
    walk_at "dl"
    refine ⟨hb.log, ?_⟩
    walk_at "dl"
    refine ⟨len_line (by rw [PySem.Str.length_append]; omega), ?_⟩
    walk_at "dl"
    refine ⟨by show 4 ≤ _; decide, ?_⟩
    walk_at "dl"
    rw [val4b]
    exact h
  | upto n =>
    have hn : Nm n := ok.nm n (by simp [Lk.nums])
    have hl : (Str.ofString (toString n)).length ≤ 1901 := hn.len
    have hb : Nm n := ok.nm n (by simp [Lk.nums])
    have hlb : (Str.ofString (toString n)).length ≤ 1901 := hb.len
    walk_at "dl"
    refine ⟨by show 1 < _; decide, ?_⟩
    walk_at "dl"
    refine ⟨hn.log, ?_⟩
    walk_at "dl"
    refine ⟨len_line (by omega), ?_⟩
    walk_at "dl"
    refine ⟨len_line (by omega), ?_⟩
    walk_at "dl"
    refine ⟨len_line (by omega), ?_⟩
    walk_at "dl"
    refine ⟨hb.log, ?_⟩
    walk_at "dl"
    refine ⟨len_line (by rw [PySem.Str.length_append]; omega), ?_⟩
    walk_at "dl"
    refine ⟨by show 4 ≤ _; decide, ?_⟩
    walk_at "dl"
    rw [val4c]
    exact h
  | inn a b =>
    have hn : Nm a := ok.nm a (by simp [Lk.nums])
    have hl : (Str.ofString (toString a)).length ≤ 1901 := hn.len
    have hb : Nm b := ok.nm b (by simp [Lk.nums])
    have hlb : (Str.ofString (toString b)).length ≤ 1901 := hb.len
    walk_at "dl"
    refine ⟨by show 2 < _; decide, ?_⟩
    walk_at "dl"
    refine ⟨hn.log, ?_⟩
    walk_at "dl"
    refine ⟨len_line (by omega), ?_⟩
    walk_at "dl"
    refine ⟨len_line (by omega), ?_⟩
    walk_at "dl"
    refine ⟨len_line (by omega), ?_⟩
    walk_at "dl"
    refine ⟨hb.log, ?_⟩
    walk_at "dl"
    refine ⟨len_line (by rw [PySem.Str.length_append]; omega), ?_⟩
    walk_at "dl"
    refine ⟨by show 4 ≤ _; decide, ?_⟩
    walk_at "dl"
    rw [val4d]
    exact h
  | one ns =>
    walk_at "dl"
    refine ⟨by show 1 < _; decide, ?_⟩
    walk_at "dl"
    refine comp_map (fun d => match d with | .int n => .str (dig n) | d => d) (by rw [List.length_map]; exact Nat.le_trans ok.few (by decide)) trivial (fun d hd Q q => ?_) ?_
    · obtain ⟨n, hn, rfl⟩ := List.mem_map.mp hd
      walk_at "dl"
      exact ⟨(ok.nm n hn).log, q⟩
    · rw [List.map_map]
      walk_at "dl"
      show (match textsD (ns.map fun n => D.str (dig n)) with | some ys => _ | none => False)
      rw [textsD_strs]
      walk_at "dl"
      have hs := Lk.dig_sum (ns := ns) (fun n hn => ok.nm n hn) ok.few
      have hj := join_len "," (ns.map dig)
      have e1 : Str.length "{" = 1 := by decide
      have e2 : Str.length "}" = 1 := by decide
      refine ⟨Nat.le_trans hs (by decide), ?_⟩
      walk_at "dl"
      refine ⟨len_line (by omega), ?_⟩
      walk_at "dl"
      refine ⟨len_line (by rw [PySem.Str.length_append]; omega), ?_⟩
      exact h
  | but l =>
    walk_at "dl"
    refine ⟨by show 1 < _; decide, ?_⟩
    walk_at "dl"
    have hdp : l.dep ≤ kk := by have : l.dep + 1 ≤ kk + 1 := hd; omega
    cases kk with
    | zero => cases l <;> simp [Lk.dep] at hdp
    | succ k =>
      have okl : l.Ok := ok.but
      have hdp2 := okl.dp
      refine ⟨l, rfl, hdp, okl, ?_⟩
      walk_at "dl"
      have hl := l.text_len okl
      have e1 : Str.length "!" = 1 := by decide
      exact ⟨len_line (by omega), h⟩
/-! ### two looks written alike are alike -/
theorem tl_of (x : Str) : TL.tl x = x.cps.toList := rfl
theorem dots_tl : (Str.ofString "..").cps.toList = [46, 46] := by decide
theorem Lk.text_any : Lk.any.text.cps.toList = [42] := by decide
theorem Lk.text_is (n : Int) : (Lk.is n).text.cps.toList = (dig n).cps.toList := rfl
theorem Lk.text_frm (n : Int) : (Lk.frm n).text.cps.toList = (dig n).cps.toList ++ 46 :: [46] := by
  show (dig n ++ (".." : Str)).cps.toList = _
  rw [cps_app, dots_tl]
theorem Lk.text_upto (n : Int) : (Lk.upto n).text.cps.toList = [] ++ 46 :: 46 :: (dig n).cps.toList := by
  show ((".." : Str) ++ dig n).cps.toList = _
  rw [cps_app, dots_tl]; rfl
theorem Lk.text_inn (a b : Int) : (Lk.inn a b).text.cps.toList = (dig a).cps.toList ++ 46 :: 46 :: (dig b).cps.toList := by
  show (dig a ++ (".." : Str) ++ dig b).cps.toList = _
  rw [cps_app, cps_app, dots_tl]; simp
theorem Lk.text_one (ns : List Int) : (Lk.one ns).text.cps.toList = 123 :: ((Txt.join "," (ns.map dig)).cps.toList ++ [125]) := by
  show (("{" : Str) ++ Txt.join "," (ns.map dig) ++ ("}" : Str)).cps.toList = _
  have e1 : (Str.ofString "{").cps.toList = [123] := by decide
  have e2 : (Str.ofString "}").cps.toList = [125] := by decide
  rw [cps_app, cps_app, e1, e2]; simp
theorem Lk.text_but (l : Lk) : (Lk.but l).text.cps.toList = 33 :: l.text.cps.toList := by
  show (("!" : Str) ++ l.text).cps.toList = _
  have e1 : (Str.ofString "!").cps.toList = [33] := by decide
  rw [cps_app, e1]; rfl
theorem dig_head {k : Nat} {r : List Nat} {n : Int} (h : (dig n).cps.toList = k :: r) (hk : k ≠ 45 ∧ (k < 48 ∨ 57 < k) := by decide) : False := dig_free (k := k) n hk (by rw [h]; simp)
theorem dig_headA {k : Nat} {r s : List Nat} {n : Int} (h : (dig n).cps.toList ++ s = k :: r) (hk : k ≠ 45 ∧ (k < 48 ∨ 57 < k) := by decide) : False := by
  cases e : (dig n).cps.toList with
  | nil => exact dig_ne n e
  | cons a t =>
    rw [e] at h
    have : a = k := (List.cons.inj h).1
    rw [this] at e
    exact dig_head e hk
theorem join_free {c : Nat} (hc : c ≠ 44 := by decide) : ∀ ns : List Int, (c ≠ 45 ∧ (c < 48 ∨ 57 < c)) → c ∉ (Txt.join "," (ns.map dig)).cps.toList := by
  intro ns hk
  rw [TL.join_eq]
  induction ns with
  | nil => exact fun h => by simp [PyProof.Rows.join_nil, Str.empty] at h
  | cons n ns ih =>
    cases ns with
    | nil => rw [List.map_cons, List.map_nil, PyProof.Rows.join_one]; exact dig_free n hk
    | cons k r =>
      rw [List.map_cons, List.map_cons, PyProof.Rows.join_cons_cons, cps_app, cps_app]
      have e1 : (Str.ofString ",").cps.toList = [44] := by decide
      rw [e1]
      intro h
      rcases List.mem_append.mp h with h | h
      · rcases List.mem_append.mp h with h | h
        · exact dig_free n hk h
        · exact hc (List.mem_singleton.mp h)
      · exact ih h
theorem join_inj : ∀ {ns ks : List Int}, (Txt.join "," (ns.map dig)).cps.toList = (Txt.join "," (ks.map dig)).cps.toList → ns = ks := by
  intro ns ks
  rw [TL.join_eq, TL.join_eq]
  have e1 : (Str.ofString ",").cps.toList = [44] := by decide
  induction ns generalizing ks with
  | nil =>
    intro h
    cases ks with
    | nil => rfl
    | cons k ks =>
      cases ks with
      | nil => exact absurd h.symm (dig_ne k)
      | cons j r =>
        rw [List.map_cons, List.map_cons, PyProof.Rows.join_cons_cons, cps_app, cps_app, e1] at h
        exact absurd h (by simp [PyProof.Rows.join_nil, Str.empty])
  | cons n ns ih =>
    intro h
    cases ks with
    | nil =>
      cases ns with
      | nil => exact absurd h (dig_ne n)
      | cons j r =>
        rw [List.map_cons, List.map_cons, PyProof.Rows.join_cons_cons, cps_app, cps_app, e1] at h
        exact absurd h (by simp [PyProof.Rows.join_nil, Str.empty])
    | cons k ks =>
      cases ns with
      | nil =>
        cases ks with
        | nil =>
          rw [dig_inj (a := n) (b := k) h]
        | cons j r =>
          have h2 : (Str.join "," (([k, j] ++ r).map dig)).cps.toList = (dig k).cps.toList ++ 44 :: (Str.join "," ((j :: r).map dig)).cps.toList := by
            simp only [List.cons_append, List.nil_append]
            rw [List.map_cons, List.map_cons, PyProof.Rows.join_cons_cons, cps_app, cps_app, e1]; simp
          exact absurd (h.trans h2) (sep_no (dig_free n))
      | cons i q =>
        have h1 : (Str.join "," (([n, i] ++ q).map dig)).cps.toList = (dig n).cps.toList ++ 44 :: (Str.join "," ((i :: q).map dig)).cps.toList := by
          simp only [List.cons_append, List.nil_append]
          rw [List.map_cons, List.map_cons, PyProof.Rows.join_cons_cons, cps_app, cps_app, e1]; simp
        cases ks with
        | nil => exact absurd (h1.symm.trans h).symm (sep_no (dig_free k))
        | cons j r =>
          have h2 : (Str.join "," (([k, j] ++ r).map dig)).cps.toList = (dig k).cps.toList ++ 44 :: (Str.join "," ((j :: r).map dig)).cps.toList := by
            simp only [List.cons_append, List.nil_append]
            rw [List.map_cons, List.map_cons, PyProof.Rows.join_cons_cons, cps_app, cps_app, e1]; simp
          obtain ⟨a, b⟩ := sep_inj (dig_free n) (dig_free k) (h1.symm.trans (h.trans h2))
          rw [dig_inj a, ih b]
theorem Lk.text_inj : ∀ (l k : Lk), l.text.cps.toList = k.text.cps.toList → l = k := by
  have nod : ∀ n : Int, (46 : Nat) ∉ (dig n).cps.toList := fun n => dig_free n
  have nil : ∀ n : Int, (46 : Nat) ∉ ([] : List Nat) := fun n => by simp
  intro l
  induction l with
  | any =>
    intro k h
    cases k with
    | any => rfl
    | is n => rw [text_any, text_is] at h; exact (dig_head h.symm).elim
    | frm n => rw [text_any, text_frm] at h; exact (dig_headA h.symm).elim
    | upto n => rw [text_any, text_upto] at h; simp at h
    | inn a b => rw [text_any, text_inn] at h; exact (dig_headA h.symm).elim
    | one ns => rw [text_any, text_one] at h; simp at h
    | but l => rw [text_any, text_but] at h; simp at h
  | is n =>
    intro k h
    cases k with
    | any => rw [text_any, text_is] at h; exact (dig_head h).elim
    | is k => rw [dig_inj (a := n) (b := k) h]
    | frm k => rw [text_is, text_frm] at h; exact absurd h (sep_no (nod n))
    | upto k => rw [text_is, text_upto] at h; exact absurd h (sep_no (nod n))
    | inn a b => rw [text_is, text_inn] at h; exact absurd h (sep_no (nod n))
    | one ns => rw [text_is, text_one] at h; exact (dig_head h).elim
    | but l => rw [text_is, text_but] at h; exact (dig_head h).elim
  | frm n =>
    intro k h
    cases k with
    | any => rw [text_any, text_frm] at h; exact (dig_headA h).elim
    | is k => rw [text_is, text_frm] at h; exact absurd h.symm (sep_no (nod k))
    | frm k => rw [text_frm, text_frm] at h; rw [dig_inj (sep_inj (nod n) (nod k) h).1]
    | upto k => rw [text_frm, text_upto] at h; exact absurd (sep_inj (nod n) (nil 0) h).1 (dig_ne n)
    | inn a b =>
      rw [text_frm, text_inn] at h
      have := (sep_inj (nod n) (nod a) h).2
      exact absurd (List.cons.inj this).2.symm (dig_ne b)
    | one ns => rw [text_frm, text_one] at h; exact (dig_headA h).elim
    | but l => rw [text_frm, text_but] at h; exact (dig_headA h).elim
  | upto n =>
    intro k h
    cases k with
    | any => rw [text_any, text_upto] at h; simp at h
    | is k => rw [text_is, text_upto] at h; exact absurd h.symm (sep_no (nod k))
    | frm k => rw [text_frm, text_upto] at h; exact absurd (sep_inj (nil 0) (nod k) h).1.symm (dig_ne k)
    | upto k =>
      rw [text_upto, text_upto] at h
      have := (sep_inj (nil 0) (nil 0) h).2
      rw [dig_inj (List.cons.inj this).2]
    | inn a b => rw [text_upto, text_inn] at h; exact absurd (sep_inj (nil 0) (nod a) h).1.symm (dig_ne a)
    | one ns => rw [text_upto, text_one] at h; simp at h
    | but l => rw [text_upto, text_but] at h; simp at h
  | inn a b =>
    intro k h
    cases k with
    | any => rw [text_any, text_inn] at h; exact (dig_headA h).elim
    | is k => rw [text_is, text_inn] at h; exact absurd h.symm (sep_no (nod k))
    | frm k =>
      rw [text_frm, text_inn] at h
      have := (sep_inj (nod a) (nod k) h).2
      exact absurd (List.cons.inj this).2 (dig_ne b)
    | upto k => rw [text_upto, text_inn] at h; exact absurd (sep_inj (nod a) (nil 0) h).1 (dig_ne a)
    | inn c d =>
      rw [text_inn, text_inn] at h
      obtain ⟨e1, e2⟩ := sep_inj (nod a) (nod c) h
      rw [dig_inj e1, dig_inj (List.cons.inj e2).2]
    | one ns => rw [text_inn, text_one] at h; exact (dig_headA h).elim
    | but l => rw [text_inn, text_but] at h; exact (dig_headA h).elim
  | one ns =>
    intro k h
    cases k with
    | any => rw [text_any, text_one] at h; simp at h
    | is k => rw [text_is, text_one] at h; exact (dig_head h.symm).elim
    | frm k => rw [text_frm, text_one] at h; exact (dig_headA h.symm).elim
    | upto k => rw [text_upto, text_one] at h; simp at h
    | inn a b => rw [text_inn, text_one] at h; exact (dig_headA h.symm).elim
    | one ks =>
      rw [text_one, text_one] at h
      have := (List.cons.inj h).2
      rw [join_inj (List.append_cancel_right this)]
    | but l => rw [text_one, text_but] at h; simp at h
  | but l ih =>
    intro k h
    cases k with
    | any => rw [text_any, text_but] at h; simp at h
    | is k => rw [text_is, text_but] at h; exact (dig_head h.symm).elim
    | frm k => rw [text_frm, text_but] at h; exact (dig_headA h.symm).elim
    | upto k => rw [text_upto, text_but] at h; simp at h
    | inn a b => rw [text_inn, text_but] at h; exact (dig_headA h.symm).elim
    | one ks => rw [text_one, text_but] at h; simp at h
    | but k =>
      rw [text_but, text_but] at h
      rw [ih k (List.cons.inj h).2]
/-! ### looks as data -/
theorem pur_ints (ns : List Int) : purL (ns.map .int) = true := purL_all fun d hd => by obtain ⟨n, _, rfl⟩ := List.mem_map.mp hd; rw [pur]
theorem Lk.pur : ∀ l : Lk, DL.pur l.d = true
  | .any => by simp [Lk.d, DL.pur, purL]
  | .is n => by simp [Lk.d, DL.pur, purL]
  | .frm n => by simp [Lk.d, DL.pur, purL]
  | .upto n => by simp [Lk.d, DL.pur, purL]
  | .inn a b => by simp [Lk.d, DL.pur, purL]
  | .one ns => by simp [Lk.d, DL.pur, purL, pur_ints]
  | .but l => by simp [Lk.d, DL.pur, purL, Lk.pur l]
theorem fit_txt (s : String) (n : Nat) : fitD n (.str (Str.ofString s)) := by
  have h : ∀ c ∈ (Str.ofString s).cps.toList, c < 1114112 := fun c hc => by
    rw [PyProof.Rows.signs_ofString] at hc
    obtain ⟨ch, _, rfl⟩ := List.mem_map.mp hc
    have := ch.valid
    simp only [UInt32.isValidChar, Nat.isValidChar] at this
    show ch.val.toNat < 1114112
    omega
  cases n <;> exact h
theorem fit_ints {ns : List Int} (n : Nat) : fitD (n + 1) (.tup (ns.map .int)) := fun d hd => by obtain ⟨k, _, rfl⟩ := List.mem_map.mp hd; cases n <;> trivial
theorem fit_two {n : Nat} {a b : D} (h1 : fitD n a) (h2 : fitD n b) : fitD (n + 1) (.tup [a, b]) := fun d hd => by
  simp only [List.mem_cons, List.not_mem_nil, or_false] at hd
  rcases hd with rfl | rfl
  · exact h1
  · exact h2
theorem fit_int {n : Nat} {i : Int} : fitD n (.int i) := by cases n <;> trivial
theorem Lk.fit : ∀ (l : Lk) (n : Nat), l.dep + 1 ≤ n → fitD n l.d
  | .any, n + 1, _ => fun d hd => by rw [List.mem_singleton.mp hd]; exact fit_txt _ _
  | .is k, n + 1, _ => fit_two (fit_txt _ _) fit_int
  | .frm k, n + 1, _ => fit_two (fit_txt _ _) fit_int
  | .upto k, n + 1, _ => fit_two (fit_txt _ _) fit_int
  | .inn a b, n + 1, _ => fun d hd => by
    simp only [List.mem_cons, List.not_mem_nil, or_false] at hd
    rcases hd with rfl | rfl | rfl
    · exact fit_txt _ _
    · exact fit_int
    · exact fit_int
  | .one ns, n + 2, _ => fit_two (fit_txt _ _) (fit_ints n)
  | .one ns, 1, h => by simp [Lk.dep] at h
  | .but l, n + 1, h => fit_two (fit_txt _ _) (l.fit n (by have : l.dep + 1 + 1 ≤ n + 1 := h; omega))
theorem map_ints_inj : ∀ {ns ks : List Int}, ns.map D.int = ks.map D.int → ns = ks
  | [], [], _ => rfl
  | [], _ :: _, h => by simp at h
  | _ :: _, [], h => by simp at h
  | n :: ns, k :: ks, h => by
    simp only [List.map_cons, List.cons.injEq, D.int.injEq] at h
    rw [h.1, map_ints_inj h.2]
theorem Lk.d_inj : ∀ {l k : Lk}, l.d = k.d → l = k := by
  intro l
  induction l with
  | but l ih =>
    intro k h
    cases k with
    | but k =>
      simp only [Lk.d, D.tup.injEq, List.cons.injEq] at h
      rw [ih h.2.1]
    | _ => simp only [Lk.d, D.tup.injEq, List.cons.injEq, D.str.injEq] at h; exact absurd h.1 (by decide)
  | one ns =>
    intro k h
    cases k with
    | one ks =>
      simp only [Lk.d, D.tup.injEq, List.cons.injEq] at h
      have : ns = ks := map_ints_inj h.2.1
      rw [this]
    | _ => simp only [Lk.d, D.tup.injEq, List.cons.injEq, D.str.injEq] at h; exact absurd h.1 (by decide)
  | _ =>
    intro k h
    cases k <;> first | (simp only [Lk.d, D.tup.injEq, List.cons.injEq, D.str.injEq, D.int.injEq] at h; first | (simp [h]; done) | exact absurd h.1 (by decide))
end DL

namespace DL
open PySem L2
local macro_rules | `(tactic| walk_at "dl") => `(tactic| ((conv => whnf); try dsimp only))
abbrev sp__law_cell_at : SpD := spCellAt
abbrev rd__law_cell_at : DS := rdCellAt
theorem ln__law_cell_at : ∀ ds m Q PX, sp__law_cell_at ds m Q PX → ds.length = 2 := by rintro ds m Q PX ⟨d, k, rfl, _⟩; rfl
theorem pu__law_cell_at : ∀ ds m Q PX, sp__law_cell_at ds m Q PX → rd__law_cell_at (dEnds Q PX) (dstart ["_law_script", "_law_k"] ds) m := cellAt_pure _ _
abbrev sp__law_well : SpD := spWellK
abbrev rd__law_well : DS := rdWell
theorem ln__law_well : ∀ ds m Q PX, sp__law_well ds m Q PX → ds.length = 1 := by rintro ds m Q PX ⟨d, rfl, _⟩; rfl
theorem pu__law_well : ∀ ds m Q PX, sp__law_well ds m Q PX → rd__law_well (dEnds Q PX) (dstart ["_law_cell"] ds) m := fun ds m Q PX h => well_pure _ ds m Q PX (wellK_well h)
abbrev sp__law_draw : SpD := spDrawK
abbrev rd__law_draw : DS := rdDraw
theorem ln__law_draw : ∀ ds m Q PX, sp__law_draw ds m Q PX → ds.length = 2 := by rintro ds m Q PX ⟨d, k, rfl, _⟩; rfl
theorem pu__law_draw : ∀ ds m Q PX, sp__law_draw ds m Q PX → rd__law_draw (dEnds Q PX) (dstart ["_law_well_here", "_law_many", "_law_number", "_law_digit"] ds) m := fun ds m Q PX h => draw_pure _ _ _ _ ds m Q PX (drawK_draw h)
/-- one draw of a number below many, at its place in a reading -/
theorem Dr.num {w : Addr} {n : Nat} {m : Mu} {P P2 : DK} {many : Int} {R : D → Prop} (h : Dr w n R m P) (hn : 1 ≤ n) (h0 : 0 < many) (h1 : many.natAbs < 2 ^ 200)
    (h2 : ∀ (r : Int) m', 0 ≤ r → r < many → Kp [w] m m' → Dr w (n - 1) R m' P → P2 (.int r) m') : spDrawK [.adr w, .int many] m P2 fun _ _ _ => False := by
  obtain ⟨k, wl, hk, h⟩ := h
  refine ⟨w, many, rfl, h0, h1, k, wl, by omega, fun d m' hr kp wl' => ?_⟩
  obtain ⟨r, r0, r1, rfl⟩ := hr
  exact h2 r m' r0 r1 kp ⟨k + 1, wl', by omega, fun d2 m2 hd kp2 w2 => h d2 m2 hd (kp.trans kp2) (by rw [show k + 1 + (n - 1) = k + n by omega] at w2; exact w2)⟩
theorem Dr.sub {w : Addr} {n j : Nat} {m : Mu} {P P2 : DK} {R R2 : D → Prop} (h : Dr w n R m P) (hn : j ≤ n) (h2 : ∀ d m', R2 d → Kp [w] m m' → Dr w (n - j) R m' P → P2 d m') : Dr w j R2 m P2 := by
  obtain ⟨k, wl, hk, h⟩ := h
  refine ⟨k, wl, by omega, fun d m' hr kp wl' => h2 d m' hr kp ⟨k + j, wl', by omega, fun d2 m2 hd kp2 w2 => h d2 m2 hd (kp.trans kp2) (by rw [show k + j + (n - j) = k + n by omega] at w2; exact w2)⟩⟩
theorem Dr.done {w : Addr} {n : Nat} {m : Mu} {P : DK} {R : D → Prop} {d : D} (h : Dr w n R m P) (hd : R d) : P d m := by
  obtain ⟨k, wl, hk, h⟩ := h
  exact h d m hd (Kp.refl _ _) (wl.mono (by omega))
theorem Dr.imp {w : Addr} {n : Nat} {m : Mu} {P P2 : DK} {R R2 : D → Prop} (h : Dr w n R m P) (h1 : ∀ d, R2 d → R d) (h2 : ∀ d m', Kp [w] m m' → R2 d → P d m' → P2 d m') : Dr w n R2 m P2 := by
  obtain ⟨k, wl, hk, h⟩ := h
  exact ⟨k, wl, hk, fun d m' hd kp w' => h2 d m' kp hd (h d m' (h1 d hd) kp w')⟩
/-- something else of ours is new -/
theorem Dr.new {w : Addr} {n : Nat} {m m1 : Mu} {P : DK} {R : D → Prop} (h : Dr w n R m P) (kp : Kp [] m m1) : Dr w n R m1 P := by
  obtain ⟨k, wl, hk, h⟩ := h
  exact ⟨k, wl.keep kp (by simp), hk, fun d m' hd kp2 w' => h d m' hd ((kp.more (by simp)).trans kp2) w'⟩
/-- items that can be told by their place -/
def sqD : D → Option (List D)
  | .lst xs => some xs
  | .tup xs => some xs
  | _ => none
/-- .. of ours, too -/
def Sq (m : Mu) (w : Addr) (X : D) (xs : List D) : Prop := sqD X = some xs ∨ ∃ q, X = .adr q ∧ q ≠ w ∧ m q = some (.lst xs)
def sp__law_one : SpD := fun ds m P _ => ∃ (w : Addr) (X : D) (xs : List D), ds = [.adr w, X] ∧ Sq m w X xs ∧ 0 < xs.length ∧ xs.length ≤ 1000000 ∧ Dr w 1 (fun d => d ∈ xs) m P
def rd__law_one : DS :=
    sRet (rOp oIx (rV 1) (rCall sp__law_draw [] (rCons (rV 0) (rCons (rCB cLen (rCons (rV 1) (rNil))) (rNil)))))
theorem ln__law_one : ∀ ds m Q PX, sp__law_one ds m Q PX → ds.length = 2 := by rintro ds m Q PX ⟨d, k, _, rfl, _⟩; rfl
theorem pu__law_one : ∀ ds m Q PX, sp__law_one ds m Q PX → rd__law_one (dEnds Q PX) (dstart ["_law_well_here", "_law_some"] ds) m := by
  rintro ds m Q PX ⟨w, X, xs, rfl, hX, h0, h1, h⟩
  have pw : (2 : Nat) ^ 200 > 1000000 := by decide
  have fin : spDrawK [.adr w, .int (xs.length : Nat)] m (fun y m2 => oIx X y m2 Q) PX := by
    obtain ⟨k, wl, hk, h⟩ := h
    refine ⟨w, _, rfl, by omega, by omega, k, wl, hk, fun d m' hd kp w' => ?_⟩
    obtain ⟨r, r0, r1, rfl⟩ := hd
    obtain ⟨x, e1, e2⟩ := atI_some r0 r1
    have hq := h x m' (List.mem_of_getElem? e2) kp w'
    rcases hX with hX | ⟨q, rfl, hw, hX⟩
    · cases X with
      | lst ys => cases hX; show (match atI xs r with | some d => Q d m' | none => False); rw [e1]; exact hq
      | tup ys => cases hX; show (match atI xs r with | some d => Q d m' | none => False); rw [e1]; exact hq
      | _ => cases hX
    · show (match asL m' (.adr q) with | some ds => _ | none => False)
      rw [asL_adr (kp q _ (by simpa using hw) hX)]
      show (match atI xs r with | some d => Q d m' | none => False)
      rw [e1]; exact hq
  rcases hX with hX | ⟨q, rfl, hw, hX⟩
  · cases X with
    | lst ys => cases hX; exact fin
    | tup ys => cases hX; exact fin
    | _ => cases hX
  · walk_at "dl"
    rw [asL_adr hX]
    exact fin
/-- whole numbers below 2 ^ b -/
def Bd (b : Nat) (n : Int) : Prop := n.natAbs < 2 ^ b
theorem Bd.nm {b : Nat} {n : Int} (h : Bd b n) (hb : b ≤ 1900 := by decide) : Nm n := Nat.lt_of_lt_of_le h (Nat.pow_le_pow_right (by decide) hb)
theorem Bd.mono {b c : Nat} {n : Int} (h : Bd b n) (hb : b ≤ c := by omega) : Bd c n := Nat.lt_of_lt_of_le h (Nat.pow_le_pow_right (by decide) hb)
theorem Bd.add {b : Nat} {n k : Int} (h : Bd b n) (hk : Bd b k) : Bd (b + 1) (n + k) := by
  unfold Bd at *
  rw [Nat.pow_succ]
  omega
def isInts (b : Nat) (k : Nat) (d : D) : Prop := ∃ ns : List Int, d = .lst (ns.map .int) ∧ ns.length = k ∧ ∀ n ∈ ns, Bd b n
def sp__law_mids : SpD := fun ds m P _ => ∃ w : Addr, ds = [.adr w] ∧ Dr w 10 (isInts 140 3) m P
def rd__law_mids : DS :=
    sSeq (sSet 1 (rOp oIx (rLst (rCons (rOp oSub (rCall sp__law_draw [] (rCons (rV 0) (rCons (rC (.int 9)) (rNil)))) (rC (.int 4))) (rCons (rOp oSub (rCall sp__law_draw [] (rCons (rV 0) (rCons (rOp oMul (rC (.int 2)) (rOp oPow (rC (.int 10)) (rC (.int 40)))) (rNil)))) (rOp oPow (rC (.int 10)) (rC (.int 40)))) (rNil)))) (rCall sp__law_draw [] (rCons (rV 0) (rCons (rC (.int 2)) (rNil))))))
    (sRet (rLc (iRange (rCons (rC (.int 3)) (rNil))) [2] (gN 2) (qYes) (rOp oAdd (rV 1) (rCall sp__law_draw [] (rCons (rV 0) (rCons (rC (.int 6)) (rNil)))))))
theorem ln__law_mids : ∀ ds m Q PX, sp__law_mids ds m Q PX → ds.length = 1 := by rintro ds m Q PX ⟨d, rfl, _⟩; rfl
theorem pu__law_mids : ∀ ds m Q PX, sp__law_mids ds m Q PX → rd__law_mids (dEnds Q PX) (dstart ["_law_well_here", "_law_base", "_law_k"] ds) m := by
  rintro ds m Q PX ⟨w, rfl, k, wl, hk, h⟩
  have big : (10 : Int) ^ Int.toNat 40 = 10000000000000000000000000000000000000000 := by decide
  have pw : (2 : Nat) ^ 139 > 100000000000000000000000000000000000000000 := by decide
  walk_at "dl"
  refine ⟨w, 9, rfl, by decide, by decide, k, wl, by omega, fun d m1 hd kp1 w1 => ?_⟩
  obtain ⟨r, r0, r1, rfl⟩ := hd
  walk_at "dl"
  refine ⟨⟨by decide, by decide, by decide⟩, ?_⟩
  walk_at "dl"
  refine ⟨.inl ⟨by decide, by decide⟩, ?_⟩
  walk_at "dl"
  refine ⟨w, 2 * 10 ^ Int.toNat 40, rfl, by decide, by decide, _, w1, by omega, fun d m2 hd kp2 w2 => ?_⟩
  obtain ⟨s, s0, s1, rfl⟩ := hd
  rw [big] at s1
  walk_at "dl"
  refine ⟨⟨by decide, by decide, by decide⟩, ?_⟩
  walk_at "dl"
  refine ⟨len_line (by show 2 ≤ _; decide), ?_⟩
  walk_at "dl"
  refine ⟨w, 2, rfl, by decide, by decide, _, w2, by omega, fun d m3 hd kp3 w3 => ?_⟩
  obtain ⟨u, u0, u1, rfl⟩ := hd
  have fin : ∀ z : Int, Bd 139 z → sRet (rLc (iRange (rCons (rC (.int 3)) (rNil))) [2] (gN 2) (qYes) (rOp oAdd (rV 1) (rCall sp__law_draw [] (rCons (rV 0) (rCons (rC (.int 6)) (rNil)))))) (dEnds Q PX) [some (.adr w), some (.int z), none] m3 := by
    intro z hz
    walk_at "dl"
    refine ⟨⟨by decide, by decide⟩, ?_⟩
    refine comp_inv (fun i acc m' => Kp [w] m3 m' ∧ Wl m' w (k + 1 + 1 + 1 + i) ∧ ∃ ns : List Int, acc = ns.map .int ∧ ns.length = i ∧ ∀ n ∈ ns, Bd 140 n) (fun i acc m' hh => ?_) (by show 3 ≤ _; decide) (fun i d acc m' e hh => ?_) (fun acc m' hh => ?_) ⟨Kp.refl _ _, w3, [], rfl, rfl, fun _ z => by cases z⟩
    · obtain ⟨_, _, ns, rfl, hl, _⟩ := hh
      rw [List.length_map, hl]; exact Nat.le_refl _
    · obtain ⟨kp4, w4, ns, rfl, hl, hb⟩ := hh
      have hi : i < 3 := (List.getElem?_eq_some_iff.mp e).1
      refine ⟨trivial, fun Kt Kf k1 _ => ?_⟩
      walk_at "dl"
      refine ⟨w, 6, rfl, by decide, by decide, _, w4, by omega, fun d m5 hd kp5 w5 => ?_⟩
      obtain ⟨v, v0, v1, rfl⟩ := hd
      refine k1 _ _ ⟨kp4.trans kp5, w5, ns ++ [z + v], by simp, by simp [hl], fun n hn => ?_⟩
      rcases List.mem_append.mp hn with hn | hn
      · exact hb n hn
      · rw [List.mem_singleton.mp hn]
        exact Bd.add hz (by unfold Bd; omega)
    · obtain ⟨kp4, w4, ns, rfl, hl, hb⟩ := hh
      have hl3 : ns.length = 3 := hl
      have w5 : Wl m' w (k + 1 + 1 + 1 + 3) := w4
      exact ⟨trivial, h _ _ ⟨ns, rfl, hl3, hb⟩ (((kp1.trans kp2).trans kp3).trans kp4) (w5.mono (by omega))⟩
  have hu : u = 0 ∨ u = 1 := by omega
  rcases hu with rfl | rfl
  · exact fin _ (by unfold Bd; omega)
  · refine fin _ ?_
    rw [big]
    unfold Bd; omega
def sp__law_near : SpD := fun ds m P _ => ∃ (w : Addr) (ns : List Int) (b : Nat), ds = [.adr w, .lst (ns.map .int)] ∧ 3 ≤ b ∧ 0 < ns.length ∧ ns.length ≤ 1000000 ∧ (∀ n ∈ ns, Bd b n) ∧ Dr w 2 (fun d => ∃ n : Int, Bd (b + 1) n ∧ d = .int n) m P
def rd__law_near : DS :=
    sRet (rOp oSub (rOp oAdd (rCall sp__law_one [] (rCons (rV 0) (rCons (rV 1) (rNil)))) (rCall sp__law_draw [] (rCons (rV 0) (rCons (rC (.int 3)) (rNil))))) (rC (.int 1)))
theorem ln__law_near : ∀ ds m Q PX, sp__law_near ds m Q PX → ds.length = 2 := by rintro ds m Q PX ⟨d, _, _, rfl, _⟩; rfl
theorem pu__law_near : ∀ ds m Q PX, sp__law_near ds m Q PX → rd__law_near (dEnds Q PX) (dstart ["_law_well_here", "_law_mids_here"] ds) m := by
  rintro ds m Q PX ⟨w, ns, b, rfl, hb3, h0, h1, hb, k, wl, hk, h⟩
  have p3 : (2 : Nat) ^ 3 ≤ 2 ^ b := Nat.pow_le_pow_right (by decide) hb3
  walk_at "dl"
  refine ⟨w, _, _, rfl, .inl rfl, by rw [List.length_map]; exact h0, by rw [List.length_map]; exact h1, k, wl, by omega, fun d m1 hd kp1 w1 => ?_⟩
  obtain ⟨n, hn, rfl⟩ := List.mem_map.mp hd
  walk_at "dl"
  refine ⟨w, 3, rfl, by decide, by decide, _, w1, by omega, fun d m2 hd kp2 w2 => ?_⟩
  obtain ⟨r, r0, r1, rfl⟩ := hd
  exact h _ _ ⟨n + r - 1, by have := hb n hn; unfold Bd at *; rw [Nat.pow_succ]; omega, rfl⟩ (kp1.trans kp2) w2
/-! ### each once -/
def unl (xs : List D) : List D := xs.foldl (fun acc x => if (acc.any fun z => deq z x) = true then acc else acc ++ [x]) []
theorem unl_snoc (xs : List D) (x : D) : unl (xs ++ [x]) = if ((unl xs).any fun z => deq z x) = true then unl xs else unl xs ++ [x] := by
  unfold unl; rw [List.foldl_append]; rfl
theorem snoc_ind {α : Type} {p : List α → Prop} (h0 : p []) (h1 : ∀ xs x, p xs → p (xs ++ [x])) (xs : List α) : p xs := by
  have : ∀ n (xs : List α), xs.length = n → p xs := by
    intro n
    induction n with
    | zero => intro xs e; rw [List.eq_nil_of_length_eq_zero e]; exact h0
    | succ n ih =>
      intro xs e
      have hne : xs ≠ [] := fun z => by rw [z] at e; cases e
      rw [← List.dropLast_concat_getLast hne]
      exact h1 _ _ (ih _ (by rw [List.length_dropLast, e]; rfl))
  exact this _ xs rfl
theorem any_deq {xs : List D} {x : D} (hx : pur x = true) (h : ∀ d ∈ xs, pur d = true) : (xs.any fun z => deq z x) = true ↔ x ∈ xs := by
  rw [List.any_eq_true]
  constructor
  · rintro ⟨z, hz, e⟩
    rw [← (deq_iff (h z hz) hx).mp e]; exact hz
  · intro hm
    exact ⟨x, hm, (deq_iff hx hx).mpr rfl⟩
theorem unl_facts : ∀ xs : List D, (∀ d ∈ xs, pur d = true) → (∀ d, d ∈ unl xs ↔ d ∈ xs) ∧ (unl xs).Nodup ∧ (unl xs).length ≤ xs.length := by
  intro xs
  induction xs using snoc_ind with
  | h0 => exact fun _ => ⟨fun d => Iff.rfl, List.nodup_nil, Nat.le_refl _⟩
  | h1 xs x ih =>
    intro h
    obtain ⟨a, b, c⟩ := ih fun d hd => h d (List.mem_append_left _ hd)
    have hx : pur x = true := h x (by simp)
    have hp : ∀ d ∈ unl xs, pur d = true := fun d hd => h d (List.mem_append_left _ ((a d).mp hd))
    rw [unl_snoc]
    by_cases e : ((unl xs).any fun z => deq z x) = true
    · rw [if_pos e]
      have hm := (any_deq hx hp).mp e
      refine ⟨fun d => ⟨fun z => List.mem_append_left _ ((a d).mp z), fun z => ?_⟩, b, by rw [List.length_append]; omega⟩
      rcases List.mem_append.mp z with z | z
      · exact (a d).mpr z
      · rw [List.mem_singleton.mp z]; exact hm
    · rw [if_neg e]
      have hm : x ∉ unl xs := fun z => e ((any_deq hx hp).mpr z)
      refine ⟨fun d => ?_, ?_, by rw [List.length_append, List.length_append]; exact Nat.add_le_add_right c 1⟩
      · rw [List.mem_append, List.mem_append, a d]
      · rw [List.nodup_append]
        refine ⟨b, by simp, fun p hp q hq => ?_⟩
        rw [List.mem_singleton.mp hq]
        exact fun z => hm (z ▸ hp)
def sp__law_unlike : SpD := fun ds m P _ => ∃ xs : List D, ds = [.lst xs] ∧ xs.length ≤ 1000000 ∧ (∀ d ∈ xs, pur d = true ∧ fitD 20 d) ∧ P (.lst (unl xs)) m
def rd__law_unlike : DS :=
    sRet (rLc (iEnumD (rCons (rV 0) (rNil))) [1, 2] (gT [1, 2]) (rTst (rOp (oInN true) (rV 2) (rSl (rV 0) rNoP (rPart (rV 1))))) (rV 2))
theorem ln__law_unlike : ∀ ds m Q PX, sp__law_unlike ds m Q PX → ds.length = 1 := by rintro ds m Q PX ⟨d, rfl, _⟩; rfl
theorem dat_pur {m : Mu} {d : D} (h : pur d = true) : dat m d = d := by
  cases d <;> first | rfl | (simp [pur] at h)
theorem cut_take (xs : List D) (i : Nat) : cutD xs none (some (i : Int)) = xs.take i := by
  unfold cutD
  rw [HT.sIx_nat, HT.sIx_none]
  simp only [List.drop_zero, Nat.sub_zero]
  by_cases h : i ≤ xs.length
  · rw [Nat.min_eq_left h]
  · rw [Nat.min_eq_right (by omega), List.take_of_length_le (Nat.le_refl _), List.take_of_length_le (by omega)]
theorem pu__law_unlike : ∀ ds m Q PX, sp__law_unlike ds m Q PX → rd__law_unlike (dEnds Q PX) (dstart ["_law_some", "_law_k", "_law_one_here"] ds) m := by
  rintro ds m Q PX ⟨xs, rfl, hl, hp, h⟩
  walk_at "dl"
  refine comp_inv (fun i acc m' => m' = m ∧ acc = unl (xs.take i)) (fun i acc m' hh => ?_) (by rw [enumD_length]; omega) (fun i d acc m' e hh => ?_) (fun acc m' hh => ?_) ⟨rfl, rfl⟩
  · rw [hh.2]
    refine Nat.le_trans (unl_facts _ fun d hd => (hp d (List.mem_of_mem_take hd)).1).2.2 ?_
    rw [List.length_take]; omega
  · obtain ⟨rfl, rfl⟩ := hh
    refine ⟨trivial, fun Kt Kf k1 k2 => ?_⟩
    rw [enumD_get] at e
    cases hx : xs[i]? with
    | none => rw [hx] at e; cases e
    | some x =>
      rw [hx] at e
      cases e
      have hm := List.mem_of_getElem? hx
      refine ⟨rfl, ?_⟩
      have e0 : ((0 + i : Nat) : Int) = (i : Int) := by simp
      have e2 : xs.take (i + 1) = xs.take i ++ [x] := by rw [List.take_succ, hx]; rfl
      have sub : ∀ d ∈ xs.take i, pur d = true := fun d hd => (hp d (List.mem_of_mem_take hd)).1
      obtain ⟨u1, u2, u3⟩ := unl_facts _ sub
      have hany : ((unl (xs.take i)).any fun z => deq z x) = ((xs.take i).any fun z => deq z x) := by
        rw [Bool.eq_iff_iff, any_deq (hp x hm).1 sub, any_deq (hp x hm).1 (fun d hd => sub d ((u1 d).mp hd)), u1 x]
      walk_at "dl"
      rw [e0, cut_take]
      refine ⟨.inr ⟨?_, ?_⟩, ?_⟩
      · rw [dat_pur (hp x hm).1]; exact shp_of (hp x hm).2
      · exact shp_of (n := 21) fun d hd => (hp d (List.mem_of_mem_take hd)).2
      · rw [dat_pur (hp x hm).1, ← hany]
        cases ha : (unl (xs.take i)).any fun z => deq z x with
        | true => exact k2 _ ⟨rfl, by rw [e2, unl_snoc, if_pos ha]⟩
        | false => exact k1 _ _ ⟨rfl, by rw [e2, unl_snoc, if_neg (by rw [ha]; exact Bool.false_ne_true)]⟩
  · obtain ⟨rfl, rfl⟩ := hh
    refine ⟨trivial, ?_⟩
    rw [enumD_length, List.take_length]
    exact h
/-- of whole numbers -/
theorem unl_ints (ns : List Int) : ∃ ks : List Int, unl (ns.map .int) = ks.map .int ∧ ks.length ≤ ns.length ∧ ks.Nodup ∧ ∀ k, k ∈ ks ↔ k ∈ ns := by
  have hp : ∀ d ∈ ns.map D.int, pur d = true := fun d hd => by obtain ⟨n, _, rfl⟩ := List.mem_map.mp hd; rw [pur]
  obtain ⟨a, b, c⟩ := unl_facts _ hp
  have ex : ∀ l : List D, (∀ d ∈ l, ∃ n : Int, d = .int n) → ∃ ks : List Int, l = ks.map .int := by
    intro l
    induction l with
    | nil => exact fun _ => ⟨[], rfl⟩
    | cons d l ih =>
      intro h
      obtain ⟨n, rfl⟩ := h d List.mem_cons_self
      obtain ⟨ks, rfl⟩ := ih fun e he => h e (List.mem_cons_of_mem _ he)
      exact ⟨n :: ks, rfl⟩
  obtain ⟨ks, e⟩ := ex (unl (ns.map .int)) fun d hd => by
    obtain ⟨n, _, rfl⟩ := List.mem_map.mp ((a d).mp hd); exact ⟨n, rfl⟩
  refine ⟨ks, e, ?_, ?_, fun k => ?_⟩
  · rw [e, List.length_map, List.length_map] at c; exact c
  · rw [e] at b
    exact (List.pairwise_map.mp b).imp fun h z => h (by rw [z])
  · have := a (.int k)
    rw [e] at this
    simpa using this
end DL

namespace DL
open PySem L2
local macro_rules | `(tactic| walk_at "dl") => `(tactic| ((conv => whnf); try dsimp only))
def Lk.uniq : Lk → Prop
  | .one ns => ns.Nodup
  | .but l => l.uniq
  | _ => True
structure Lk.Good (b : Nat) (l : Lk) : Prop where
  nm : ∀ n ∈ l.nums, Bd b n
  few : l.few
  dp : l.dep ≤ 2
  un : l.uniq
theorem Lk.Good.ok {b : Nat} {l : Lk} (h : l.Good b) (hb : b ≤ 1900 := by decide) : l.Ok := ⟨fun n hn => (h.nm n hn).nm hb, h.few, h.dp⟩
theorem Wl.some {m : Mu} {w : Addr} {k : Nat} (h : Wl m w k) : m w ≠ none := by
  obtain ⟨a, b, c, e, _⟩ := h.ex
  rw [e]; exact fun z => by cases z
def sp__law_look : SpD := fun ds m P _ => ∃ (w : Addr) (ns : List Int), ds = [.adr w, .lst (ns.map .int)] ∧ 0 < ns.length ∧ ns.length ≤ 1000000 ∧ (∀ n ∈ ns, Bd 140 n) ∧ Dr w 20 (fun d => ∃ l : Lk, l.Good 142 ∧ d = l.d) m P
def rd__law_look : DS :=
    sSeq (sSet 2 (rCall sp__law_draw [] (rCons (rV 0) (rCons (rC (.int 8)) (rNil)))))
    (sSeq (sSet 3 (rCall sp__law_near [] (rCons (rV 0) (rCons (rV 1) (rNil)))))
    (sSeq (sSet 4 (rLstM (rCons (rTup (rCons (rC (.str "any")) (rNil))) (rCons (rTup (rCons (rC (.str "is")) (rCons (rV 3) (rNil)))) (rCons (rTup (rCons (rC (.str "from")) (rCons (rV 3) (rNil)))) (rCons (rTup (rCons (rC (.str "to")) (rCons (rV 3) (rNil)))) (rCons (rTup (rCons (rC (.str "in")) (rCons (rV 3) (rCons (rOp oSub (rOp oAdd (rV 3) (rCall sp__law_draw [] (rCons (rV 0) (rCons (rC (.int 5)) (rNil))))) (rC (.int 1))) (rNil))))) (rNil))))))))
    (sSeq (sExpr (rApp (rV 4) (rTup (rCons (rC (.str "one")) (rCons (rCB cTup (rCons (rCall sp__law_unlike [] (rCons (rLc (iRange (rCons (rCall sp__law_draw [] (rCons (rV 0) (rCons (rC (.int 5)) (rNil)))) (rNil))) [5] (gN 5) (qYes) (rCall sp__law_near [] (rCons (rV 0) (rCons (rV 1) (rNil))))) (rNil))) (rNil))) (rNil))))))
    (sSeq (sIf (rTst (rOp oLt (rV 2) (rC (.int 6)))) (sRet (rOp oIx (rV 4) (rV 2))) (sNext))
    (sRet (rTup (rCons (rC (.str "but")) (rCons (rOp oIx (rV 4) (rCall sp__law_draw [] (rCons (rV 0) (rCons (rC (.int 6)) (rNil))))) (rNil)))))))))
theorem ln__law_look : ∀ ds m Q PX, sp__law_look ds m Q PX → ds.length = 2 := by rintro ds m Q PX ⟨d, _, rfl, _⟩; rfl
theorem pu__law_look : ∀ ds m Q PX, sp__law_look ds m Q PX → rd__law_look (dEnds Q PX) (dstart ["_law_well_here", "_law_mids_here", "_law_way", "_law_low", "_law_some", "_law_k"] ds) m := by
  rintro ds m Q PX ⟨w, ns, rfl, h0, h1, hb, k, wl, hk, h⟩
  walk_at "dl"
  refine ⟨w, 8, rfl, by decide, by decide, k, wl, by omega, fun d m1 hd kp1 w1 => ?_⟩
  obtain ⟨way, y0, y1, rfl⟩ := hd
  walk_at "dl"
  refine ⟨w, ns, 140, rfl, by decide, h0, h1, hb, _, w1, by omega, fun d m2 hd kp2 w2 => ?_⟩
  obtain ⟨low, hlow, rfl⟩ := hd
  walk_at "dl"
  repeat (refine ⟨len_line (by simp), ?_⟩; walk_at "dl")
  refine ⟨w, 5, rfl, by decide, by decide, _, w2, by omega, fun d m3 hd kp3 w3 => ?_⟩
  obtain ⟨up, u0, u1, rfl⟩ := hd
  walk_at "dl"
  refine ⟨len_line (by simp), ?_⟩
  walk_at "dl"
  refine ⟨len_line (by show 5 ≤ _; decide), fun q hq => ?_⟩
  walk_at "dl"
  have hqw : q ≠ w := fun z => w3.some (z ▸ hq)
  have kn : Kp [] m3 (mset m3 q (.lst [Lk.any.d, (Lk.is low).d, (Lk.frm low).d, (Lk.upto low).d, (Lk.inn low (low + up - 1)).d])) := kp_new hq
  have w4 := w3.keep kn (by simp)
  refine ⟨⟨_, mset_same⟩, ?_⟩
  walk_at "dl"
  refine ⟨w, 5, rfl, by decide, by decide, _, w4, by omega, fun d m5 hd kp5 w5 => ?_⟩
  obtain ⟨cnt, c0, c1, rfl⟩ := hd
  have e5 : m5 q = some (.lst [Lk.any.d, (Lk.is low).d, (Lk.frm low).d, (Lk.upto low).d, (Lk.inn low (low + up - 1)).d]) := kp5 q _ (by simpa using hqw) mset_same
  walk_at "dl"
  refine ⟨⟨by omega, by omega⟩, ?_⟩
  have hrl : (rangeD 0 cnt.toNat).length = cnt.toNat := by simp [rangeD]
  refine comp_inv (fun i acc m' => Kp [w] m5 m' ∧ Wl m' w (k + 1 + 2 + 1 + 1 + 2 * i) ∧ ∃ ks : List Int, acc = ks.map .int ∧ ks.length = i ∧ ∀ n ∈ ks, Bd 141 n) (fun i acc m' hh => ?_) (by rw [hrl]; omega) (fun i d acc m' e hh => ?_) (fun acc m' hh => ?_) ⟨Kp.refl _ _, w5, [], rfl, rfl, fun _ z => by cases z⟩
  · obtain ⟨_, _, ks, rfl, hl, _⟩ := hh
    rw [List.length_map, hl]; exact Nat.le_refl _
  · obtain ⟨kp6, w6, ks, rfl, hl, hks⟩ := hh
    have hi : i < cnt.toNat := by
      have := (List.getElem?_eq_some_iff.mp e).1
      rw [hrl] at this; exact this
    refine ⟨trivial, fun Kt Kf k1 _ => ?_⟩
    walk_at "dl"
    refine ⟨w, ns, 140, rfl, by decide, h0, h1, hb, _, w6, by omega, fun d m7 hd kp7 w7 => ?_⟩
    obtain ⟨n, hn, rfl⟩ := hd
    refine k1 _ _ ⟨kp6.trans kp7, ?_, ks ++ [n], by simp, by simp [hl], fun j hj => ?_⟩
    · have e : k + 1 + 2 + 1 + 1 + 2 * i + 2 = k + 1 + 2 + 1 + 1 + 2 * (i + 1) := by omega
      rw [e] at w7; exact w7
    · rcases List.mem_append.mp hj with hj | hj
      · exact hks j hj
      · rw [List.mem_singleton.mp hj]; exact hn
  · obtain ⟨kp6, w6, ks, rfl, hl, hks⟩ := hh
    rw [hrl] at hl w6
    refine ⟨trivial, ?_⟩
    walk_at "dl"
    refine ⟨ks.map .int, rfl, by rw [List.length_map]; omega, fun d hd => ?_, ?_⟩
    · obtain ⟨n, _, rfl⟩ := List.mem_map.mp hd
      exact ⟨by rw [pur], fit_int⟩
    obtain ⟨us, e1, e2, e3, e4⟩ := unl_ints ks
    rw [e1]
    walk_at "dl"
    have e6 := kp6 q _ (by simpa using hqw) e5
    refine ⟨len_line (by simp), ?_⟩
    walk_at "dl"
    rw [e6]
    walk_at "dl"
    refine ⟨by show 5 < sizeLine; decide, ?_⟩
    walk_at "dl"
    have kpw : Kp [w] m m' := ((kp1.trans kp2).trans (kp3.trans (kn.more (by simp)))).trans (kp5.trans kp6)
    have low2 : Bd 142 low := hlow.mono
    have good : ∀ l ∈ [Lk.any, .is low, .frm low, .upto low, .inn low (low + up - 1), .one us], l.Good 142 ∧ l.dep ≤ 1 := by
      intro l hl
      simp only [List.mem_cons, List.not_mem_nil, or_false] at hl
      rcases hl with rfl | rfl | rfl | rfl | rfl | rfl
      · exact ⟨⟨by simp [Lk.nums], trivial, by simp [Lk.dep], trivial⟩, by simp [Lk.dep]⟩
      · exact ⟨⟨by simpa [Lk.nums] using low2, trivial, by simp [Lk.dep], trivial⟩, by simp [Lk.dep]⟩
      · exact ⟨⟨by simpa [Lk.nums] using low2, trivial, by simp [Lk.dep], trivial⟩, by simp [Lk.dep]⟩
      · exact ⟨⟨by simpa [Lk.nums] using low2, trivial, by simp [Lk.dep], trivial⟩, by simp [Lk.dep]⟩
      · refine ⟨⟨?_, trivial, by simp [Lk.dep], trivial⟩, by simp [Lk.dep]⟩
        intro n hn
        simp only [Lk.nums, List.mem_cons, List.not_mem_nil, or_false] at hn
        rcases hn with rfl | rfl
        · exact low2
        · have p : (2 : Nat) ^ 141 > 100 := by decide
          unfold Bd at *
          have : (2 : Nat) ^ 142 = 2 * 2 ^ 141 := by decide
          omega
      · refine ⟨⟨fun n hn => (hks n ((e4 n).mp hn)).mono, ?_, by simp [Lk.dep], e3⟩, by simp [Lk.dep]⟩
        show us.length ≤ 4
        omega
    generalize hm8 : mset m' q _ = m8
    have e8 : m8 q = some (.lst ([Lk.any, .is low, .frm low, .upto low, .inn low (low + up - 1), .one us].map Lk.d)) := by rw [← hm8]; exact mset_same
    have kp8 : Kp [w] m m8 := by
      intro a o ha e
      rw [← hm8, mset_ne ?_]
      · exact kpw a o ha e
      · intro z
        have := ((kp1.trans kp2).trans kp3) a o ha e
        rw [z, hq] at this; cases this
    have w8 : Wl m8 w (k + 1 + 2 + 1 + 1 + 2 * cnt.toNat) := by
      obtain ⟨a, b, c, e, r⟩ := w6.ex
      exact ⟨a, b, c, by rw [← hm8, mset_ne (fun z => hqw z.symm)]; exact e, r⟩
    have pick : ∀ i : Int, 0 ≤ i → i < 6 → ∃ l ∈ [Lk.any, .is low, .frm low, .upto low, .inn low (low + up - 1), .one us], atI ([Lk.any, .is low, .frm low, .upto low, .inn low (low + up - 1), .one us].map Lk.d) i = some l.d := by
      intro i i0 i1
      obtain ⟨x, a1, a2⟩ := atI_some (xs := [Lk.any, .is low, .frm low, .upto low, .inn low (low + up - 1), .one us].map Lk.d) i0 i1
      obtain ⟨l, hl, rfl⟩ := List.mem_map.mp (List.mem_of_getElem? a2)
      exact ⟨l, hl, a1⟩
    cases hw : decide (way < 6) with
    | true =>
      obtain ⟨l, hl, el⟩ := pick way y0 (of_decide_eq_true hw)
      walk_at "dl"
      rw [asL_adr e8]
      walk_at "dl"
      rw [el]
      exact h _ _ ⟨l, (good l hl).1, rfl⟩ kp8 (w8.mono (by omega))
    | false =>
      walk_at "dl"
      refine ⟨w, 6, rfl, by decide, by decide, _, w8, by omega, fun d m9 hd kp9 w9 => ?_⟩
      obtain ⟨i, i0, i1, rfl⟩ := hd
      obtain ⟨l, hl, el⟩ := pick i i0 i1
      have e9 := kp9 q _ (by simpa using hqw) e8
      walk_at "dl"
      rw [asL_adr e9]
      walk_at "dl"
      rw [el]
      obtain ⟨g1, g2⟩ := good l hl
      refine ⟨len_line (by simp), ?_⟩
      exact h _ _ ⟨.but l, ⟨g1.nm, g1.few, by show l.dep + 1 ≤ 2; omega, g1.un⟩, rfl⟩ (kp8.trans kp9) (w9.mono (by omega))
/-! ### a number by its figures -/
def sp__law_figures_of : SpD := fun ds m P _ => ∃ n : Nat, ds = [.int n] ∧ Nm n ∧ P (.str (dig n)) m
def rd__law_figures_of : DS :=
    sSeq (sSet 1 (rOp oIx (rC (.str "0123456789")) (rOp oMod (rCB cInt (rCons (rV 0) (rNil))) (rC (.int 10)))))
    (sSeq (sWhile (rTst (rOp oGt (rV 0) (rC (.int 9)))) (sSeq (sSet 0 (rOp oDiv (rV 0) (rC (.int 10))))
    (sSet 1 (rOp oAdd (rOp oIx (rC (.str "0123456789")) (rOp oMod (rCB cInt (rCons (rV 0) (rNil))) (rC (.int 10)))) (rV 1)))))
    (sRet (rV 1)))
theorem ln__law_figures_of : ∀ ds m Q PX, sp__law_figures_of ds m Q PX → ds.length = 1 := by rintro ds m Q PX ⟨d, rfl, _⟩; rfl
theorem tens_get : ∀ i : Nat, i < 10 → (Str.ofString "0123456789").cps.toList[i]? = some (48 + i) := by decide
theorem dig_small : ∀ i : Nat, i < 10 → dig (i : Nat) = ⟨#[48 + i]⟩ := by decide
theorem tens_at (i : Int) (h0 : 0 ≤ i) (h1 : i < 10) : ∃ c, atI (Str.ofString "0123456789").cps.toList i = some c ∧ dig i = ⟨#[c]⟩ := by
  obtain ⟨c, e1, e2⟩ := atI_some (xs := (Str.ofString "0123456789").cps.toList) h0 (by rw [show (Str.ofString "0123456789").cps.toList.length = 10 by decide]; omega)
  refine ⟨c, e1, ?_⟩
  have hi : i.toNat < 10 := by omega
  have e3 := tens_get _ hi
  rw [e2] at e3
  cases e3
  have := dig_small _ hi
  have e4 : ((i.toNat : Nat) : Int) = i := by omega
  rw [e4] at this
  exact this
theorem pu__law_figures_of : ∀ ds m Q PX, sp__law_figures_of ds m Q PX → rd__law_figures_of (dEnds Q PX) (dstart ["_law_number", "_law_word"] ds) m := by
  rintro ds m Q PX ⟨n, rfl, hn, h⟩
  have l10 : Str.length "0123456789" ≤ sizeLine := by decide
  walk_at "dl"
  refine ⟨by decide, ?_⟩
  walk_at "dl"
  refine ⟨l10, ?_⟩
  obtain ⟨c, e1, e2⟩ := tens_at ((n : Int) % 10) (Int.emod_nonneg _ (by decide)) (Int.emod_lt_of_pos _ (by decide))
  rw [e1]
  walk_at "dl"
  refine ⟨fun k δ m' => k ≤ n ∧ Nm (k : Nat) ∧ m' = m ∧ ∃ s : Str, δ = [some (.int k), some (.str s)] ∧ s.length ≤ 2000 ∧ (dig (n : Nat)).cps.toList = (if 9 < k then (dig ((k / 10 : Nat) : Int)).cps.toList else []) ++ s.cps.toList, ⟨n, Nat.le_refl _, hn, rfl, ⟨#[c]⟩, rfl, by show 1 ≤ _; decide, ?_⟩, fun k δ m' hh => ?_⟩
  · rw [← e2]
    by_cases h9 : 9 < n
    · rw [if_pos h9, dig_step n h9]
      rfl
    · rw [if_neg h9]
      have : (n : Int) % 10 = n := by omega
      rw [this]
      rfl
  · obtain ⟨hkn, hk, rfl, s, rfl, hs, es⟩ := hh
    walk_at "dl"
    cases h9 : decide ((9 : Int) < (k : Nat)) with
    | false =>
      have h9' := of_decide_eq_false h9
      rw [if_neg (by omega)] at es
      walk_at "dl"
      have : dig (n : Nat) = s := str_ext es
      rw [← this]
      exact h
    | true =>
      have h9' := of_decide_eq_true h9
      have h9n : 9 < k := by omega
      rw [if_pos h9n] at es
      have hk2 : Nm ((k / 10 : Nat) : Int) := by unfold Nm at *; have := Nat.div_le_self k 10; omega
      walk_at "dl"
      refine ⟨wide_div (b := 4) (by decide) (by decide) (by decide) (by decide), ?_⟩
      walk_at "dl"
      refine ⟨by decide, ?_⟩
      walk_at "dl"
      refine ⟨l10, ?_⟩
      have ek : ((k : Nat) : Int) / 10 = ((k / 10 : Nat) : Int) := by omega
      rw [ek]
      obtain ⟨c, e1, e2⟩ := tens_at (((k / 10 : Nat) : Int) % 10) (Int.emod_nonneg _ (by decide)) (Int.emod_lt_of_pos _ (by decide))
      rw [e1]
      walk_at "dl"
      have lc : Str.length ⟨#[c]⟩ = 1 := rfl
      have es2 : (dig (n : Nat)).cps.toList = (if 9 < k / 10 then (dig ((k / 10 / 10 : Nat) : Int)).cps.toList else []) ++ ((⟨#[c]⟩ : Str) ++ s).cps.toList := by
        rw [es, cps_app, ← e2]
        by_cases h99 : 9 < k / 10
        · rw [if_pos h99, dig_step (k / 10) h99, List.append_assoc]
          rfl
        · rw [if_neg h99]
          have : ((k / 10 : Nat) : Int) % 10 = ((k / 10 : Nat) : Int) := by omega
          rw [this]
          rfl
      have hlen : ((⟨#[c]⟩ : Str) ++ s).length ≤ 1901 := by
        have h1 := hn.len
        have h2 := congrArg List.length es2
        rw [List.length_append] at h2
        have h3 : (dig (n : Nat)).cps.toList.length = (dig (n : Nat)).length := by simp [Str.length]
        have h4 : ((⟨#[c]⟩ : Str) ++ s).cps.toList.length = ((⟨#[c]⟩ : Str) ++ s).length := by simp [Str.length]
        omega
      refine ⟨len_line (by omega), ?_⟩
      walk_at "dl"
      exact ⟨k / 10, by omega, by omega, hk2, rfl, _, rfl, by omega, es2⟩
def sp__law_figures : SpD := fun ds m P _ => ∃ n : Int, ds = [.int n] ∧ Nm n ∧ P (.str (dig n)) m
def rd__law_figures : DS :=
    sSeq (sIf (rTst (rOp oLt (rV 0) (rC (.int 0)))) (sRet (rOp oAdd (rC (.str "-")) (rCall sp__law_figures_of [] (rCons (rOp oSub (rC (.int 0)) (rV 0)) (rNil))))) (sNext))
    (sRet (rCall sp__law_figures_of [] (rCons (rV 0) (rNil))))
theorem ln__law_figures : ∀ ds m Q PX, sp__law_figures ds m Q PX → ds.length = 1 := by rintro ds m Q PX ⟨d, rfl, _⟩; rfl
theorem pu__law_figures : ∀ ds m Q PX, sp__law_figures ds m Q PX → rd__law_figures (dEnds Q PX) (dstart ["_law_number"] ds) m := by
  rintro ds m Q PX ⟨n, rfl, hn, h⟩
  walk_at "dl"
  cases h0 : decide (n < 0) with
  | true =>
    have h0' := of_decide_eq_true h0
    obtain ⟨k, rfl⟩ : ∃ k : Nat, n = -((k + 1 : Nat) : Int) := ⟨n.natAbs - 1, by omega⟩
    walk_at "dl"
    have hk : Nm ((k + 1 : Nat) : Int) := by unfold Nm at *; rw [Int.natAbs_neg] at hn; exact hn
    refine ⟨k + 1, by simp, hk, ?_⟩
    have hl := hk.len
    have e1 : Str.length "-" = 1 := by decide
    walk_at "dl"
    refine ⟨len_line (by omega), ?_⟩
    have e : dig (-((k + 1 : Nat) : Int)) = ("-" : Str) ++ dig ((k + 1 : Nat) : Int) := str_ext (by
      rw [dig_neg, cps_app]
      have : (Str.ofString "-").cps.toList = [45] := by decide
      rw [this]; rfl)
    rw [e] at h
    exact h
  | false =>
    have h0' := of_decide_eq_false h0
    obtain ⟨k, rfl⟩ : ∃ k : Nat, n = (k : Int) := ⟨n.natAbs, by omega⟩
    walk_at "dl"
    exact ⟨k, rfl, hn, h⟩
/-! ### a look as it is written, word by word -/
abbrev sp__law_text : Nat → SpD := sp_look_text
def rd__law_text (self : SpD) : DS :=
    sSeq (sSet 1 (rOp oIx (rV 0) (rC (.int 0))))
    (sSeq (sSet 2 (rLc (iAny (rCB cLst (rCons (rSl (rV 0) (rPart (rC (.int 1))) rNoP) (rNil)))) [3] (gN 3) (rTru (rCB cIsi (rCons (rV 3) (rCons (rC (.ty "int")) (rNil))))) (rCall sp__law_figures [] (rCons (rV 3) (rNil)))))
    (sSeq (sIf (rTst (rOp oEq (rV 1) (rC (.str "but")))) (sRet (rOp oAdd (rC (.str "!")) (rCall self [] (rCons (rOp oIx (rV 0) (rC (.int 1))) (rNil))))) (sNext))
    (sSeq (sIf (rTst (rOp oEq (rV 1) (rC (.str "any")))) (sRet (rC (.str "*"))) (sNext))
    (sSeq (sIf (rTst (rOp oEq (rV 1) (rC (.str "one")))) (sRet (rOp oAdd (rOp oAdd (rC (.str "{")) (rJoin (rC (.str ",")) (rLc (iAny (rOp oIx (rV 0) (rC (.int 1)))) [3] (gN 3) (qYes) (rCall sp__law_figures [] (rCons (rV 3) (rNil)))))) (rC (.str "}")))) (sNext))
    (sSeq (sIf (rTst (rOp oEq (rV 1) (rC (.str "is")))) (sRet (rOp oIx (rV 2) (rC (.int 0)))) (sNext))
    (sSeq (sIf (rTst (rOp oEq (rV 1) (rC (.str "from")))) (sRet (rOp oAdd (rOp oIx (rV 2) (rC (.int 0))) (rC (.str "..")))) (sNext))
    (sSeq (sIf (rTst (rOp oEq (rV 1) (rC (.str "to")))) (sRet (rOp oAdd (rC (.str "..")) (rOp oIx (rV 2) (rC (.int 0))))) (sNext))
    (sRet (rOp oAdd (rOp oAdd (rOp oIx (rV 2) (rC (.int 0))) (rC (.str ".."))) (rOp oIx (rV 2) (rC (.int 1))))))))))))
theorem ln__law_text : ∀ kk ds m Q PX, sp__law_text kk ds m Q PX → ds.length = 1 := ln_look_text
def isI : D → Bool
  | .int _ => true
  | _ => false
def figD : D → D
  | .int n => .str (dig n)
  | d => d
theorem pu__law_text : ∀ kk ds m Q PX, sp__law_text (kk + 1) ds m Q PX → rd__law_text (sp__law_text kk) (dEnds Q PX) (dstart ["_law_sight", "_law_word", "_law_some", "_law_part"] ds) m := by
  rintro kk ds m Q PX ⟨l, rfl, hd, ok, h⟩
  have l2 := l_dots
  cases l with
  | any =>
    walk_at "dl"
    have hes : ∀ d ∈ ([] : List D), (∃ n, d = .int n ∧ Nm n) ∨ ∃ ts, d = .tup ts := fun d hd => by cases hd
    refine comp_fm (ds := []) isI figD (by simp) trivial (fun d hd Q q => ?_) (fun d hd hp Q q => ?_) ?_
    · rcases hes d hd with ⟨n, rfl, hn⟩ | ⟨ts, rfl⟩ <;> exact q
    · rcases hes d hd with ⟨n, rfl, hn⟩ | ⟨ts, rfl⟩
      · exact ⟨n, rfl, hn, q⟩
      · cases hp
    walk_at "dl"
    exact h
  | is n =>
    have hn : Nm n := ok.nm n (by simp [Lk.nums])
    have hl : (dig n).length ≤ 1901 := hn.len
    walk_at "dl"
    have hes : ∀ d ∈ ([.int n] : List D), (∃ n, d = .int n ∧ Nm n) ∨ ∃ ts, d = .tup ts := fun d hd => .inl ⟨n, List.mem_singleton.mp hd, hn⟩
    refine comp_fm (ds := [.int n]) isI figD (by simp) trivial (fun d hd Q q => ?_) (fun d hd hp Q q => ?_) ?_
    · rcases hes d hd with ⟨n, rfl, hn⟩ | ⟨ts, rfl⟩ <;> exact q
    · rcases hes d hd with ⟨n, rfl, hn⟩ | ⟨ts, rfl⟩
      · exact ⟨n, rfl, hn, q⟩
      · cases hp
    walk_at "dl"
    exact h
  | frm n =>
    have hn : Nm n := ok.nm n (by simp [Lk.nums])
    have hl : (dig n).length ≤ 1901 := hn.len
    walk_at "dl"
    have hes : ∀ d ∈ ([.int n] : List D), (∃ n, d = .int n ∧ Nm n) ∨ ∃ ts, d = .tup ts := fun d hd => .inl ⟨n, List.mem_singleton.mp hd, hn⟩
    refine comp_fm (ds := [.int n]) isI figD (by simp) trivial (fun d hd Q q => ?_) (fun d hd hp Q q => ?_) ?_
    · rcases hes d hd with ⟨n, rfl, hn⟩ | ⟨ts, rfl⟩ <;> exact q
    · rcases hes d hd with ⟨n, rfl, hn⟩ | ⟨ts, rfl⟩
      · exact ⟨n, rfl, hn, q⟩
      · cases hp
    walk_at "dl"
    exact ⟨len_line (by omega), h⟩
  | upto n =>
    have hn : Nm n := ok.nm n (by simp [Lk.nums])
    have hl : (dig n).length ≤ 1901 := hn.len
    walk_at "dl"
    have hes : ∀ d ∈ ([.int n] : List D), (∃ n, d = .int n ∧ Nm n) ∨ ∃ ts, d = .tup ts := fun d hd => .inl ⟨n, List.mem_singleton.mp hd, hn⟩
    refine comp_fm (ds := [.int n]) isI figD (by simp) trivial (fun d hd Q q => ?_) (fun d hd hp Q q => ?_) ?_
    · rcases hes d hd with ⟨n, rfl, hn⟩ | ⟨ts, rfl⟩ <;> exact q
    · rcases hes d hd with ⟨n, rfl, hn⟩ | ⟨ts, rfl⟩
      · exact ⟨n, rfl, hn, q⟩
      · cases hp
    walk_at "dl"
    exact ⟨len_line (by omega), h⟩
  | inn a b =>
    have hn : Nm a := ok.nm a (by simp [Lk.nums])
    have hl : (dig a).length ≤ 1901 := hn.len
    have hb : Nm b := ok.nm b (by simp [Lk.nums])
    have hlb : (dig b).length ≤ 1901 := hb.len
    walk_at "dl"
    have hes : ∀ d ∈ ([.int a, .int b] : List D), (∃ n, d = .int n ∧ Nm n) ∨ ∃ ts, d = .tup ts := fun d hd => by
      simp only [List.mem_cons, List.not_mem_nil, or_false] at hd
      rcases hd with rfl | rfl
      · exact .inl ⟨a, rfl, hn⟩
      · exact .inl ⟨b, rfl, hb⟩
    refine comp_fm (ds := [.int a, .int b]) isI figD (by simp) trivial (fun d hd Q q => ?_) (fun d hd hp Q q => ?_) ?_
    · rcases hes d hd with ⟨n, rfl, hn⟩ | ⟨ts, rfl⟩ <;> exact q
    · rcases hes d hd with ⟨n, rfl, hn⟩ | ⟨ts, rfl⟩
      · exact ⟨n, rfl, hn, q⟩
      · cases hp
    walk_at "dl"
    refine ⟨len_line (by omega), ?_⟩
    walk_at "dl"
    exact ⟨len_line (by rw [PySem.Str.length_append]; omega), h⟩
  | one ns =>
    walk_at "dl"
    have hes : ∀ d ∈ ([.tup (ns.map .int)] : List D), (∃ n, d = .int n ∧ Nm n) ∨ ∃ ts, d = .tup ts := fun d hd => .inr ⟨_, List.mem_singleton.mp hd⟩
    refine comp_fm (ds := [.tup (ns.map .int)]) isI figD (by simp) trivial (fun d hd Q q => ?_) (fun d hd hp Q q => ?_) ?_
    · rcases hes d hd with ⟨n, rfl, hn⟩ | ⟨ts, rfl⟩ <;> exact q
    · rcases hes d hd with ⟨n, rfl, hn⟩ | ⟨ts, rfl⟩
      · exact ⟨n, rfl, hn, q⟩
      · cases hp
    walk_at "dl"
    refine comp_map figD (by rw [List.length_map]; exact Nat.le_trans ok.few (by decide)) trivial (fun d hd Q q => ?_) ?_
    · obtain ⟨n, hn, rfl⟩ := List.mem_map.mp hd
      exact ⟨n, rfl, ok.nm n hn, q⟩
    · rw [List.map_map]
      walk_at "dl"
      show (match textsD (ns.map fun n => D.str (dig n)) with | some ys => _ | none => False)
      rw [textsD_strs]
      walk_at "dl"
      have hs := Lk.dig_sum (ns := ns) (fun n hn => ok.nm n hn) ok.few
      have hj := join_len "," (ns.map dig)
      have e1 : Str.length "{" = 1 := by decide
      have e2 : Str.length "}" = 1 := by decide
      refine ⟨Nat.le_trans hs (by decide), ?_⟩
      walk_at "dl"
      refine ⟨len_line (by omega), ?_⟩
      walk_at "dl"
      exact ⟨len_line (by rw [PySem.Str.length_append]; omega), h⟩
  | but l =>
    have htup : ∃ ts, l.d = .tup ts := by cases l <;> exact ⟨_, rfl⟩
    walk_at "dl"
    have hes : ∀ d ∈ ([l.d] : List D), (∃ n, d = .int n ∧ Nm n) ∨ ∃ ts, d = .tup ts := fun d hd => .inr (by rw [List.mem_singleton.mp hd]; exact htup)
    refine comp_fm (ds := [l.d]) isI figD (by simp) trivial (fun d hd Q q => ?_) (fun d hd hp Q q => ?_) ?_
    · rcases hes d hd with ⟨n, rfl, hn⟩ | ⟨ts, rfl⟩ <;> exact q
    · rcases hes d hd with ⟨n, rfl, hn⟩ | ⟨ts, rfl⟩
      · exact ⟨n, rfl, hn, q⟩
      · cases hp
    walk_at "dl"
    have hdp : l.dep ≤ kk := by have : l.dep + 1 ≤ kk + 1 := hd; omega
    cases kk with
    | zero => cases l <;> simp [Lk.dep] at hdp
    | succ k =>
      have okl : l.Ok := ok.but
      have hdp2 := okl.dp
      refine ⟨l, rfl, hdp, okl, ?_⟩
      walk_at "dl"
      have hl := l.text_len okl
      have e1 : Str.length "!" = 1 := by decide
      exact ⟨len_line (by omega), h⟩
end DL

namespace DL
open PySem L2
/-! ### set(xs) of a list of whole numbers -/
abbrev voidSet (w : World) : Obj := { cls := .type "set", dict := none, data := .set #[] 0 (.fresh 0 0 (!w.params.followText "set-order")) }
section
open PyProof.Rows
variable {P : Program} {w : World} {A : Around} {E : Value → Shared → Prop} {s : Shared}
theorem set_list {l : Addr} {xs : Array Value} (ns : List Int) {Q : Value → Shared → Prop} (calm : A.handled = none) (il : s.heap.IsList l xs) (hin : IntsAre xs.toList ns) (few : ns.length + 1 < scanBound)
    (fin : ∀ (g : Heap) (tk c : Nat), SetR w g s.heap.objs.size (fun j => decide (j ∈ ns)) c → c ≤ ns.length → (∀ b u, s.heap.get? b = some u → g.get? b = some u) → Q (.ref s.heap.objs.size) { s with heap := g, toks := tk }) :
    wpAny (model P w) A (call (.type "set") [.ref l]) Q E s := by
  have size : xs.size = ns.length := by rw [← Array.length_toList]; exact IntsAre.length hin
  obtain ⟨_, _, k1⟩ := F.called_set.mro
  have k2 := F.called_set.made; have k3 := F.called_set.sub; have k4 := F.called_set.notType
  have k5 := F.called_set.canCreate; have k6 := F.typeCall_set_1 (.ref l)
  refine wpAny_call (codeAny_of_tree (show wpAny _ _ (callAny (.type "set") _) _ _ _ from ?_))
  refine wpAny_pure ⟨Code.quiet_builtin _ (by decide +kernel), codeAny_builtin F.entry_type_call ?_⟩; rw [Around.under_plain (weight_type_call_type "set" [.ref l] []) rfl]
  repeat (any_goals (first | assumption | wp_step)); skip
  refine codeAny_mono (L2.code_set_led1 (.ref l) (E := E) (Q₁ := fun y z => y = .ref s.heap.objs.size ∧ z = { s with heap := s.heap.push (voidSet w) }) ⟨rfl, rfl⟩) fun r1 s1 z1 => ?_
  match r1, z1 with
  | .error e, z1 => exact z1
  | .ok (.ret y), ⟨ey, es⟩ =>
    subst ey es
    have new : (s.heap.push (voidSet w)).get? s.heap.objs.size = some (voidSet w) := Heap.get?_push_size _ rfl
    have is : Shared.TypeIs { s with heap := s.heap.push (voidSet w) } (.ref s.heap.objs.size) "set" := ⟨_, new, rfl⟩
    have k7 := F.called_set.init.lookup; have k8 := F.called_set.init.bind (.ref s.heap.objs.size)
    repeat (any_goals (first | assumption | wp_step)); skip
    refine codeAny_mono (codeAny_call_builtin (R := wants (fun y z => y = .none ∧ ∃ g tk c, z = { s with heap := g, toks := tk } ∧ SetR w g s.heap.objs.size (fun j => decide (j ∈ ns)) c ∧ c ≤ ns.length ∧ (∀ b u, s.heap.get? b = some u → g.get? b = some u)) E) F.called_set.init.plain F.entry_set_init (check_set_init_1 is ?_)) fun r2 s2 z2 => ?_
    · obtain ⟨⟨oc, od, odt, osl⟩, go, gc, gn, gd⟩ := il
      simp only at gc gd; subst gc; subst gd
      have go2 : (s.heap.push (voidSet w)).get? l = some ⟨.type "list", od, .seq xs gn, osl⟩ := Heap.get?_push_of_some _ go
      have il2 : (s.heap.push (voidSet w)).IsList l xs := ⟨_, go2, rfl, gn, rfl⟩
      have k9 := F.sub_list_set; have k10 := F.sub_list_frozenset; have k11 : (Value.type "list" == Value.type "dict") = false := by decide
      unfold Builtin.«set.__init__» noKeywords Builtin.Frozenset.updateFrom; generalize hit : pyIter = it
      wp_walk; subst hit
      refine wpAny_pyIter_list il2 (wpAny_bind (wpAny_runValue ?_))
      have lt : l < s.heap.objs.size := Heap.lt_size go
      have sz : (s.heap.push (voidSet w)).objs.size = s.heap.objs.size + 1 := Heap.size_push ..
      have off : s.heap.objs.size ∉ [(s.heap.push (voidSet w)).objs.size, l] := by
        rw [sz]; intro z; rcases List.mem_cons.mp z with z | z
        · exact absurd z (Nat.ne_of_lt (Nat.lt_succ_self _))
        · exact Nat.lt_irrefl _ (show l < l from (List.mem_singleton.mp z) ▸ lt)
      refine L2.set_update_ints ((Walks.list (by simp [calm]) _ l (by rw [sz]; exact Nat.ne_of_lt (Nat.lt_succ_of_lt lt)) xs).toS) s.heap.objs.size off ns size few (fun i v hv => ?_) (xs.size - 0) 0 _ (by omega) (Nat.zero_le _) ⟨⟨_, Heap.get?_push_size _ rfl, rfl, rfl⟩, il2.push _⟩ ⟨0, Nat.le_refl 0, L2.setR_new_at (Heap.get?_push_of_some _ new)⟩ fun s3 c3 mv le3 in3 => ?_
      · have hi : i < ns.length := by rw [← size]; exact (Array.getElem?_eq_some_iff.mp hv).1
        obtain ⟨t, e⟩ := IntsAre.int_at hin i v (by rw [Array.getElem?_toList]; exact hv)
        exact ⟨ns[i], t, List.getElem?_eq_getElem hi, by rw [e, List.getD_eq_getElem?_getD, List.getElem?_eq_getElem hi] <;> rfl⟩
      · obtain ⟨g3, gens3, dr3, tk3, os3⟩ := s3
        obtain rfl : gens3 = s.gens := mv.gens
        obtain rfl : dr3 = s.drawn := mv.drawn
        obtain rfl : os3 = s.os := mv.os
        refine wpAny_pure (show wpAny _ _ (ret Value.none) _ _ _ from wpAny_pure ⟨rfl, g3, tk3, c3, rfl, in3, by omega, fun b u e => ?_⟩)
        have lb : b < s.heap.objs.size := Heap.lt_size e
        refine mv.heap b u (fun z => ?_) (Heap.get?_push_of_some _ (Heap.get?_push_of_some _ e))
        rcases List.mem_cons.mp z with z | z
        · exact absurd z (Nat.ne_of_lt lb)
        · exact absurd ((List.mem_singleton.mp z).trans sz) (Nat.ne_of_lt (Nat.lt_succ_of_lt lb))
    · match r2, z2 with
      | .error e, z2 => exact z2
      | .ok (.ret y), ⟨ey, g, tk, c, es, in2, le2, kp2⟩ =>
        subst ey es
        repeat (any_goals (first | assumption | wp_step)); skip
        exact fin _ _ _ in2 le2 kp2
/-- at its place in the layer -/
def rSetL (K : PySem.W.Frag) (w : World) : List V → Hp → VK → Prop := fun vs H Q => ∃ (a : Addr) (ns : List Int), vs = [V.ref a] ∧ SqL K H a (ns.map V.int) ∧ ns.length < 1000 ∧
  ∀ (p : Addr) (c : Nat), c ≤ ns.length → H p = none → Q (.ref p) (upd H p (SetO w p (fun j => decide (j ∈ ns)) c))
theorem cr_setL {X : Cx} (hc : X.calm = true) : CallR X (.type "set") (rSetL X.K X.w) := by
  intro pins s σ H vs us Q I r h
  obtain ⟨a, ns, rfl, hs, hl, q⟩ := h
  obtain ⟨its, rv, pl, hz⟩ := I.list hs
  rw [Vals.ref1 r]
  refine set_list ns (I.ok.hd hc) pl.isList (by simpa using rv.ints) (by unfold scanBound; omega) fun g tk c R lc kp => ?_
  have hn : H s.heap.objs.size = none := I.hok.fresh (Nat.le_refl _)
  exact ⟨.ref _, upd H s.heap.objs.size (SetO X.w s.heap.objs.size (fun j => decide (j ∈ ns)) c), I.laid kp (Nat.le_refl _) (setO_new R), rfl, q _ _ lc hn⟩
end
end DL

namespace DL
open PySem L2
/-! ### whole numbers in a list -/
def intsD : List D → Option (List Int)
  | [] => some []
  | .int n :: ds => (intsD ds).map (n :: ·)
  | _ :: _ => none
theorem intsD_map : ∀ ns : List Int, intsD (ns.map .int) = some ns
  | [] => rfl
  | n :: ns => by show (intsD (ns.map .int)).map (n :: ·) = _; rw [intsD_map ns]; rfl
theorem intsD_eq : ∀ {ds : List D} {ns : List Int}, intsD ds = some ns → ds = ns.map .int
  | [], ns, h => by cases h; rfl
  | .int n :: ds, ns, h => by
    change (intsD ds).map (n :: ·) = some ns at h
    cases e : intsD ds with
    | none => rw [e] at h; cases h
    | some ks => rw [e] at h; cases h; rw [intsD_eq e]; rfl
  | .non :: _, _, h => by cases h
  | .bl _ :: _, _, h => by cases h
  | .str _ :: _, _, h => by cases h
  | .ty _ :: _, _, h => by cases h
  | .adr _ :: _, _, h => by cases h
  | .lst _ :: _, _, h => by cases h
  | .tup _ :: _, _, h => by cases h
  | .dct _ :: _, _, h => by cases h
  | .ins _ _ :: _, _, h => by cases h
  | .glb _ :: _, _, h => by cases h
  | .exc _ _ _ _ _ :: _, _, h => by cases h
theorem rpl_ints_back {K : PySem.W.Frag} {H : Hp} : ∀ {vs : List V} {ns : List Int}, RpL K H vs (ns.map .int) → vs = ns.map V.int
  | [], [], _ => rfl
  | [], _ :: _, h => by cases h
  | _ :: _, [], h => by cases h
  | v :: vs, n :: ns, h => by
    cases h with
    | cons q r => cases q; rw [rpl_ints_back r]; rfl
def asI (m : Mu) (x : D) : Option (List Int) := match asL m x with
  | some ds => intsD ds
  | none => none
theorem asI_rp {K : PySem.W.Frag} {F H0 H : Hp} {m : Mu} {v : V} {d : D} {ns : List Int} (ok : Ok K F H0 m H) (r : Rp K H0 v d) (h : asI m d = some ns) : ∃ p, v = .ref p ∧ SqL K H p (ns.map V.int) := by
  unfold asI at h
  split at h
  · rename_i ds e
    obtain ⟨p, vs, rfl, q, rv⟩ := asL_rp ok r e
    rw [intsD_eq h] at rv
    rw [rpl_ints_back rv] at q
    exact ⟨p, rfl, q⟩
  · cases h
theorem asI_lst {m : Mu} (ns : List Int) : asI m (.lst (ns.map .int)) = some ns := by
  show intsD (ns.map .int) = _
  exact intsD_map ns
theorem asI_adr {m : Mu} {q : Addr} {ns : List Int} (h : m q = some (.lst (ns.map .int))) : asI m (.adr q) = some ns := by
  unfold asI
  rw [asL_adr h]
  exact intsD_map ns
/-! ### rising lists -/
theorem asc_ext : ∀ {l k : List Int}, l.Pairwise (· < ·) → k.Pairwise (· < ·) → (∀ x, x ∈ l ↔ x ∈ k) → l = k
  | [], [], _, _, _ => rfl
  | [], b :: k, _, _, h => by have := (h b).mpr List.mem_cons_self; cases this
  | a :: l, [], _, _, h => by have := (h a).mp List.mem_cons_self; cases this
  | a :: l, b :: k, h1, h2, h => by
    obtain ⟨a1, a2⟩ := List.pairwise_cons.mp h1
    obtain ⟨b1, b2⟩ := List.pairwise_cons.mp h2
    have e : a = b := by
      have x := (h a).mp List.mem_cons_self
      have y := (h b).mpr List.mem_cons_self
      rcases List.mem_cons.mp x with x | x
      · exact x
      · rcases List.mem_cons.mp y with y | y
        · exact y.symm
        · have := b1 a x
          have := a1 b y
          omega
    subst e
    rw [asc_ext a2 b2 fun x => ?_]
    constructor
    · intro hx
      rcases List.mem_cons.mp ((h x).mp (List.mem_cons_of_mem _ hx)) with e | e
      · have := a1 x hx; omega
      · exact e
    · intro hx
      rcases List.mem_cons.mp ((h x).mpr (List.mem_cons_of_mem _ hx)) with e | e
      · have := b1 x hx; omega
      · exact e
def putU (n : Int) : List Int → List Int
  | [] => [n]
  | k :: ks => if n < k then n :: k :: ks else if n = k then k :: ks else k :: putU n ks
def srtU : List Int → List Int
  | [] => []
  | n :: ns => putU n (srtU ns)
theorem mem_putU (n x : Int) : ∀ l : List Int, x ∈ putU n l ↔ x = n ∨ x ∈ l
  | [] => by simp [putU]
  | k :: ks => by
    unfold putU
    split
    · simp
    · split
      · rename_i _ e; subst e; simp
      · simp only [List.mem_cons, mem_putU n x ks]
        constructor
        · rintro (h | h | h) <;> simp [h]
        · rintro (h | h | h) <;> simp [h]
theorem putU_asc (n : Int) : ∀ l : List Int, l.Pairwise (· < ·) → (putU n l).Pairwise (· < ·)
  | [], _ => by simp [putU]
  | k :: ks, h => by
    obtain ⟨h1, h2⟩ := List.pairwise_cons.mp h
    unfold putU
    split
    · rename_i hlt
      exact List.pairwise_cons.mpr ⟨fun x hx => by
        rcases List.mem_cons.mp hx with rfl | hx
        · exact hlt
        · have := h1 x hx; omega, h⟩
    · split
      · exact h
      · refine List.pairwise_cons.mpr ⟨fun x hx => ?_, putU_asc n ks h2⟩
        rcases (mem_putU n x ks).mp hx with rfl | hx
        · omega
        · exact h1 x hx
theorem srtU_asc : ∀ l : List Int, (srtU l).Pairwise (· < ·)
  | [] => List.Pairwise.nil
  | n :: ns => putU_asc n _ (srtU_asc ns)
theorem mem_srtU (x : Int) : ∀ l : List Int, x ∈ srtU l ↔ x ∈ l
  | [] => Iff.rfl
  | n :: ns => by rw [srtU, mem_putU, mem_srtU x ns, List.mem_cons]
theorem putU_len (n : Int) : ∀ l : List Int, (putU n l).length ≤ l.length + 1
  | [] => Nat.le_refl _
  | k :: ks => by
    have := putU_len n ks
    unfold putU
    split
    · simp
    · split
      · simp
      · simp only [List.length_cons]; omega
theorem srtU_len : ∀ l : List Int, (srtU l).length ≤ l.length
  | [] => Nat.le_refl _
  | n :: ns => Nat.le_trans (putU_len n _) (Nat.succ_le_succ (srtU_len ns))
def putI (n : Int) : List Int → List Int
  | [] => [n]
  | k :: ks => if n ≤ k then n :: k :: ks else k :: putI n ks
def srtI : List Int → List Int
  | [] => []
  | n :: ns => putI n (srtI ns)
theorem putI_perm (n : Int) : ∀ l : List Int, (putI n l).Perm (n :: l)
  | [] => List.Perm.refl _
  | k :: ks => by
    unfold putI
    split
    · exact List.Perm.refl _
    · exact ((putI_perm n ks).cons k).trans (List.Perm.swap _ _ _)
theorem srtI_perm : ∀ l : List Int, (srtI l).Perm l
  | [] => List.Perm.refl _
  | n :: ns => (putI_perm n _).trans ((srtI_perm ns).cons n)
theorem putI_asc (n : Int) : ∀ l : List Int, l.Pairwise (· ≤ ·) → (putI n l).Pairwise (· ≤ ·)
  | [], _ => by simp [putI]
  | k :: ks, h => by
    obtain ⟨h1, h2⟩ := List.pairwise_cons.mp h
    unfold putI
    split
    · rename_i hle
      exact List.pairwise_cons.mpr ⟨fun x hx => by
        rcases List.mem_cons.mp hx with rfl | hx
        · exact hle
        · have := h1 x hx; omega, h⟩
    · refine List.pairwise_cons.mpr ⟨fun x hx => ?_, putI_asc n ks h2⟩
      rcases List.mem_cons.mp ((putI_perm n ks).mem_iff.mp hx) with rfl | hx
      · omega
      · exact h1 x hx
theorem srtI_asc : ∀ l : List Int, (srtI l).Pairwise (· ≤ ·)
  | [] => List.Pairwise.nil
  | n :: ns => putI_asc n _ (srtI_asc ns)
theorem perm_asc_ext : ∀ {l k : List Int}, l.Perm k → l.Pairwise (· ≤ ·) → k.Pairwise (· ≤ ·) → l = k
  | [], k, h, _, _ => (List.nil_perm.mp h).symm
  | a :: l, [], h, _, _ => by have := h.length_eq; simp at this
  | a :: l, b :: k, h, h1, h2 => by
    obtain ⟨a1, a2⟩ := List.pairwise_cons.mp h1
    obtain ⟨b1, b2⟩ := List.pairwise_cons.mp h2
    have e : a = b := by
      have x := h.mem_iff.mp (List.mem_cons_self (a := a) (l := l))
      have y := h.mem_iff.mpr (List.mem_cons_self (a := b) (l := k))
      rcases List.mem_cons.mp x with x | x
      · exact x
      · rcases List.mem_cons.mp y with y | y
        · exact y.symm
        · have := b1 a x
          have := a1 b y
          omega
    subst e
    rw [perm_asc_ext (List.Perm.cons_inv h) a2 b2]
section
variable {X : Cx} {W : WX} {a b c tg : Expr} {ra rb rc : DE} {pos p : Pos} {e : Expr} {es : List Expr} {qs : DA}
/-! ### sorted(set(xs)), fewer than 64 -/
def rSrtS (qs : DA) : DE := fun δ m P PX => qs δ m (fun xs m1 => match xs with
  | [x] => match asI m1 x with
    | some ns => ns.length < 64 ∧ P (.lst ((srtU ns).map .int)) m1
    | none => False
  | _ => False) PX
theorem srtS_core {σ : St} {H : Hp} {Q : VK} {K : PySem.W.Frag} {w : World} (h : lE K W (rSrtS qs) σ H Q) : tCB (rSortedSet w) (fun σ H R => (tCB (rSetL K w) (lA K W qs)) σ H fun x H1 => R [x] H1) σ H Q := by
  obtain ⟨F, H0, m, δ, P, PX, ok, rs, h, g, gx⟩ := h
  refine ⟨F, H0, m, δ, _, PX, ok, rs, h, fun xs H1 H01 m1 ds s1 ok1 r1 h1 => ?_, gx⟩
  dsimp only at h1
  split at h1
  · rename_i x
    split at h1
    · rename_i ns e1
      obtain ⟨v, rfl, q⟩ := r1.one
      obtain ⟨pa, rfl, hq⟩ := asI_rp ok1 q e1
      refine ⟨pa, ns, rfl, hq, by omega, fun p c hc hp => ⟨p, _, c, rfl, upd_same, by omega, fun ks l h2 h3 h4 hl => ?_⟩⟩
      have e : ks = srtU ns := asc_ext h2 (srtU_asc ns) fun k => by rw [h3, mem_srtU]; simp
      subst e
      have ok2 := ok1.new hp (SetO w p (fun j => decide (j ∈ ns)) c)
      exact (g.mono (s1.trans (same_new (ok1.free hp).1))).lst ok2 hl (rpl_ints _) h1.2
    · exact h1.elim
  · exact h1.elim
theorem pd_srtS {p2 q2 : Pos} (hc : X.calm = true) (hm1 : X.mg "sorted" = none) (hm2 : X.mg "set" = none) (hv1 : bootBuiltins "sorted" = some (.builtin "sorted")) (hv2 : bootBuiltins "set" = some (.type "set")) (ha : PA X (e :: es) (lA X.K W qs))
    (hg1 : Gl X "sorted" := by rfl) (hg2 : Gl X "set" := by rfl) (he : starEach (e :: es) X.env = (false, eval e X.env) :: starEach es X.env := by rfl) (hpl : (backTo q2 (starEach es X.env)).any (·.1) = false := by rfl)
    (he2 : starEach [.Call (.Name "set" p2) (e :: es) [] q2] X.env = (false, eval (.Call (.Name "set" p2) (e :: es) [] q2) X.env) :: starEach [] X.env := by rfl) (hpl2 : (backTo pos (starEach [] X.env)).any (·.1) = false := by rfl) :
    PE X (.Call (.Name "sorted" p) [.Call (.Name "set" p2) (e :: es) [] q2] [] pos) (lE X.K W (rSrtS qs)) :=
  PE.imp (pe_callB (cr_sortedSet hc) hg1 hm1 hv1 (pa_cons (pe_callTy (cr_setL hc) hg2 hm2 hv2 ha (by decide) (by decide) he hpl) pa_nil he2) (by decide) (by decide) he2 hpl2) fun _ _ _ h => srtS_core h
/-! ### sorted(xs), min(xs), max(xs), sum(xs) of whole numbers -/
def cSrt : DC := fun xs m P => match xs with
  | [x] => match asI m x with
    | some ns => P (.lst ((srtI ns).map .int)) m
    | none => False
  | _ => False
theorem srt_ok {K : PySem.W.Frag} : CalD K (rSortedI K) cSrt := by
  intro F H0 m H vs ds P Q ok r h g
  unfold cSrt at h
  split at h
  · split at h
    · rename_i ns e1
      obtain ⟨v, rfl, q⟩ := r.one
      obtain ⟨pa, rfl, hq⟩ := asI_rp ok q e1
      refine ⟨pa, ns, rfl, hq, fun ks l h1 h2 hl => ?_⟩
      have e : ks = srtI ns := perm_asc_ext (h1.trans (srtI_perm ns).symm) h2 (srtI_asc ns)
      subst e
      exact g.lst ok hl (rpl_ints _) h
    · exact h.elim
  · exact h.elim
theorem pd_srt {x : Str} (hm : X.mg x = none) (hv : bootBuiltins x = some (.builtin "sorted")) (ha : PA X (e :: es) (lA X.K W qs)) (hg : Gl X x := by rfl) (hn : x ≠ "__name__" := by decide) (hdb : (x == ("__debug__" : Str)) = false := by decide)
    (he : starEach (e :: es) X.env = (false, eval e X.env) :: starEach es X.env := by rfl) (hpl : (backTo pos (starEach es X.env)).any (·.1) = false := by rfl) : PE X (.Call (.Name x p) (e :: es) [] pos) (lE X.K W (rCB cSrt qs)) := pd_callB cr_sortedI srt_ok hm hv ha hg hn hdb he hpl
def leastI : Int → List Int → Int
  | n, [] => n
  | n, k :: ks => leastI (if k < n then k else n) ks
def mostI : Int → List Int → Int
  | n, [] => n
  | n, k :: ks => mostI (if n < k then k else n) ks
theorem leastI_spec : ∀ (ks : List Int) (n : Int), leastI n ks ∈ n :: ks ∧ ∀ x ∈ n :: ks, leastI n ks ≤ x
  | [], n => ⟨List.mem_cons_self, fun x hx => by rw [List.mem_singleton.mp hx]; exact Int.le_refl _⟩
  | k :: ks, n => by
    obtain ⟨h1, h2⟩ := leastI_spec ks (if k < n then k else n)
    unfold leastI
    have hb : (if k < n then k else n) ≤ n ∧ (if k < n then k else n) ≤ k := by split <;> omega
    have h3 := h2 _ List.mem_cons_self
    refine ⟨?_, fun x hx => ?_⟩
    · rcases List.mem_cons.mp h1 with h | h
      · rw [h]; split <;> simp
      · simp [h]
    · rcases List.mem_cons.mp hx with rfl | hx
      · omega
      · rcases List.mem_cons.mp hx with rfl | hx
        · omega
        · exact h2 x (List.mem_cons_of_mem _ hx)
theorem mostI_spec : ∀ (ks : List Int) (n : Int), mostI n ks ∈ n :: ks ∧ ∀ x ∈ n :: ks, x ≤ mostI n ks
  | [], n => ⟨List.mem_cons_self, fun x hx => by rw [List.mem_singleton.mp hx]; exact Int.le_refl _⟩
  | k :: ks, n => by
    obtain ⟨h1, h2⟩ := mostI_spec ks (if n < k then k else n)
    unfold mostI
    have hb : n ≤ (if n < k then k else n) ∧ k ≤ (if n < k then k else n) := by split <;> omega
    have h3 := h2 _ List.mem_cons_self
    refine ⟨?_, fun x hx => ?_⟩
    · rcases List.mem_cons.mp h1 with h | h
      · rw [h]; split <;> simp
      · simp [h]
    · rcases List.mem_cons.mp hx with rfl | hx
      · omega
      · rcases List.mem_cons.mp hx with rfl | hx
        · omega
        · exact h2 x (List.mem_cons_of_mem _ hx)
def cMin : DC := fun xs m P => match xs with
  | [x] => match asI m x with
    | some (n :: ns) => P (.int (leastI n ns)) m
    | _ => False
  | [.int i, .int j] => P (.int (if j < i then j else i)) m
  | _ => False
theorem min_ok {K : PySem.W.Frag} : CalD K (fun xs H Q => rMin K xs H Q ∨ ∃ i j, xs = [.int i, .int j] ∧ Q (.int (if j < i then j else i)) H) cMin := by
  intro F H0 m H vs ds P Q ok r h g
  unfold cMin at h
  split at h
  · split at h
    · rename_i n ns e1
      obtain ⟨v, rfl, q⟩ := r.one
      obtain ⟨pa, rfl, hq⟩ := asI_rp ok q e1
      obtain ⟨l1, l2⟩ := leastI_spec ns n
      refine .inl ⟨pa, _, rfl, hq, by simp, fun k h1 h2 => ?_⟩
      have e : k = leastI n ns := Int.le_antisymm (h2 _ l1) (l2 _ h1)
      rw [e]
      exact g.id ok (.int _) h
    · exact h.elim
  · obtain ⟨v, w, rfl, q1, q2⟩ := r.two
    cases q1; cases q2
    exact .inr ⟨_, _, rfl, g.id ok (.int _) h⟩
  · exact h.elim
def cMax : DC := fun xs m P => match xs with
  | [x] => match asI m x with
    | some (n :: ns) => P (.int (mostI n ns)) m
    | _ => False
  | [.int i, .int j] => P (.int (if j > i then j else i)) m
  | _ => False
theorem max_ok {K : PySem.W.Frag} : CalD K (fun xs H Q => rMax K xs H Q ∨ ∃ i j, xs = [.int i, .int j] ∧ Q (.int (if j > i then j else i)) H) cMax := by
  intro F H0 m H vs ds P Q ok r h g
  unfold cMax at h
  split at h
  · split at h
    · rename_i n ns e1
      obtain ⟨v, rfl, q⟩ := r.one
      obtain ⟨pa, rfl, hq⟩ := asI_rp ok q e1
      obtain ⟨l1, l2⟩ := mostI_spec ns n
      refine .inl ⟨pa, _, rfl, hq, by simp, fun k h1 h2 => ?_⟩
      have e : k = mostI n ns := Int.le_antisymm (l2 _ h1) (h2 _ l1)
      rw [e]
      exact g.id ok (.int _) h
    · exact h.elim
  · obtain ⟨v, w, rfl, q1, q2⟩ := r.two
    cases q1; cases q2
    exact .inr ⟨_, _, rfl, g.id ok (.int _) h⟩
  · exact h.elim
theorem CallR.or {f : Value} {r r2 : List V → Hp → VK → Prop} (h1 : CallR X f r) (h2 : CallR X f r2) : CallR X f (fun xs H Q => r xs H Q ∨ r2 xs H Q) := by
  intro pins s σ H vs us Q I rv h
  rcases h with h | h
  · exact h1 pins s σ H vs us Q I rv h
  · exact h2 pins s σ H vs us Q I rv h
theorem pd_min {x : Str} (hc : X.calm = true) (hm : X.mg x = none) (hv : bootBuiltins x = some (.builtin "min")) (ha : PA X (e :: es) (lA X.K W qs)) (hg : Gl X x := by rfl) (hn : x ≠ "__name__" := by decide) (hdb : (x == ("__debug__" : Str)) = false := by decide)
    (he : starEach (e :: es) X.env = (false, eval e X.env) :: starEach es X.env := by rfl) (hpl : (backTo pos (starEach es X.env)).any (·.1) = false := by rfl) : PE X (.Call (.Name x p) (e :: es) [] pos) (lE X.K W (rCB cMin qs)) := pd_callB ((cr_min hc).or (call_min2 hc)) min_ok hm hv ha hg hn hdb he hpl
theorem pd_max {x : Str} (hc : X.calm = true) (hm : X.mg x = none) (hv : bootBuiltins x = some (.builtin "max")) (ha : PA X (e :: es) (lA X.K W qs)) (hg : Gl X x := by rfl) (hn : x ≠ "__name__" := by decide) (hdb : (x == ("__debug__" : Str)) = false := by decide)
    (he : starEach (e :: es) X.env = (false, eval e X.env) :: starEach es X.env := by rfl) (hpl : (backTo pos (starEach es X.env)).any (·.1) = false := by rfl) : PE X (.Call (.Name x p) (e :: es) [] pos) (lE X.K W (rCB cMax qs)) := pd_callB ((cr_max hc).or (call_max2 hc)) max_ok hm hv ha hg hn hdb he hpl
def cSum : DC := fun xs m P => match xs with
  | [x] => match asI m x with
    | some ns => P (.int ns.sum) m
    | none => False
  | _ => False
theorem sum_ok {K : PySem.W.Frag} : CalD K (rSum K) cSum := by
  intro F H0 m H vs ds P Q ok r h g
  unfold cSum at h
  split at h
  · split at h
    · rename_i ns e1
      obtain ⟨v, rfl, q⟩ := r.one
      obtain ⟨pa, rfl, hq⟩ := asI_rp ok q e1
      exact ⟨pa, ns, rfl, hq, g.id ok (.int _) h⟩
    · exact h.elim
  · exact h.elim
theorem pd_sum {x : Str} (hc : X.calm = true) (hm : X.mg x = none) (hv : bootBuiltins x = some (.builtin "sum")) (ha : PA X (e :: es) (lA X.K W qs)) (hg : Gl X x := by rfl) (hn : x ≠ "__name__" := by decide) (hdb : (x == ("__debug__" : Str)) = false := by decide)
    (he : starEach (e :: es) X.env = (false, eval e X.env) :: starEach es X.env := by rfl) (hpl : (backTo pos (starEach es X.env)).any (·.1) = false := by rfl) : PE X (.Call (.Name x p) (e :: es) [] pos) (lE X.K W (rCB cSum qs)) := pd_callB (cr_sum hc) sum_ok hm hv ha hg hn hdb he hpl
/-! ### xs.clear() -/
def rClr (ra : DE) : DE := fun δ m P PX => ra δ m (fun x m1 => match x with
  | .adr q => match m1 q with
    | some (.lst _) => P .non (mset m1 q (.lst []))
    | _ => False
  | _ => False) PX
theorem pd_clr {apos : Pos} (ho : PE X a (lE X.K W ra)) (hbase : attributeBase a "clear" X.env (eval a X.env) = eval a X.env := by rfl) (hline : (apos.endLine == pos.line) = true := by rfl) : PE X (.Call (.Attribute a "clear" apos) [] [] pos) (lE X.K W (rClr ra)) := by
  refine PE.imp (pe_bm0 PySem.F.plainAttrs_list PySem.F.slot_list_clear PySem.F.type_list_clear mt_clear ho hbase hline) fun σ H Q h => ?_
  obtain ⟨F, H0, m, δ, P, PX, ok, rs, h, g, gx⟩ := h
  refine ⟨F, H0, m, δ, _, PX, ok, rs, h, fun x H1 H01 m1 d s1 ok1 r1 h1 => ?_, gx⟩
  dsimp only at h1
  split at h1
  · rename_i q
    split at h1
    · rename_i ds e1
      cases r1
      obtain ⟨_, vs, hv1, rv⟩ := ok1.cell q _ e1
      exact ⟨.inl ⟨rfl, vs, SqL.of hv1⟩, q, vs, rfl, rfl, hv1, g _ _ _ _ _ s1 (ok1.write e1 (o := .lst []) ⟨[], upd_same, .nil⟩) .non h1⟩
    · exact h1.elim
  · exact h1.elim
/-! ### xs + ys as a list of our own -/
def oAddM : DO := fun x y m P => match asL m x, asL m y with
  | some i, some j => i.length + j.length ≤ sizeLine ∧ ∀ q, m q = none → P (.adr q) (mset m q (.lst (i ++ j)))
  | _, _ => False
theorem addM_ok {K : PySem.W.Frag} : OpD K (rCatQ K) oAddM := by
  intro F H0 m H x y dx dy P Q ok rx ry h g
  unfold oAddM at h
  split at h
  · rename_i i j e1 e2
    obtain ⟨p1, v1, rfl, q1, r1⟩ := asL_rp ok rx e1
    obtain ⟨p2, v2, rfl, q2, r2⟩ := asL_rp ok ry e2
    exact ⟨p1, p2, v1, v2, rfl, rfl, q1, q2, by rw [r1.length, r2.length]; exact h.1, fun l hl => g.lstM ok hl (r1.append r2) h.2⟩
  · exact h.elim
theorem pd_addM (ha : PE X a (lE X.K W ra)) (hb : PE X b (lE X.K W rb)) : PE X (.BinOp a .Add b pos) (lE X.K W (rOp oAddM ra rb)) := pd_op op_catQ addM_ok ha hb
/-! ### a, b = e -/
def sTup (js : List Nat) (ra : DE) : DS := fun DD δ m => ra δ m (fun d m1 => gT js d δ m1 DD.nx) fun c fs m1 => DD.xx c fs δ m1
theorem ds_tup {g : TG} {js : List Nat} (ha : PE X a (lE X.K W ra)) (hg : PG X tg g) (go : Gok X.K js g (gT js)) (hs : swapsWithSole [tg] a pos.line X.env = pure false := by rfl) (hw : swappedStores [tg] a X.env = pure none := by rfl) (h1 : (assignEach [tg] X.env).map (·.2) = [assign tg X.env] := by rfl) :
    PS X (.Assign [tg] a pos) (lS X.K W (sTup js ra)) := by
  refine PS.imp (ps_asg ha hg hs hw h1) fun Dn σ H h => ?_
  obtain ⟨F, H0, m, δ, DD, ok, rs, h, gd⟩ := h
  exact ⟨F, H0, m, δ, _, _, ok, rs, h, fun v H1 H01 m1 d s1 ok1 r1 h1 => go F H01 m1 H1 σ δ v d _ _ ok1 (rs.mono s1) r1 h1 fun σ' δ' rs' _ h2 => gd.nx _ _ _ _ _ s1 ok1 rs' h2, gd.xx.at_ rs⟩
/-! ### [e for .. for ..] -/
theorem wipe_more {σ σ' : St} {js vs : List Nat} (h : wipe σ' js = wipe σ js) (hs : ∀ i ∈ js, i ∈ vs) : wipe σ' vs = wipe σ vs := by
  have hl : σ'.length = σ.length := by
    have := congrArg List.length h
    rwa [wipe_length, wipe_length] at this
  refine wipe_same hl fun i hi => ?_
  have h2 : (wipe σ' js)[i]? = (wipe σ js)[i]? := by rw [h]
  rw [wipe_get, wipe_get, if_neg fun z => hi (hs i z.1), if_neg fun z => hi (hs i z.1)] at h2
  exact h2
def rComp20 (Ph : Mu → Prop) (rg : DG) (qt : DT) (ri1 : DI) (js1 : List Nat) (rg1 : DG) (qt1 : DT) (re : DE) (δ : DSt) (P : List D → Mu → Prop) : List D → List D → Mu → Prop
  | [], acc, m => Ph m ∧ P acc m
  | d :: ds, acc, m => Ph m ∧ rg d δ m fun δ' m' => qt δ' m' (fun k m1 => match k with
    | true => ri1 δ' m1 (fun Ph1 ds1 m2 => rComp Ph1 rg1 qt1 re (wipeD δ' js1) (fun acc' m3 => rComp20 Ph rg qt ri1 js1 rg1 qt1 re δ P ds acc' m3) ds1 acc m2) noX
    | false => rComp20 Ph rg qt ri1 js1 rg1 qt1 re δ P ds acc m1) noX
@[irreducible] def rComp2 (Ph : Mu → Prop) (rg : DG) (qt : DT) (ri1 : DI) (js1 : List Nat) (rg1 : DG) (qt1 : DT) (re : DE) (δ : DSt) (P : List D → Mu → Prop) (ds acc : List D) (m : Mu) : Prop := rComp20 Ph rg qt ri1 js1 rg1 qt1 re δ P ds acc m
section
variable {Ph : Mu → Prop} {rg rg1 : DG} {qt qt1 : DT} {ri1 : DI} {js1 : List Nat} {re : DE} {δ : DSt} {P : List D → Mu → Prop} {acc : List D} {m : Mu} {d : D} {ds : List D}
theorem rComp2_nil : rComp2 Ph rg qt ri1 js1 rg1 qt1 re δ P [] acc m = (Ph m ∧ P acc m) := by unfold rComp2; rfl
theorem rComp2_cons : rComp2 Ph rg qt ri1 js1 rg1 qt1 re δ P (d :: ds) acc m = (Ph m ∧ rg d δ m fun δ' m' => qt δ' m' (fun k m1 => match k with
    | true => ri1 δ' m1 (fun Ph1 ds1 m2 => rComp Ph1 rg1 qt1 re (wipeD δ' js1) (fun acc' m3 => rComp2 Ph rg qt ri1 js1 rg1 qt1 re δ P ds acc' m3) ds1 acc m2) noX
    | false => rComp2 Ph rg qt ri1 js1 rg1 qt1 re δ P ds acc m1) noX) := by
  have e : rComp2 Ph rg qt ri1 js1 rg1 qt1 re δ P ds = rComp20 Ph rg qt ri1 js1 rg1 qt1 re δ P ds := by funext acc m; unfold rComp2; rfl
  rw [e]
  unfold rComp2
  rfl
end
def rLc2 (ri : DI) (js : List Nat) (rg : DG) (qt : DT) (ri1 : DI) (js1 : List Nat) (rg1 : DG) (qt1 : DT) (re : DE) : DE := fun δ m P PX => ri δ m (fun Ph ds m1 => rComp2 Ph rg qt ri1 js1 rg1 qt1 re (wipeD δ js) (fun acc m2 => P (.lst acc) m2) ds [] m1) PX
theorem lc2_lift {K : PySem.W.Frag} {ri ri1 : DI} {g g1 : TG} {rg rg1 : DG} {qt qt1 : DT} {re : DE} {js jo js1 : List Nat} {Pf : DK → List D → Mu → Prop} (go : Gok K jo g rg) (hjo : ∀ i ∈ jo, i ∈ js) (go1 : Gok K js1 g1 rg1)
    (fin : ∀ F H0 m H q vs acc P Q, Ok K F H0 m H → H q = some (.lst vs) → H0 q = none → m q = none → F q = none → RpL K H0 vs acc → Pf P acc m → GV K F H0 P Q → Q (.ref q) H)
    {σ : St} {H : Hp} {Q : VK} (h : lE K W (fun δ m P PX => ri δ m (fun Ph ds m1 => rComp2 Ph rg qt ri1 js1 rg1 qt1 re (wipeD δ js) (Pf P) ds [] m1) PX) σ H Q) : tLc2 (lI K W ri) g (lT K noW qt) (lI K noW ri1) g1 (lT K noW qt1) (lE K noW re) js js1 σ H Q := by
  obtain ⟨F, H0, m, δ, P, PX, ok, rs, h, gv, gx⟩ := h
  refine ⟨F, H0, m, δ, _, _, ok, rs, h, fun J H1 H01 m1 Ph ds s1 ok1 it ph h1 q hq => ?_, gx⟩
  have hF : F q = none := ok1.freeF hq
  refine ⟨fun i k H' => ∃ H0' m' vs acc, Same H01 H0' ∧ Ok K (upd F q (.lst vs)) H0' m' H' ∧ RpL K H0' vs acc ∧ i + k = ds.length ∧ rComp2 Ph rg qt ri1 js1 rg1 qt1 re (wipeD δ js) (Pf P) (ds.drop i) acc m', ⟨ds.length, H01, m1, [], [], Same.refl _, ok1.addF hq, .nil, by omega, h1⟩, ?_⟩
  rintro i k H2 ⟨H02, m2, vs, acc, s2, ok2, rl, hik, h2⟩
  by_cases hlt : i < ds.length
  · have e1 : ds[i]? = some ds[i] := List.getElem?_eq_getElem hlt
    rw [List.drop_eq_getElem_cons hlt, rComp2_cons] at h2
    obtain ⟨ph2, h2⟩ := h2
    obtain ⟨go0, yl⟩ := (it _ i H2 H02 m2 s2 ok2 ph2).1 _ e1
    refine .inr ⟨go0, fun H' => ∃ H0' m' vs acc, Same H01 H0' ∧ Ok K (upd F q (.lst vs)) H0' m' H' ∧ RpL K H0' vs acc ∧ rComp2 Ph rg qt ri1 js1 rg1 qt1 re (wipeD δ js) (Pf P) (ds.drop (i + 1)) acc m', fun H' hN => ?_, fun x H' y => ?_⟩
    · obtain ⟨H0', m', vs', acc', z1, z2, z3, z4⟩ := hN
      exact ⟨k - 1, by omega, H0', m', vs', acc', z1, z2, z3, by omega, z4⟩
    · obtain ⟨H03, s3, ok3, r3⟩ := yl x H' y
      have rs3 := (rs.wipe js).mono (s1.trans (s2.trans s3))
      refine go _ H03 m2 H' _ _ x _ _ _ ok3 rs3 r3 h2 fun σ4 δ4 rs4 hw4 h4 => ⟨by rw [wipe_more hw4 hjo, wipe_twice], ?_⟩
      refine ⟨_, H03, m2, δ4, _, noX, ok3, rs4, h4, fun b H5 H05 m5 s5 ok5 h5 => ?_, fun _ _ _ _ _ _ _ _ _ z => z⟩
      cases b with
      | false =>
        rw [if_neg Bool.false_ne_true]
        exact ⟨H05, m5, vs, acc, (s2.trans s3).trans s5, ok5, (rl.mono s3).mono s5, h5⟩
      | true =>
        rw [if_pos rfl]
        refine ⟨_, H05, m5, δ4, _, noX, ok5, rs4.mono s5, h5, fun J1 H6 H06 m6 Ph1 ds1 s6 ok6 it1 ph1 h6 => ?_, fun _ _ _ _ _ _ _ _ _ z => z⟩
        have rl6 := ((rl.mono s3).mono s5).mono s6
        have s06 := ((s2.trans s3).trans s5).trans s6
        refine ⟨fun j k H' => ∃ H0' m' vs acc, Same H06 H0' ∧ Ok K (upd F q (.lst vs)) H0' m' H' ∧ RpL K H0' vs acc ∧ j + k = ds1.length ∧ rComp Ph1 rg1 qt1 re (wipeD δ4 js1) (fun acc' m3 => rComp2 Ph rg qt ri1 js1 rg1 qt1 re (wipeD δ js) (Pf P) (ds.drop (i + 1)) acc' m3) (ds1.drop j) acc m', ⟨ds1.length, H06, m6, vs, acc, Same.refl _, ok6, rl6, by omega, h6⟩, ?_⟩
        rintro j k1 H7 ⟨H07, m7, vs7, acc7, s7, ok7, rl7, hjk, h7⟩
        by_cases hlt1 : j < ds1.length
        · have e2 : ds1[j]? = some ds1[j] := List.getElem?_eq_getElem hlt1
          rw [List.drop_eq_getElem_cons hlt1, rComp_cons] at h7
          obtain ⟨ph7, h7⟩ := h7
          obtain ⟨go2, yl1⟩ := (it1 _ j H7 H07 m7 s7 ok7 ph7).1 _ e2
          refine .inr ⟨go2, fun H' => ∃ H0' m' vs acc, Same H06 H0' ∧ Ok K (upd F q (.lst vs)) H0' m' H' ∧ RpL K H0' vs acc ∧ rComp Ph1 rg1 qt1 re (wipeD δ4 js1) (fun acc' m3 => rComp2 Ph rg qt ri1 js1 rg1 qt1 re (wipeD δ js) (Pf P) (ds.drop (i + 1)) acc' m3) (ds1.drop (j + 1)) acc m', fun H' hN => ?_, fun x1 H' y1 => ?_⟩
          · obtain ⟨H0', m', vs', acc', z1, z2, z3, z4⟩ := hN
            exact ⟨k1 - 1, by omega, H0', m', vs', acc', z1, z2, z3, by omega, z4⟩
          · obtain ⟨H08, s8, ok8, r8⟩ := yl1 x1 H' y1
            have rs8 := ((((rs4.mono s5).mono s6).wipe js1).mono s7).mono s8
            refine go1 _ H08 m7 H' _ _ x1 _ _ _ ok8 rs8 r8 h7 fun σ9 δ9 rs9 hw9 h9 => ⟨by rw [hw9, wipe_twice], ?_⟩
            refine ⟨_, H08, m7, δ9, _, noX, ok8, rs9, h9, fun b H10 H010 m10 s10 ok10 h10 => ?_, fun _ _ _ _ _ _ _ _ _ z => z⟩
            cases b with
            | false =>
              rw [if_neg Bool.false_ne_true]
              exact ⟨H010, m10, vs7, acc7, (s7.trans s8).trans s10, ok10, (rl7.mono s8).mono s10, h10⟩
            | true =>
              rw [if_pos rfl]
              refine ⟨_, H010, m10, δ9, _, noX, ok10, rs9.mono s10, h10, fun y2 H11 H011 m11 d11 s11 ok11 r11 h11 => ?_, fun _ _ _ _ _ _ _ _ _ z => z⟩
              have rl11 := ((rl7.mono s8).mono s10).mono s11
              exact ⟨vs7, (ok11.fr q _ upd_same).1, by rw [rl11.length]; exact h11.1, H011, m11, vs7 ++ [y2], acc7 ++ [d11], ((s7.trans s8).trans s10).trans s11, ok11.reF, rl11.snoc r11, h11.2⟩
        · have e : j = ds1.length := by omega
          subst e
          rw [List.drop_length, rComp_nil] at h7
          exact .inl ⟨(it1 _ _ H7 H07 m7 s7 ok7 h7.1).2 rfl, H07, m7, vs7, acc7, s06.trans s7, ok7, rl7, h7.2⟩
  · have e : i = ds.length := by omega
    subst e
    rw [List.drop_length, rComp2_nil] at h2
    obtain ⟨ok3, z1, z2, z3⟩ := ok2.unframe hF
    exact .inl ⟨(it _ _ H2 H02 m2 s2 ok2 h2.1).2 rfl, fin F H02 m2 H2 q vs acc P Q ok3 z1 z2 z3 hF rl h2.2 (gv.mono (s1.trans s2))⟩
variable {ifs ifs1 : List Expr} {scope : Scope} {own : List (Str × Nat)} {ri ri1 : DI} {g g1 : TG} {rg rg1 : DG} {qt qt1 : DT} {re : DE} {tg1 : Expr}
theorem pd_lc2 {elt iter iter1 : Expr} {js jo js1 : List Nat} (hc : X.calm = true) (hN : X.N.Nodup) (hi : PI X tg iter (lI X.K W ri)) (ok : BlkOk X.N X.env.scope scope own) (go : Gok X.K jo g rg) (go1 : Gok X.K js1 g1 rg1) (hj : own.map (·.2) = js)
    (hg : ∀ (s : Shared) (H : Hp) (C : Addr) (cl : List (Str × Addr)) (fp : List Addr), PG (X.blk s H scope (compEnvC scope cl C X.env) fp) tg g) (ht : ∀ (s : Shared) (H : Hp) (C : Addr) (cl : List (Str × Addr)) (fp : List Addr), PTs (X.blk s H scope (compEnvC scope cl C X.env) fp) ifs (lT X.K noW qt))
    (hi1 : ∀ (s : Shared) (H : Hp) (C : Addr) (cl : List (Str × Addr)) (fp : List Addr), PI (X.blk s H scope (compEnvC scope cl C X.env) fp) tg1 iter1 (lI X.K noW ri1))
    (hg1 : ∀ (s : Shared) (H : Hp) (C : Addr) (cl : List (Str × Addr)) (fp : List Addr), PG (X.blk s H scope (compEnvC scope cl C X.env) fp) tg1 g1) (ht1 : ∀ (s : Shared) (H : Hp) (C : Addr) (cl : List (Str × Addr)) (fp : List Addr), PTs (X.blk s H scope (compEnvC scope cl C X.env) fp) ifs1 (lT X.K noW qt1))
    (he : ∀ (s : Shared) (H : Hp) (C : Addr) (cl : List (Str × Addr)) (fp : List Addr), PE (X.blk s H scope (compEnvC scope cl C X.env) fp) elt (lE X.K noW re)) (hjo : ∀ i ∈ jo, i ∈ js := by decide) (hj1 : ∀ i ∈ js1, i ∈ js := by decide) (hs : ∀ x, foldedSetIterable iter X.env x = pure x := by intro _; rfl) (hs1 : ∀ env x, foldedSetIterable iter1 env x = pure x := by intro _ _; rfl) :
    PE X (.ListComp elt [⟨tg, iter, ifs, 0⟩, ⟨tg1, iter1, ifs1, 0⟩] scope pos) (lE X.K W (rLc2 ri js rg qt ri1 js1 rg1 qt1 re)) := by
  subst hj
  exact PE.imp (pe_lc2 hc hN hi ok hj1 hg ht hi1 hg1 ht1 he hs hs1) fun _ _ _ h => lc2_lift go hjo go1 lc_fin h
theorem pd_lcM {elt iter : Expr} {js : List Nat} (hc : X.calm = true) (hN : X.N.Nodup) (hi : PI X tg iter (lI X.K W ri)) (ok : BlkOk X.N X.env.scope scope own) (go : Gok X.K js g rg) (hj : own.map (·.2) = js)
    (hg : ∀ (s : Shared) (H : Hp) (C : Addr) (cl : List (Str × Addr)) (fp : List Addr), PG (X.blk s H scope (compEnvC scope cl C X.env) fp) tg g) (ht : ∀ (s : Shared) (H : Hp) (C : Addr) (cl : List (Str × Addr)) (fp : List Addr), PTs (X.blk s H scope (compEnvC scope cl C X.env) fp) ifs (lT X.K noW qt))
    (he : ∀ (s : Shared) (H : Hp) (C : Addr) (cl : List (Str × Addr)) (fp : List Addr), PE (X.blk s H scope (compEnvC scope cl C X.env) fp) elt (lE X.K noW re)) (hs : ∀ x, foldedSetIterable iter X.env x = pure x := by intro _; rfl) :
    PE X (.ListComp elt [⟨tg, iter, ifs, 0⟩] scope pos) (lE X.K W (rLcM ri js rg qt re)) := by
  subst hj
  exact PE.imp (pe_lc hc hN hi ok hg ht he hs) fun _ _ _ h => lc_lift go lc_finM h
end
end DL

namespace DL
open PySem L2
/-! ### what the written part holds, by a look that computes -/
def clsAddr (K : PySem.W.Frag) (n : Str) : Option Addr := match PySem.W.nsIn K mainGlobals n with
  | some (some (.ref C)) => some C
  | _ => none
theorem clsAddr_ok {K : PySem.W.Frag} {n : Str} {C : Addr} (h : clsAddr K n = some C) : ClsAt K n C := by
  unfold clsAddr at h
  split at h
  · rename_i e; cases h; exact e
  · cases h
theorem ClsAt.addr {K : PySem.W.Frag} {n : Str} {C : Addr} (h : ClsAt K n C) : clsAddr K n = some C := by unfold clsAddr; rw [h]
theorem ClsAt.uniq {K : PySem.W.Frag} {n : Str} {C C' : Addr} (h : ClsAt K n C) (h' : ClsAt K n C') : C = C' := by
  have := h.addr.symm.trans h'.addr
  cases this; rfl
def clsB (K : PySem.W.Frag) (n : Str) : Bool := match clsAddr K n with
  | some C => PySem.W.plainGet K C Str.empty && PySem.W.hasDictIn K C && PySem.W.plainOver K C && decide (PySem.W.findIn K (.ref C) "__setattr__" = some (some (.builtin "object.__setattr__")))
  | none => false
/-- an own class of plain instances -/
structure ClsF (K : PySem.W.Frag) (n : Str) : Prop where
  ok : ∀ C, ClsAt K n C → Cls K C
theorem clsB_ok {K : PySem.W.Frag} {n : Str} (h : clsB K n = true) : ClsF K n := ⟨fun C hC => by
  unfold clsB at h
  rw [hC.addr] at h
  simp only [Bool.and_eq_true, decide_eq_true_eq] at h
  exact ⟨h.1.1.1, h.1.1.2, h.1.2, h.2⟩⟩
/-- a field of it -/
structure FldF (K : PySem.W.Frag) (n f : Str) : Prop where
  ok : ∀ C, ClsAt K n C → Cls K C ∧ NoAttr K C f
def fldB (K : PySem.W.Frag) (n f : Str) : Bool := clsB K n && match clsAddr K n with
  | some C => decide (PySem.W.findIn K (.ref C) f = some none)
  | none => false
theorem fldB_ok {K : PySem.W.Frag} {n f : Str} (h : fldB K n f = true) : FldF K n f := ⟨fun C hC => by
  unfold fldB at h
  rw [Bool.and_eq_true, hC.addr] at h
  exact ⟨(clsB_ok h.1).ok C hC, show PySem.W.findIn K (.ref C) f = some none from of_decide_eq_true h.2⟩⟩
/-! ### fields -/
def putFd (f : Str) (v : D) : List (Str × D) → List (Str × D)
  | [] => [(f, v)]
  | (g, x) :: r => if g = f then (g, v) :: r else (g, x) :: putFd f v r
theorem put_rp {K : PySem.W.Frag} {H : Hp} {f : Str} {v : V} {d : D} (q : Rp K H v d) : ∀ {fv : List (Str × V)} {fs : List (Str × D)}, fv.map (·.1) = fs.map (·.1) → RpL K H (fv.map (·.2)) (fs.map (·.2)) → (putF f v fv).map (·.1) = (putFd f d fs).map (·.1) ∧ RpL K H ((putF f v fv).map (·.2)) ((putFd f d fs).map (·.2))
  | [], [], _, _ => ⟨rfl, .cons q .nil⟩
  | [], _ :: _, e, _ => by simp at e
  | _ :: _, [], e, _ => by simp at e
  | (g, x) :: fv, (g', y) :: fs, e, r => by
    simp only [List.map_cons, List.cons.injEq] at e r
    obtain ⟨e1, e2⟩ := e
    obtain rfl : g = g' := e1
    cases r with
    | cons r1 r2 =>
      unfold putF putFd
      by_cases hg : g = f
      · rw [if_pos hg, if_pos hg]
        simp only [List.map_cons]
        exact ⟨by rw [e2], .cons q r2⟩
      · rw [if_neg hg, if_neg hg]
        obtain ⟨i1, i2⟩ := put_rp q e2 r2
        simp only [List.map_cons]
        exact ⟨by rw [i1], .cons r1 i2⟩
theorem lookup_rp {K : PySem.W.Frag} {H : Hp} {f : Str} {d : D} : ∀ {fv : List (Str × V)} {fs : List (Str × D)}, fv.map (·.1) = fs.map (·.1) → RpL K H (fv.map (·.2)) (fs.map (·.2)) → fs.lookup f = some d → ∃ v, fv.lookup f = some v ∧ Rp K H v d
  | [], [], _, _, h => by cases h
  | [], _ :: _, e, _, _ => by simp at e
  | _ :: _, [], e, _, _ => by simp at e
  | (g, x) :: fv, (g', y) :: fs, e, r, h => by
    simp only [List.map_cons, List.cons.injEq] at e r
    obtain ⟨e1, e2⟩ := e
    obtain rfl : g = g' := e1
    cases r with
    | cons r1 r2 =>
      unfold List.lookup at h ⊢
      cases hb : f == g with
      | true => rw [hb] at h; cases h; exact ⟨x, rfl, r1⟩
      | false => rw [hb] at h; exact lookup_rp e2 r2 h
theorem lookup_none {f : Str} : ∀ {fv : List (Str × V)} {fs : List (Str × D)}, fv.map (·.1) = fs.map (·.1) → fs.lookup f = none → fv.lookup f = none
  | [], [], _, _ => rfl
  | [], _ :: _, e, _ => by simp at e
  | _ :: _, [], e, _ => by simp at e
  | (g, x) :: fv, (g', y) :: fs, e, h => by
    simp only [List.map_cons, List.cons.injEq] at e
    obtain ⟨e1, e2⟩ := e
    obtain rfl : g = g' := e1
    unfold List.lookup at h ⊢
    cases hb : f == g with
    | true => rw [hb] at h; cases h
    | false => rw [hb] at h; exact lookup_none e2 h
/-- an instance of the class n: one that never changes, or one of ours -/
def insOf (m : Mu) (n : Str) : D → Option (List (Str × D))
  | .ins k fs => if k = n then some fs else none
  | .adr a => match m a with
    | some (.ins k fs) => if k = n then some fs else none
    | _ => none
  | _ => none
theorem insOf_rp {K : PySem.W.Frag} {F : Hp} {H0 H : Hp} {m : Mu} {n : Str} {v : V} {d : D} {fs : List (Str × D)} (ok : Ok K F H0 m H) (r : Rp K H0 v d) (h : insOf m n d = some fs) : ∃ a C dx fv, v = .ref a ∧ ClsAt K n C ∧ H a = some (.ins C dx fv) ∧ fv.map (·.1) = fs.map (·.1) ∧ RpL K H0 (fv.map (·.2)) (fs.map (·.2)) := by
  unfold insOf at h
  split at h
  · split at h
    · rename_i e; subst e; cases h
      cases r with
      | ins c q e2 t => exact ⟨_, _, _, _, rfl, c, ok.same _ _ q, e2, t⟩
    · cases h
  · split at h
    · rename_i k fs' e1
      split at h
      · rename_i e; subst e; cases h
        cases r
        obtain ⟨_, C, dx, fv, c, hv, e2, t⟩ := ok.cell _ _ e1
        exact ⟨_, C, dx, fv, rfl, c, hv, e2, t⟩
      · cases h
    · cases h
  · cases h
section
variable {X : Cx} {W : WX} {a b c o : Expr} {ra rb rc ro : DE} {pos p apos : Pos} {e : Expr} {es : List Expr} {qs qk : DA} {n f : Str}
def rFld (n f : Str) (ra : DE) : DE := fun δ m P PX => ra δ m (fun x m1 => match insOf m1 n x with
  | some fs => match fs.lookup f with
    | some d => P d m1
    | none => False
  | none => False) PX
theorem pd_fld (T : FldF X.K n f) (ha : PE X a (lE X.K W ra)) (hb : attributeBase a f X.env (eval a X.env) = eval a X.env := by rfl) : PE X (.Attribute a f pos) (lE X.K W (rFld n f ra)) := by
  refine PE.imp (pe_fld ha hb) fun σ H Q h => ?_
  obtain ⟨F, H0, m, δ, P, PX, ok, rs, h, g, gx⟩ := h
  refine ⟨F, H0, m, δ, _, PX, ok, rs, h, fun x H1 H01 m1 d s1 ok1 r1 h1 => ?_, gx⟩
  dsimp only at h1
  split at h1
  · rename_i fs e1
    split at h1
    · rename_i d' e2
      obtain ⟨q, C, dx, fv, rfl, c, hq, e3, t⟩ := insOf_rp ok1 r1 e1
      obtain ⟨v, e4, rv⟩ := lookup_rp e3 t e2
      exact ⟨q, C, dx, fv, v, rfl, hq, (T.ok C c).1, (T.ok C c).2, e4, g _ _ _ _ _ s1 ok1 rv h1⟩
    · exact h1.elim
  · exact h1.elim
/-- self.f = v, self one of ours -/
def gFld (n f : Str) (ro : DE) : DG := fun v δ m P => ro δ m (fun o m1 => match o with
  | .adr q => match m1 q with
    | some (.ins k fs) => k = n ∧ fs.length < 900 ∧ P δ (mset m1 q (.ins n (putFd f v fs)))
    | _ => False
  | _ => False) noX
theorem putFd_len (f : Str) (v : D) : ∀ fs : List (Str × D), (putFd f v fs).length ≤ fs.length + 1
  | [] => by simp [putFd]
  | (g, x) :: r => by
    unfold putFd
    have ih := putFd_len f v r
    split <;> simp <;> omega
def sSetF (n f : Str) (ro rv : DE) : DS := fun DD δ m => rv δ m (fun v m1 => ro δ m1 (fun o m2 => match o with
  | .adr q => match m2 q with
    | some (.ins k fs) => k = n ∧ fs.length < 900 ∧ DD.nx δ (mset m2 q (.ins n (putFd f v fs)))
    | _ => False
  | _ => False) fun c fs m1 => DD.xx c fs δ m1) fun c fs m1 => DD.xx c fs δ m1
theorem ds_setF {rv : DE} {p2 : Pos} (T : FldF X.K n f) (ho : PE X o (lE X.K W ro)) (hv : PE X a (lE X.K W rv)) (hs : swapsWith a (some (.Attribute o f p2)) pos.line X.env = pure false := by rfl) : PS X (.Assign [.Attribute o f p2] a pos) (lS X.K W (sSetF n f ro rv)) := by
  refine PS.imp (ps_fld ho hv hs) fun Dn σ H h => ?_
  obtain ⟨F, H0, m, δ, DD, ok, rs, h, g⟩ := h
  refine ⟨F, H0, m, δ, _, _, ok, rs, h, fun y H1 H01 m1 d1 s1 ok1 r1 h1 => ⟨F, H01, m1, δ, _, _, ok1, rs.mono s1, h1, fun x H2 H02 m2 d2 s2 ok2 r2 h2 => ?_, (g.mono s1).xx.at_ (rs.mono s1)⟩, g.xx.at_ rs⟩
  dsimp only at h2
  split at h2
  · rename_i q
    cases r2
    split at h2
    · rename_i k fs e1
      obtain ⟨rfl, hl, h2⟩ := h2
      obtain ⟨_, C, dx, fv, cA, hq, e2, t⟩ := ok2.cell q _ e1
      have hl2 : fv.length = fs.length := by have := congrArg List.length e2; simpa using this
      obtain ⟨z1, z2⟩ := put_rp (f := f) (r1.mono s2) e2 t
      refine ⟨q, C, dx, fv, rfl, hq, (T.ok C cA).1, (T.ok C cA).2, by omega, ?_⟩
      exact g.nx _ _ _ _ _ (s1.trans s2) (ok2.write (o := .ins k (putFd f d1 fs)) e1 ⟨C, dx, _, cA, upd_same, z1, z2⟩) (rs.mono (s1.trans s2)) h2
    · exact h2.elim
  · exact h2.elim
/-! ### targets that may change what is ours -/
def GokM (K : PySem.W.Frag) (g : TG) (rg : DG) : Prop := ∀ F H0 m H σ δ v d P Q, Ok K F H0 m H → RpS K H0 σ δ → Rp K H0 v d → rg d δ m P → (∀ σ' H' H0' m' δ', Same H0 H0' → Ok K F H0' m' H' → RpS K H0' σ' δ' → P δ' m' → Q σ' H') → g v σ H Q
theorem gkm_name {K : PySem.W.Frag} {j : Nat} : GokM K (gName j) (gN j) := fun F H0 m H σ δ v d P Q ok rs r h k => k _ _ _ _ _ (Same.refl _) ok (rs.set r j) h
def gFldV (K : PySem.W.Frag) (f : Str) (to : TE) : TG := fun v σ H Q => to σ H fun x H1 => ∃ a C dx fs, x = .ref a ∧ H1 a = some (.ins C dx fs) ∧ Cls K C ∧ NoAttr K C f ∧ fs.length < 1000 ∧ Q σ (upd H1 a (.ins C dx (putF f v fs)))
theorem pg_fld {to : TE} (ho : PE X o to) (hA : ∀ v, assign (.Attribute o f pos) X.env v = (do
    let ov ← holding [v] (eval o X.env)
    standAt pos.atName
    holding [v, ov] (setAttr ov f v)
    release [v, ov] []) := by intro _; rfl) : PG X (.Attribute o f pos) (gFldV X.K f to) := by
  refine ⟨fun pins s σ H v u Q I r h => ?_⟩
  rw [hA]
  refine wpAny_bind (wpAny_holding (thn (ho.run pins s σ H _ I h) fun ov s1 ⟨x, H1, I1, r1, a, C, dx, fs, e1, e2, c, n, l, q⟩ => ?_))
  subst e1
  obtain rfl : ov = Value.ref a := r1
  refine wpAny_bind (wpAny_standAt (wpAny_bind (wpAny_holding (setattr_ok I1 e2 c n l r fun s3 I3 => ?_))))
  exact wpAny_release ⟨σ, _, I3, q⟩
theorem gkm_fld (T : FldF X.K n f) : GokM X.K (gFldV X.K f (lE X.K W ro)) (gFld n f ro) := by
  intro F H0 m H σ δ v d P Q ok rs r h k
  refine ⟨F, H0, m, δ, _, noX, ok, rs, h, fun x H1 H01 m1 d1 s1 ok1 r1 h1 => ?_, fun _ _ _ _ _ _ _ _ _ z => z.elim⟩
  dsimp only at h1
  split at h1
  · rename_i q
    cases r1
    split at h1
    · rename_i kk fs e1
      obtain ⟨rfl, hl, h1⟩ := h1
      obtain ⟨_, C, dx, fv, cA, hq, e2, t⟩ := ok1.cell q _ e1
      have hl2 : fv.length = fs.length := by have := congrArg List.length e2; simpa using this
      obtain ⟨z1, z2⟩ := put_rp (f := f) (r.mono s1) e2 t
      exact ⟨q, C, dx, fv, rfl, hq, (T.ok C cA).1, (T.ok C cA).2, by omega, k _ _ _ _ _ s1 (ok1.write (o := .ins kk (putFd f d fs)) e1 ⟨C, dx, _, cA, upd_same, z1, z2⟩) (rs.mono s1) h1⟩
    · exact h1.elim
  · exact h1.elim
/-- several targets, over data -/
abbrev DGs := List D → DSt → Mu → (DSt → Mu → Prop) → Prop
def gNilD : DGs := fun ds δ m P => ds = [] ∧ P δ m
def gConsD (g : DG) (gs : DGs) : DGs := fun ds δ m P => match ds with
  | d :: r => g d δ m fun δ' m' => gs r δ' m' P
  | [] => False
def GokMs (K : PySem.W.Frag) (g : TGs) (rg : DGs) : Prop := ∀ F H0 m H σ δ vs ds P Q, Ok K F H0 m H → RpS K H0 σ δ → RpL K H0 vs ds → rg ds δ m P → (∀ σ' H' H0' m' δ', Same H0 H0' → Ok K F H0' m' H' → RpS K H0' σ' δ' → P δ' m' → Q σ' H') → g vs σ H Q
theorem gkms_nil {K : PySem.W.Frag} : GokMs K gNil gNilD := fun F H0 m H σ δ vs ds P Q ok rs r h k => by
  obtain ⟨rfl, h⟩ := h
  cases r
  exact ⟨rfl, k _ _ _ _ _ (Same.refl _) ok rs h⟩
theorem gkms_cons {K : PySem.W.Frag} {g : TG} {gs : TGs} {rg : DG} {rgs : DGs} (h1 : GokM K g rg) (h2 : GokMs K gs rgs) : GokMs K (gCons g gs) (gConsD rg rgs) := fun F H0 m H σ δ vs ds P Q ok rs r h k => by
  cases r with
  | nil => exact h.elim
  | @cons v vs' d ds' r1 r2 =>
    exact ⟨v, vs', rfl, h1 F H0 m H σ δ v d _ _ ok rs r1 h fun σ1 H1 H01 m1 δ1 s1 ok1 rs1 q1 => h2 F H01 m1 H1 σ1 δ1 vs' ds' P Q ok1 rs1 (r2.mono s1) q1 fun σ2 H2 H02 m2 δ2 s2 ok2 rs2 q2 => k _ _ _ _ _ (s1.trans s2) ok2 rs2 q2⟩
def gTupD (n : Nat) (rgs : DGs) : DG := fun d δ m P => match d with
  | .tup ds => ds.length = n ∧ rgs ds δ m P
  | _ => False
theorem gkm_tup {K : PySem.W.Frag} {gs : TGs} {rgs : DGs} {k : Nat} (h1 : GokMs K gs rgs) : GokM K (gTup K k gs) (gTupD k rgs) := fun F H0 m H σ δ v d P Q ok rs r h kk => by
  unfold gTupD at h
  split at h
  · obtain ⟨q, vs, rfl, hq, rv⟩ := tup_rp ok r
    exact ⟨q, vs, rfl, hq, rv.length.trans h.1, h1 F H0 m H σ δ vs _ P Q ok rs rv h.2 kk⟩
  · exact h.elim
def sAsgM (rg : DG) (ra : DE) : DS := fun DD δ m => ra δ m (fun d m1 => rg d δ m1 DD.nx) fun c fs m1 => DD.xx c fs δ m1
theorem ds_asgM {tg : Expr} {g : TG} {rg : DG} (ha : PE X a (lE X.K W ra)) (hg : PG X tg g) (gk : GokM X.K g rg) (hs : swapsWithSole [tg] a pos.line X.env = pure false := by rfl) (hw : swappedStores [tg] a X.env = pure none := by rfl)
    (h1 : (assignEach [tg] X.env).map (·.2) = [assign tg X.env] := by rfl) : PS X (.Assign [tg] a pos) (lS X.K W (sAsgM rg ra)) := by
  refine PS.imp (ps_asg ha hg hs hw h1) fun Dn σ H h => ?_
  obtain ⟨F, H0, m, δ, DD, ok, rs, h, gd⟩ := h
  exact ⟨F, H0, m, δ, _, _, ok, rs, h, fun v H1 H01 m1 d s1 ok1 r1 h1 => gk F H01 m1 H1 σ δ v d _ _ ok1 (rs.mono s1) r1 h1 fun σ2 H2 H02 m2 δ2 s2 ok2 rs2 q2 => gd.nx _ _ _ _ _ (s1.trans s2) ok2 rs2 q2, gd.xx.at_ rs⟩
end
/-! ### a def, whatever its defaults -/
/-- x : d among what is written -/
def valB (K : PySem.W.Frag) : Nat → Value → D → Bool
  | _, .none, .non => true
  | _, .bool b, .bl c => b == c
  | _, .int i _, .int j => i == j
  | _, .str x _, .str y => x == y
  | k + 1, .ref a, .tup ds => match K.lookup a with
    | some o => decide (o.cls = .type "tuple") && match o.data with
      | .seq its _ => decide (its.size ≤ 1000) && go k its.toList ds
      | _ => false
    | none => false
  | _, _, _ => false
where go (k : Nat) : List Value → List D → Bool
  | [], [] => true
  | u :: us, d :: ds => valB K k u d && go k us ds
  | _, _ => false
theorem valB_ok {K : PySem.W.Frag} : ∀ (k : Nat) {u : Value} {d : D}, valB K k u d = true → ∃ v, RelV v u ∧ ∀ H, Rp K H v d := by
  intro k
  induction k with
  | zero =>
    intro u d h
    unfold valB at h
    split at h <;> first | exact ⟨.non, rfl, fun _ => .non⟩ | (simp at h; done) | skip
    · rename_i b c; obtain rfl : b = c := by simpa using h
      exact ⟨.bl b, rfl, fun _ => .bl b⟩
    · rename_i i t j; obtain rfl : i = j := by simpa using h
      exact ⟨.int i, ⟨t, rfl⟩, fun _ => .int i⟩
    · rename_i x t y; obtain rfl : x = y := by simpa using h
      exact ⟨.str x, ⟨t, rfl⟩, fun _ => .str x⟩
    · rename_i hk; exact absurd hk (by omega)
  | succ k ih =>
    have all : ∀ (us : List Value) (ds : List D), valB.go K k us ds = true → ∃ vs, Vals vs us ∧ ∀ H, RpL K H vs ds := by
      intro us
      induction us with
      | nil =>
        intro ds h
        cases ds with
        | nil => exact ⟨[], .nil, fun _ => .nil⟩
        | cons d ds => simp [valB.go] at h
      | cons u us ihl =>
        intro ds h
        cases ds with
        | nil => simp [valB.go] at h
        | cons d ds =>
          simp only [valB.go, Bool.and_eq_true] at h
          obtain ⟨v, r, q⟩ := ih h.1
          obtain ⟨vs, rs, qs⟩ := ihl ds h.2
          exact ⟨v :: vs, .cons r rs, fun H => .cons (q H) (qs H)⟩
    intro u d h
    unfold valB at h
    split at h <;> first | exact ⟨.non, rfl, fun _ => .non⟩ | (simp at h; done) | skip
    · rename_i b c; obtain rfl : b = c := by simpa using h
      exact ⟨.bl b, rfl, fun _ => .bl b⟩
    · rename_i i t j; obtain rfl : i = j := by simpa using h
      exact ⟨.int i, ⟨t, rfl⟩, fun _ => .int i⟩
    · rename_i x t y; obtain rfl : x = y := by simpa using h
      exact ⟨.str x, ⟨t, rfl⟩, fun _ => .str x⟩
    · rename_i k' a ds hk
      obtain rfl : k = k' := by omega
      split at h
      · rename_i o ho
        rw [Bool.and_eq_true] at h
        obtain ⟨h1, h2⟩ := h
        split at h2
        · rename_i its nn hd
          rw [Bool.and_eq_true] at h2
          obtain ⟨vs, rs, qs⟩ := all its.toList ds h2.2
          have hsz := of_decide_eq_true h2.1
          exact ⟨.ref a, rfl, fun H => .tup (.inr ⟨o, its, nn, ho, of_decide_eq_true h1, hd, Nat.le_trans hsz (by decide), rs⟩) (qs H)⟩
        · cases h2
      · cases h
def valsB (K : PySem.W.Frag) (us : List Value) (ds : List D) : Bool := valB.go K 3 us ds
theorem valsB_ok {K : PySem.W.Frag} : ∀ {us : List Value} {ds : List D}, valsB K us ds = true → ∃ vs, Vals vs us ∧ ∀ H, RpL K H vs ds
  | [], [], _ => ⟨[], .nil, fun _ => .nil⟩
  | [], _ :: _, h => by simp [valsB, valB.go] at h
  | _ :: _, [], h => by simp [valsB, valB.go] at h
  | u :: us, d :: ds, h => by
    simp only [valsB, valB.go, Bool.and_eq_true] at h
    obtain ⟨v, r, q⟩ := valB_ok _ h.1
    obtain ⟨vs, rs, qs⟩ := valsB_ok (us := us) (ds := ds) h.2
    exact ⟨v :: vs, .cons r rs, fun H => .cons (q H) (qs H)⟩
/-- a constant of the text -/
structure ConF (K : PySem.W.Frag) (mg : Str → Option Value) (x : Str) (d : D) : Prop where
  ex : ∃ u v, mg x = some u ∧ RelV v u ∧ ∀ H, Rp K H v d
theorem con_mk {K : PySem.W.Frag} {h : Heap} {mg : Str → Option Value} {x : Str} {d : D} {u : Value} (X : K.In h) (G : h.Ns mainGlobals mg) (a : PySem.W.nsIn K mainGlobals x = some (some u)) (b : valB K 3 u d = true) : ConF K mg x d := by
  obtain ⟨v, r, q⟩ := valB_ok _ b
  exact ⟨u, v, PySem.W.mg_of X G a, r, q⟩
theorem pd_con {X : Cx} {W : WX} {x : Str} {d : D} {pos : Pos} (T : ConF X.K X.mg x d) (hg : Gl X x := by rfl) (hd : (x == ("__debug__" : Str)) = false := by decide) : PE X (.Name x pos) (lE X.K W (rC d)) := by
  obtain ⟨u, v, e, r, q⟩ := T.ex
  exact pd_tC (pe_glob hg e (v := v) r hd) q
/-- the name of a class, a def, as a value -/
theorem pd_glb {X : Cx} {W : WX} {x : Str} {C : Addr} {pos : Pos} (hm : X.mg x = some (.ref C)) (hc : ClsAt X.K x C) (hg : Gl X x := by rfl) (hd : (x == ("__debug__" : Str)) = false := by decide) : PE X (.Name x pos) (lE X.K W (rC (.glb x))) := pd_tC (pe_glob hg hm (v := .ref C) rfl hd) fun _ => .glb hc
def GlbF (K : PySem.W.Frag) (mg : Str → Option Value) (x : Str) : Prop := ∃ C, mg x = some (.ref C) ∧ ClsAt K x C
theorem glb_mk {K : PySem.W.Frag} {h : Heap} {mg : Str → Option Value} {x : Str} {C : Addr} (X : K.In h) (G : h.Ns mainGlobals mg) (a : PySem.W.nsIn K mainGlobals x = some (some (.ref C))) : GlbF K mg x := ⟨C, PySem.W.mg_of X G a, a⟩
theorem pd_gl {X : Cx} {W : WX} {x : Str} {pos : Pos} (T : GlbF X.K X.mg x) (hg : Gl X x := by rfl) (hd : (x == ("__debug__" : Str)) = false := by decide) : PE X (.Name x pos) (lE X.K W (rC (.glb x))) := let ⟨_, h1, h2⟩ := T; pd_glb h1 h2 hg hd
/-! ### defs with defaults -/
structure FunG (K : PySem.W.Frag) (x qual : Str) (st : Stmt) (dD : List D) (kD : List (Str × D)) (f : Addr) (fd : FuncData) : Prop where
  ex : ∃ dvs kws, FunD K x qual (defArgs st) (defBody st) (defScope st) dvs kws f fd ∧ (∀ H, RpL K H dvs dD) ∧ kws.map (·.1) = kD.map (·.1) ∧ ∀ H, RpL K H (kws.map (·.2)) (kD.map (·.2))
/-- the defaults as they stand: dV None or a tuple, kV None or a dict -/
def dflB (K : PySem.W.Frag) (dV : Value) (dD : List D) : Bool := match dD with
  | [] => match dV with
    | .none => true
    | _ => false
  | _ :: _ => match dV with
    | .ref T => match K.lookup T with
      | some o => match o.data with
        | .seq its _ => valsB K its.toList dD
        | _ => false
      | none => false
    | _ => false
def kwdB (K : PySem.W.Frag) (kV : Value) (kD : List (Str × D)) : Bool := match kD with
  | [] => true
  | _ :: _ => match kV with
    | .ref D => kD.all fun q => match PySem.W.nsIn K D q.1 with
      | some (some u) => valB K 3 u q.2
      | _ => false
    | _ => false
theorem dflB_ok {K : PySem.W.Frag} {dV : Value} {dD : List D} (h : dflB K dV dD = true) : ∃ dvs, DflV K dV dvs ∧ ∀ H, RpL K H dvs dD := by
  unfold dflB at h
  split at h
  · split at h
    · exact ⟨[], .inl ⟨rfl, rfl⟩, fun _ => .nil⟩
    · cases h
  · split at h
    · rename_i T
      split at h
      · rename_i o ho
        split at h
        · rename_i its nn hd
          obtain ⟨vs, r, q⟩ := valsB_ok h
          refine ⟨vs, .inr ⟨fun z => ?_, T, o, its.toList, nn, rfl, ho, by simpa using hd, r⟩, q⟩
          subst z
          have := q fun _ => none
          cases this
        · cases h
      · cases h
    · cases h
theorem kwds {K : PySem.W.Frag} {D' : Addr} : ∀ {kD : List (Str × D)}, (kD.all fun q => match PySem.W.nsIn K D' q.1 with | some (some u) => valB K 3 u q.2 | _ => false) = true →
    ∃ kws : List (Str × V), kws.map (·.1) = kD.map (·.1) ∧ (∀ H, RpL K H (kws.map (·.2)) (kD.map (·.2))) ∧ ∀ q ∈ kws, ∃ u, PySem.W.nsIn K D' q.1 = some (some u) ∧ RelV q.2 u
  | [], _ => ⟨[], rfl, fun _ => .nil, fun _ z => by cases z⟩
  | (x, d) :: kD, h => by
    rw [List.all_cons, Bool.and_eq_true] at h
    obtain ⟨h1, h2⟩ := h
    obtain ⟨kws, e1, e2, e3⟩ := kwds (kD := kD) h2
    dsimp only at h1
    split at h1
    · rename_i u hu
      obtain ⟨v, r, q⟩ := valB_ok _ h1
      refine ⟨(x, v) :: kws, by simp [e1], fun H => .cons (q H) (e2 H), fun z hz => ?_⟩
      rcases List.mem_cons.mp hz with rfl | hz
      · exact ⟨u, hu, r⟩
      · exact e3 z hz
    · cases h1
theorem kwdB_ok {K : PySem.W.Frag} {kV : Value} {kD : List (Str × D)} (h : kwdB K kV kD = true) : ∃ kws, KwdV K kV kws ∧ kws.map (·.1) = kD.map (·.1) ∧ ∀ H, RpL K H (kws.map (·.2)) (kD.map (·.2)) := by
  unfold kwdB at h
  split at h
  · exact ⟨[], .inl rfl, rfl, fun _ => .nil⟩
  · split at h
    · rename_i D'
      obtain ⟨kws, e1, e2, e3⟩ := kwds h
      exact ⟨kws, .inr ⟨D', rfl, e3⟩, e1, e2⟩
    · cases h
theorem funG_mk {K : PySem.W.Frag} {x qual : Str} {st : Stmt} {dD : List D} {kD : List (Str × D)} {f : Addr} {oc : Value} {od an : Option Addr} {osl : Array (Option Value)} {dV kV doc pm cdv ct : Value}
    (l : K.lookup f = some ⟨oc, od, .func (PySem.W.fnOf x qual (defArgs st) (defBody st) (defScope st) dV kV doc pm an cdv ct), osl⟩) (c : PySem.W.codeIn K cdv qual = true) (k : PySem.W.keepIn K (.ref f) = true) (hd : dflB K dV dD = true) (hk : kwdB K kV kD = true) :
    FunG K x qual st dD kD f (PySem.W.fnOf x qual (defArgs st) (defBody st) (defScope st) dV kV doc pm an cdv ct) := by
  obtain ⟨dvs, d1, d2⟩ := dflB_ok hd
  obtain ⟨kws, k1, k2, k3⟩ := kwdB_ok hk
  exact ⟨dvs, kws, ⟨⟨oc, od, dV, kV, doc, pm, an, cdv, ct, osl, rfl, l, c, d1, k1⟩, k⟩, d2, k2, k3⟩
/-! ### how a call binds: ix takes from positional values, keywords, defaults, keyword-only defaults, in that order -/
def BindT0 (x qual : Str) (st : Stmt) (ps : List Str) (n : Nat) (ks : List Str) (dn : Nat) (ix : List Nat) : Prop := ∀ (T : Addr) (kV doc pm : Value) (an : Option Addr) (cdv ct : Value) (us its ws : List Value), us.length = n → its.length = dn → ws.length = ks.length →
  ∃ k, bindArgs (PySem.W.fnOf x qual (defArgs st) (defBody st) (defScope st) (.ref T) kV doc pm an cdv ct) ⟨us, ks.zip ws⟩ = seqItems? (.ref T) >>= k ∧ k (some its.toArray) = pure (ps.zip (gI ix (us ++ ws) its))
def BindNK (x qual : Str) (st : Stmt) (ps : List Str) (n : Nat) (ks ms : List Str) (ix : List Nat) : Prop := ∀ (D : Addr) (doc pm : Value) (an : Option Addr) (cdv ct : Value) (us mv ws : List Value), us.length = n → mv.length = ms.length → ws.length = ks.length →
  KwChain D (ms.zip mv) (bindArgs (PySem.W.fnOf x qual (defArgs st) (defBody st) (defScope st) .none (.ref D) doc pm an cdv ct) ⟨us, ks.zip ws⟩) (ps.zip (gI ix (us ++ ws) mv))
def BindTK (x qual : Str) (st : Stmt) (ps : List Str) (n : Nat) (ks : List Str) (dn : Nat) (ms : List Str) (ix : List Nat) : Prop := ∀ (T D : Addr) (doc pm : Value) (an : Option Addr) (cdv ct : Value) (us its mv ws : List Value), us.length = n → its.length = dn → mv.length = ms.length → ws.length = ks.length →
  ∃ k, bindArgs (PySem.W.fnOf x qual (defArgs st) (defBody st) (defScope st) (.ref T) (.ref D) doc pm an cdv ct) ⟨us, ks.zip ws⟩ = seqItems? (.ref T) >>= k ∧ KwChain D (ms.zip mv) (k (some its.toArray)) (ps.zip (gI ix (us ++ ws) (its ++ mv)))
section
variable {K : PySem.W.Frag} {x qual : Str} {st : Stmt} {ps ks ms : List Str} {n : Nat} {ix : List Nat} {f : Addr} {fd : FuncData} {dD : List D} {kD : List (Str × D)}
theorem gI_rp2 {H : Hp} {vs zs ws : List V} {ds es fs : List D} (ix : List Nat) (r1 : RpL K H vs ds) (r2 : RpL K H zs es) (r3 : RpL K H ws fs) : RpL K H (gI ix (vs ++ zs) ws) (gI ix (ds ++ es) fs) := gI_rp (r1.append r2) r3 ix
theorem kbd_N0 (G : FunG K x qual st [] kD f fd) (B : BindKw x qual st ps n ks ix) : KBd K fd ps n ks (gI ix) := by
  obtain ⟨dvs, kws, F, d1, k1, k2⟩ := G.ex
  obtain ⟨oc, od, dV, kV, doc, pm, an, cdv, ct, osl, rfl, lk, hcd, hD, hK⟩ := F.ex
  have e : dvs = [] := by have := (d1 fun _ => none).length; simpa using this
  subst e
  rcases hD with ⟨_, rfl⟩ | ⟨z, _⟩
  · exact ⟨gI ix, gI ix, ⟨fun s us ws _ l1 l2 => BindsTo.of_eq (B kV doc pm an cdv ct us ws l1 l2), fun r1 r2 => gI_vals r1 r2 ix⟩, fun H vs ds zs es _ _ r1 r2 => gI_rp r1 r2 ix⟩
  · exact absurd rfl z
theorem kbd_T0 (G : FunG K x qual st dD kD f fd) (hne : dD ≠ []) (B : BindT0 x qual st ps n ks dD.length ix) : KBd K fd ps n ks fun ds es => gI ix (ds ++ es) dD := by
  obtain ⟨dvs, kws, F, d1, k1, k2⟩ := G.ex
  obtain ⟨oc, od, dV, kV, doc, pm, an, cdv, ct, osl, rfl, lk, hcd, hD, hK⟩ := F.ex
  have el : dvs.length = dD.length := (d1 fun _ => none).length
  rcases hD with ⟨rfl, _⟩ | ⟨_, T, o, its, m, rfl, lT, oT, rT⟩
  · exact absurd (List.eq_nil_of_length_eq_zero el.symm) hne
  · refine ⟨fun us ws => gI ix (us ++ ws) its, fun vs zs => gI ix (vs ++ zs) dvs, ⟨fun s us ws X l1 l2 => ?_, fun r1 r2 => gI_vals (r1.append r2) rT ix⟩, fun H vs ds zs es _ _ r1 r2 => gI_rp2 ix r1 r2 (d1 H)⟩
    obtain ⟨k, e1, e2⟩ := B T kV doc pm an cdv ct us its ws l1 (rT.length.symm.trans el) l2
    refine BindsTo.of_looks fun M => ?_
    rw [e1]
    exact looks_items X lT oT (.of_pure e2)
/-- the keyword-only ones that lack -/
theorem pick {kws : List (Str × V)} {kD : List (Str × D)} (e : kws.map (·.1) = kD.map (·.1)) (r : ∀ H, RpL K H (kws.map (·.2)) (kD.map (·.2))) : ∀ ms : List Str, (∀ y ∈ ms, (kD.lookup y).isSome = true) →
    ∃ mk : List (Str × V), mk.map (·.1) = ms ∧ (∀ q ∈ mk, q ∈ kws) ∧ ∀ H, RpL K H (mk.map (·.2)) (ms.map fun y => (kD.lookup y).getD .non)
  | [], _ => ⟨[], rfl, (fun _ z => by cases z), fun _ => .nil⟩
  | y :: ms, h => by
    obtain ⟨mk, e1, e2, e3⟩ := pick e r ms fun z hz => h z (List.mem_cons_of_mem _ hz)
    have hy := h y List.mem_cons_self
    cases hl : kD.lookup y with
    | none => rw [hl] at hy; cases hy
    | some d =>
      have mem : ∀ {kws : List (Str × V)} {v : V}, kws.lookup y = some v → (y, v) ∈ kws := by
        intro kws v
        induction kws with
        | nil => intro h; cases h
        | cons q kws ih =>
          obtain ⟨g, x⟩ := q
          intro h
          unfold List.lookup at h
          cases hb : y == g with
          | true => rw [hb] at h; cases h; have : y = g := by simpa using hb
                    rw [this]; exact List.mem_cons_self
          | false => rw [hb] at h; exact List.mem_cons_of_mem _ (ih h)
      obtain ⟨v, ev, _⟩ := lookup_rp e (r fun _ => none) hl
      refine ⟨(y, v) :: mk, by simp [e1], fun q hq => ?_, fun H => ?_⟩
      · rcases List.mem_cons.mp hq with rfl | hq
        · exact mem ev
        · exact e2 q hq
      · rw [List.map_cons, List.map_cons, hl]
        obtain ⟨v', ev', rv⟩ := lookup_rp e (r H) hl
        rw [ev] at ev'; cases ev'
        exact .cons rv (e3 H)
theorem kbd_NK (G : FunG K x qual st [] kD f fd) (hne : kD ≠ []) (hms : ∀ y ∈ ms, (kD.lookup y).isSome = true) (B : BindNK x qual st ps n ks ms ix) : KBd K fd ps n ks fun ds es => gI ix (ds ++ es) (ms.map fun y => (kD.lookup y).getD .non) := by
  obtain ⟨dvs, kws, F, d1, k1, k2⟩ := G.ex
  obtain ⟨mk, m1, m2, m3⟩ := pick k1 k2 ms hms
  obtain ⟨oc, od, dV, kV, doc, pm, an, cdv, ct, osl, rfl, lk, hcd, hD, hK⟩ := F.ex
  have e : dvs = [] := by have := (d1 fun _ => none).length; simpa using this
  subst e
  rcases hD with ⟨_, rfl⟩ | ⟨z, _⟩
  · rcases hK with rfl | ⟨D', rfl, hq⟩
    · cases kD with
      | nil => exact absurd rfl hne
      | cons q r => simp at k1
    · obtain ⟨mv, hl, rk, hks⟩ := kwd_vals (ms := mk) fun q hm => hq q (m2 q hm)
      refine ⟨fun us ws => gI ix (us ++ ws) mv, fun vs zs => gI ix (vs ++ zs) (mk.map (·.2)), ⟨fun s us ws X l1 l2 => ?_, fun r1 r2 => gI_vals (r1.append r2) rk ix⟩, fun H vs ds zs es _ _ r1 r2 => gI_rp2 ix r1 r2 (m3 H)⟩
      rw [m1] at hks
      exact BindsTo.of_looks fun M => KwChain.looks X hks (B D' doc pm an cdv ct us mv ws l1 (by rw [hl, ← m1, List.length_map]) l2)
  · exact absurd rfl z
theorem kbd_TK (G : FunG K x qual st dD kD f fd) (hnd : dD ≠ []) (hne : kD ≠ []) (hms : ∀ y ∈ ms, (kD.lookup y).isSome = true) (B : BindTK x qual st ps n ks dD.length ms ix) : KBd K fd ps n ks fun ds es => gI ix (ds ++ es) (dD ++ ms.map fun y => (kD.lookup y).getD .non) := by
  obtain ⟨dvs, kws, F, d1, k1, k2⟩ := G.ex
  obtain ⟨mk, m1, m2, m3⟩ := pick k1 k2 ms hms
  obtain ⟨oc, od, dV, kV, doc, pm, an, cdv, ct, osl, rfl, lk, hcd, hD, hK⟩ := F.ex
  have el : dvs.length = dD.length := (d1 fun _ => none).length
  rcases hD with ⟨rfl, _⟩ | ⟨_, T, o, its, m, rfl, lT, oT, rT⟩
  · exact absurd (List.eq_nil_of_length_eq_zero el.symm) hnd
  · rcases hK with rfl | ⟨D', rfl, hq⟩
    · cases kD with
      | nil => exact absurd rfl hne
      | cons q r => simp at k1
    · obtain ⟨mv, hl, rk, hks⟩ := kwd_vals (ms := mk) fun q hm => hq q (m2 q hm)
      refine ⟨fun us ws => gI ix (us ++ ws) (its ++ mv), fun vs zs => gI ix (vs ++ zs) (dvs ++ mk.map (·.2)), ⟨fun s us ws X l1 l2 => ?_, fun r1 r2 => gI_vals (r1.append r2) (rT.append rk) ix⟩, fun H vs ds zs es _ _ r1 r2 => gI_rp2 ix r1 r2 ((d1 H).append (m3 H))⟩
      rw [m1] at hks
      obtain ⟨k, e1, e2⟩ := B T D' doc pm an cdv ct us its mv ws l1 (rT.length.symm.trans el) (by rw [hl, ← m1, List.length_map]) l2
      refine BindsTo.of_looks fun M => ?_
      rw [e1]
      exact looks_items X lT oT (KwChain.looks X hks e2)
end
end DL

namespace DL
open PySem L2
/-! ### the arguments of a call, of whatever is called -/
structure Cal (X : Cx) (W : WX) (pos : Pos) (args : List Expr) (kws : List Keyword) (ks : List Str) (qs qk : DA) : Prop where
  run : ∀ (f : Value) (first : List Value) (pins : List (Addr × Obj)) (s : Shared) (σ : St) (H : Hp) (B : List V → List V → Hp → Prop) (Q : Value → Shared → Prop), PySem.W.keepIn X.K f = true → L2.Inv X pins σ H s →
    lA X.K W qs σ H (fun vs H1 => lA X.K W qk σ H1 (B vs)) →
    (∀ us ws vs zs s2 H2, L2.Inv X pins σ H2 s2 → Vals vs us → Vals zs ws → B vs zs H2 → wpAny (model X.prog X.w) X.A (call f (first ++ us) (ks.zip ws)) Q X.xe s2) →
    wpAny (model X.prog X.w) X.A (callWith pos f first (backTo pos (starEach args X.env)) (backToKw pos (keywordEach kws X.env))) Q X.xe s
section
variable {X : Cx} {W : WX} {a b c o : Expr} {ra rb rc ro : DE} {pos p apos : Pos} {e : Expr} {es args : List Expr} {kws : List Keyword} {qs qk : DA} {n f x : Str} {ks ps : List Str}
theorem cal_cons (ha : PA X (e :: es) (lA X.K W qs)) (hkw : PK X kws (lA X.K W qk)) (hall : (backToKw pos (keywordEach kws X.env)).all (·.1.isSome) = true := by rfl) (hks : (backToKw pos (keywordEach kws X.env)).filterMap (·.1) = ks := by rfl)
    (he : starEach (e :: es) X.env = (false, eval e X.env) :: starEach es X.env := by rfl) (hpl : ((backTo pos (starEach (e :: es) X.env)).any (·.1) || (backToKw pos (keywordEach kws X.env)).any (·.1.isNone)) = false := by rfl) : Cal X W pos (e :: es) kws ks qs qk := by
  refine ⟨fun f first pins s σ H B Q hk I h k => PySem.W.callWith_KW (h₀ := X.base) I.ok.mod.kin hk hall (thn (ha.run pos pins s σ H _ I h) fun us s1 hh => ?_) hpl he⟩
  obtain ⟨vs, H1, I1, r, q⟩ := hh
  refine thn (hkw.run pos pins s1 σ H1 _ I1 q) fun ws s2 hh2 => ?_
  obtain ⟨zs, H2, I2, rz, q2⟩ := hh2
  rw [hks]
  exact ⟨I2.kIn, k us ws vs zs s2 H2 I2 r rz q2⟩
theorem lA_nil {K : PySem.W.Frag} {σ : St} {H : Hp} {Q : List V → Hp → Prop} (h : lA K W rNil σ H Q) : Q [] H := by
  obtain ⟨F, H0, m, δ, P, PX, ok, rs, h, g, gx⟩ := h
  exact g [] H H0 m [] (Same.refl _) ok .nil h
theorem cal_nil (hkw : PK X kws (lA X.K W qk)) (hall : (backToKw pos (keywordEach kws X.env)).all (·.1.isSome) = true := by rfl) (hks : (backToKw pos (keywordEach kws X.env)).filterMap (·.1) = ks := by rfl)
    (hpl : ((backTo pos (starEach [] X.env)).any (·.1) || (backToKw pos (keywordEach kws X.env)).any (·.1.isNone)) = false := by rfl) : Cal X W pos [] kws ks rNil qk := by
  refine ⟨fun f first pins s σ H B Q hk I h k => PySem.W.callWith_KW0 (h₀ := X.base) I.ok.mod.kin hk hall ?_ hpl⟩
  refine thn (hkw.run pos pins s σ H _ I (lA_nil h)) fun ws s2 hh2 => ?_
  obtain ⟨zs, H2, I2, rz, q2⟩ := hh2
  rw [hks]
  exact ⟨I2.kIn, k [] ws [] zs s2 H2 I2 .nil rz q2⟩
/-- a call's values over data -/
def aCal (np nk : Nat) (qs qk : DA) (B : List D → List D → Mu → Prop) : DSt → Mu → DX → Prop := fun δ m PX => qs δ m (fun xs m1 => qk δ m1 (fun zs m2 => xs.length = np ∧ zs.length = nk ∧ B xs zs m2) PX) PX
theorem aCal_up {K : PySem.W.Frag} {F H0 H : Hp} {m : Mu} {δ : DSt} {σ : St} {np nk : Nat} {B : List D → List D → Mu → Prop} {PX : DX} (ok : Ok K F H0 m H) (rs : RpS K H0 σ δ) (h : aCal np nk qs qk B δ m PX) (gx : GX K F H0 PX fun c xd H' => W c xd σ H')
    {C : List V → List V → Hp → Prop} (k : ∀ vs zs H' H0' m' ds es, Same H0 H0' → Ok K F H0' m' H' → RpL K H0' vs ds → RpL K H0' zs es → ds.length = np → es.length = nk → B ds es m' → C vs zs H') :
    lA K W qs σ H (fun vs H1 => lA K W qk σ H1 (C vs)) :=
  ⟨F, H0, m, δ, _, PX, ok, rs, h, fun vs H1 H01 m1 ds s1 ok1 r1 h1 => ⟨F, H01, m1, δ, _, PX, ok1, rs.mono s1, h1, fun zs H2 H02 m2 es s2 ok2 r2 h2 => k vs zs H2 H02 m2 ds es (s1.trans s2) ok2 (r1.mono s2) r2 h2.1 h2.2.1 h2.2.2, gx.mono s1⟩, gx⟩
/-! ### defs -/
structure DefG (P : Program) (w : World) (K : PySem.W.Frag) (mg : Str → Option Value) (base : Heap) (k : Nat) (x qual : Str) (st : Stmt) (ps : List Str) (dD : List D) (kD : List (Str × D)) (sp : SpD) : Prop where
  ex : ∃ f fd, mg x = some (.ref f) ∧ FunG K x qual st dD kD f fd ∧ FnOk P w K mg base (L2.CX P w) k f fd ps (lP K sp)
def FunGAt (K : PySem.W.Frag) (mg : Str → Option Value) (x qual : Str) (st : Stmt) (dD : List D) (kD : List (Str × D)) : Prop := ∃ f fd, mg x = some (.ref f) ∧ FunG K x qual st dD kD f fd
/-- a method of a class -/
def MetAt (K : PySem.W.Frag) (n m qual : Str) (st : Stmt) (dD : List D) (kD : List (Str × D)) : Prop := ∃ C f fd, ClsAt K n C ∧ Cls K C ∧ Meth K C m f ∧ FunG K m qual st dD kD f fd
structure MetG (P : Program) (w : World) (K : PySem.W.Frag) (mg : Str → Option Value) (base : Heap) (k : Nat) (n m qual : Str) (st : Stmt) (ps : List Str) (dD : List D) (kD : List (Str × D)) (sp : SpD) : Prop where
  ex : ∃ C f fd, ClsAt K n C ∧ Cls K C ∧ Meth K C m f ∧ FunG K m qual st dD kD f fd ∧ FnOk P w K mg base (L2.CX P w) k f fd ps (lP K sp)
/-- what makes an instance -/
def MkAt (K : PySem.W.Frag) (mg : Str → Option Value) (n qual : Str) (st : Stmt) (dD : List D) (kD : List (Str × D)) : Prop := ∃ C f fd, mg n = some (.ref C) ∧ ClsAt K n C ∧ Mk K C f ∧ FunG K "__init__" qual st dD kD f fd
structure MkG (P : Program) (w : World) (K : PySem.W.Frag) (mg : Str → Option Value) (base : Heap) (k : Nat) (n qual : Str) (st : Stmt) (ps : List Str) (dD : List D) (kD : List (Str × D)) (sp : SpD) : Prop where
  ex : ∃ C f fd, mg n = some (.ref C) ∧ ClsAt K n C ∧ Mk K C f ∧ FunG K "__init__" qual st dD kD f fd ∧ FnOk P w K mg base (L2.CX P w) k f fd ps (lP K sp)
end
section
variable {P : Program} {w : World} {K : PySem.W.Frag} {mg : Str → Option Value} {base : Heap}
theorem fn_okG {x qual : Str} {st : Stmt} {f : Addr} {fd : FuncData} {N ps : List Str} {k : Nat} {sp : SpD} {r : DS} {dD : List D} {kD : List (Str × D)} (G : FunG K x qual st dD kD f fd) (S : FnScope N ps (defScope st)) (hlen : ∀ ds m Q PX, sp ds m Q PX → ds.length = ps.length)
    (hd : ∀ (f : Addr) (cdv : Value) (A : Around) (outer : List Env) (s : Shared) (H : Hp) (E : XK), Room k (A.deeper (PyProof.Rows.envOfC qual (defScope st) s.heap.objs.size f cdv)) →
      PSs (cxOf (L2.CX P w) P w K mg base N qual (defScope st) f cdv A outer s H E) (defBody st) (lS K (fun c d _ H => E c d H) r))
    (hp : ∀ ds m Q PX, sp ds m Q PX → r (dEnds Q PX) (dstart N ds) m) : FnOk P w K mg base (L2.CX P w) (k + 1) f fd ps (lP K sp) := by
  obtain ⟨dvs, kws, F, _⟩ := G.ex
  refine F.ok S (fun vs H Q E h => ?_) (fun cdv A outer s H vs Q E hr h => ⟨_, hd f cdv A outer s H E hr, ?_⟩)
  · obtain ⟨F', H0, m, ds, Q', PX, ok, rl, h, _⟩ := h
    exact rl.length.trans (hlen _ _ _ _ h)
  · obtain ⟨F', H0, m, ds, Q', PX, ok, rl, h, g, gx⟩ := h
    exact ⟨F', H0, m, _, _, ok, rps_start rl, hp ds m Q' PX h, ⟨fun σ' H' H0' m' δ' s ok' _ z => g _ _ _ _ _ s ok' .non z, g, fun _ _ _ _ _ _ _ _ z => z.elim, fun _ _ _ _ _ _ _ _ z => z.elim, fun c xd σ' H' H0' m' fs δ' s ok' _ x z => gx c xd H' H0' m' fs s ok' x z⟩⟩
theorem def_okG {x qual : Str} {st : Stmt} {N ps : List Str} {k : Nat} {sp : SpD} {r : DS} {dD : List D} {kD : List (Str × D)} (G : FunGAt K mg x qual st dD kD) (S : FnScope N ps (defScope st)) (hlen : ∀ ds m Q PX, sp ds m Q PX → ds.length = ps.length)
    (hd : ∀ (f : Addr) (cdv : Value) (A : Around) (outer : List Env) (s : Shared) (H : Hp) (E : XK), Room k (A.deeper (PyProof.Rows.envOfC qual (defScope st) s.heap.objs.size f cdv)) →
      PSs (cxOf (L2.CX P w) P w K mg base N qual (defScope st) f cdv A outer s H E) (defBody st) (lS K (fun c d _ H => E c d H) r))
    (hp : ∀ ds m Q PX, sp ds m Q PX → r (dEnds Q PX) (dstart N ds) m) : DefG P w K mg base (k + 1) x qual st ps dD kD sp := by
  obtain ⟨f, fd, e, G⟩ := G
  exact ⟨f, fd, e, G, fn_okG G S hlen hd hp⟩
theorem met_ok {n m qual : Str} {st : Stmt} {N ps : List Str} {k : Nat} {sp : SpD} {r : DS} {dD : List D} {kD : List (Str × D)} (G : MetAt K n m qual st dD kD) (S : FnScope N ps (defScope st)) (hlen : ∀ ds m Q PX, sp ds m Q PX → ds.length = ps.length)
    (hd : ∀ (f : Addr) (cdv : Value) (A : Around) (outer : List Env) (s : Shared) (H : Hp) (E : XK), Room k (A.deeper (PyProof.Rows.envOfC qual (defScope st) s.heap.objs.size f cdv)) →
      PSs (cxOf (L2.CX P w) P w K mg base N qual (defScope st) f cdv A outer s H E) (defBody st) (lS K (fun c d _ H => E c d H) r))
    (hp : ∀ ds m Q PX, sp ds m Q PX → r (dEnds Q PX) (dstart N ds) m) : MetG P w K mg base (k + 1) n m qual st ps dD kD sp := by
  obtain ⟨C, f, fd, h1, h2, h3, G⟩ := G
  exact ⟨C, f, fd, h1, h2, h3, G, fn_okG G S hlen hd hp⟩
theorem mk_ok {n qual : Str} {st : Stmt} {N ps : List Str} {k : Nat} {sp : SpD} {r : DS} {dD : List D} {kD : List (Str × D)} (G : MkAt K mg n qual st dD kD) (S : FnScope N ps (defScope st)) (hlen : ∀ ds m Q PX, sp ds m Q PX → ds.length = ps.length)
    (hd : ∀ (f : Addr) (cdv : Value) (A : Around) (outer : List Env) (s : Shared) (H : Hp) (E : XK), Room k (A.deeper (PyProof.Rows.envOfC qual (defScope st) s.heap.objs.size f cdv)) →
      PSs (cxOf (L2.CX P w) P w K mg base N qual (defScope st) f cdv A outer s H E) (defBody st) (lS K (fun c d _ H => E c d H) r))
    (hp : ∀ ds m Q PX, sp ds m Q PX → r (dEnds Q PX) (dstart N ds) m) : MkG P w K mg base (k + 1) n qual st ps dD kD sp := by
  obtain ⟨C, f, fd, h1, h2, h3, G⟩ := G
  exact ⟨C, f, fd, h1, h2, h3, G, fn_okG G S hlen hd hp⟩
end
section
variable {X : Cx} {W : WX} {a b c o : Expr} {ra rb rc ro : DE} {pos p apos : Pos} {e : Expr} {es args : List Expr} {kws : List Keyword} {qs qk : DA} {n m f x qual : Str} {ks ps : List Str} {st : Stmt} {k np : Nat} {dD : List D} {kD : List (Str × D)} {sp : SpD} {gD : List D → List D → List D}
theorem FunG.kp {K : PySem.W.Frag} {x qual : Str} {st : Stmt} {dD : List D} {kD : List (Str × D)} {f : Addr} {fd : FuncData} (G : FunG K x qual st dD kD f fd) : PySem.W.keepIn K (.ref f) = true := let ⟨_, _, F, _⟩ := G.ex; F.kp
/-- f(..) -/
def rCalG (sp : SpD) (np nk : Nat) (gD : List D → List D → List D) (qs qk : DA) : DE := fun δ m P PX => aCal np nk qs qk (fun xs zs m2 => sp (gD xs zs) m2 P PX) δ m PX
theorem pd_calG (G : DefG X.prog X.w X.K X.mg X.base k x qual st ps dD kD sp) (B : ∀ f fd, FunG X.K x qual st dD kD f fd → KBd X.K fd ps np ks gD) (hr : Room k X.A) (tk : Takes X W) (ca : Cal X W pos args kws ks qs qk) (hg : Gl X x := by rfl) (hdb : (x == ("__debug__" : Str)) = false := by decide) :
    PE X (.Call (.Name x p) args kws pos) (lE X.K W (rCalG sp np ks.length gD qs qk)) := by
  obtain ⟨f, fd, hm, G1, G2⟩ := G.ex
  obtain ⟨gg, gV, hb, hR⟩ := (B f fd G1).ex
  refine ⟨fun pins s σ H Q I h => ?_⟩
  obtain ⟨F, H0, m, δ, P, PX, ok, rs, h, g, gx⟩ := h
  refine wpAny_Call_Name_kw (ld_glob I hg hm ?_ hdb)
  refine ca.run (.ref f) [] pins s σ H (fun vs zs H2 => vs.length = np ∧ zs.length = ks.length ∧ lP X.K sp (gV vs zs) H2 Q (WE W σ)) _ G1.kp I (aCal_up ok rs h gx fun vs zs H' H0' m' ds es s1 ok1 r1 r2 l1 l2 h1 => ?_) fun us ws vs zs s2 H2 I2 r rz q => ?_
  · have e1 := r1.length.trans l1
    have e2 := r2.length.trans l2
    exact ⟨e1, e2, F, H0', m', _, P, PX, ok1, hR _ _ _ _ _ e1 e2 r1 r2, h1, g.mono s1, gx.mono s1⟩
  · exact run_kS G2 hr hb (passAt tk σ) I2 r rz q.1 q.2.1 q.2.2
/-- o.m(..), o an instance of the class n -/
def rMet (n m : Str) (sp : SpD) (np nk : Nat) (gD : List D → List D → List D) (ro : DE) (qs qk : DA) : DE := fun δ m0 P PX => ro δ m0 (fun o m1 => match insOf m1 n o with
  | some fs => match fs.lookup m with
    | some _ => False
    | none => aCal np nk qs qk (fun xs zs m2 => sp (gD (o :: xs) zs) m2 P PX) δ m1 PX
  | none => False) PX
theorem pd_met {pl : Sem Bool} (G : MetG X.prog X.w X.K X.mg X.base k n m qual st ps dD kD sp) (B : ∀ f fd, FunG X.K m qual st dD kD f fd → KBd X.K fd ps (np + 1) ks gD) (hr : Room k X.A) (tk : Takes X W) (ho : PE X o (lE X.K W ro)) (ca : Cal X W pos args kws ks qs qk)
    (ht : eval (.Call (.Attribute o m apos) args kws pos) X.env = (do
      let ov ← eval o X.env
      standAt apos.atName
      let (f, first) ← holding [ov] (getMethod ov m pl)
      callWith pos f first (backTo pos (starEach args X.env)) (backToKw pos (keywordEach kws X.env))) := by rfl) :
    PE X (.Call (.Attribute o m apos) args kws pos) (lE X.K W (rMet n m sp np ks.length gD ro qs qk)) := by
  obtain ⟨C, f, fd, hC, cC, hm, G1, G2⟩ := G.ex
  obtain ⟨gg, gV, hb, hR⟩ := (B f fd G1).ex
  refine ⟨fun pins s σ H Q I h => ?_⟩
  obtain ⟨F, H0, mm, δ, P, PX, ok, rs, h, g, gx⟩ := h
  refine PySem.W.methodCall_KW (pl := pl) (thn (ho.run pins s σ H (fun v H1 => ∃ a dx fv, v = .ref a ∧ H1 a = some (.ins C dx fv) ∧ fv.lookup m = none ∧ lA X.K W qs σ H1 (fun vs H2 => lA X.K W qk σ H2 fun zs H3 => vs.length = np ∧ zs.length = ks.length ∧ lP X.K sp (gV (.ref a :: vs) zs) H3 Q (WE W σ))) I ⟨F, H0, mm, δ, _, PX, ok, rs, h, fun v H1 H01 m1 d s1 ok1 r1 h1 => ?_, gx⟩) fun u s1 hh => ?_) ht
  · dsimp only at h1
    split at h1
    · rename_i fs e1
      obtain ⟨q, C', dx, fv, rfl, cA, hq, e2, t⟩ := insOf_rp ok1 r1 e1
      obtain rfl := hC.uniq cA
      split at h1
      · exact h1.elim
      · rename_i e3
        refine ⟨q, dx, fv, rfl, hq, lookup_none e2 e3, aCal_up ok1 (rs.mono s1) h1 (gx.mono s1) fun vs zs H' H0' m' ds es s2 ok2 rr1 rr2 l1 l2 h2 => ?_⟩
        have e4 := rr1.length.trans l1
        have e5 := rr2.length.trans l2
        exact ⟨e4, e5, F, H0', m', _, P, PX, ok2, hR _ _ _ _ _ (by simp [e4]) e5 (.cons (r1.mono s2) rr1) rr2, h2, g.mono (s1.trans s2), gx.mono (s1.trans s2)⟩
    · exact h1.elim
  · obtain ⟨v, H1, I1, rv, q, dx, fv, rfl, hq, hl, hA⟩ := hh
    obtain rfl : u = Value.ref q := rv
    refine getmeth_ok I1 hq cC hm hl (ca.run (.ref f) [.ref q] pins s1 σ H1 _ _ hm.kp I1 hA fun us ws vs zs s2 H2 I2 r rz z => ?_)
    exact run_kS (us := .ref q :: us) (vs := .ref q :: vs) G2 hr hb (passAt tk σ) I2 (.cons rfl r) rz (by simp [z.1]) z.2.1 z.2.2
/-- the instance x becomes data -/
theorem Ok.seal {K : PySem.W.Frag} {F H0 H : Hp} {m : Mu} {q : Addr} {n : Str} {fs : List (Str × D)} (ok : Ok K F H0 m H) (h : m q = some (.ins n fs)) : ∃ H0', Same H0 H0' ∧ Ok K F H0' (mdel m q) H ∧ Rp K H0' (.ref q) (.ins n fs) := by
  obtain ⟨h0, C, dx, fv, cA, hq, e, t⟩ := ok.cell q _ h
  have sn := same_new (o := HO.ins C dx fv) h0
  refine ⟨upd H0 q (.ins C dx fv), sn, ⟨fun b u z => ?_, fun b u z => ?_, fun b u z => ?_⟩, .ins cA upd_same e (t.mono sn)⟩
  · by_cases hb : b = q
    · subst hb; rw [upd_same] at z; cases z; exact hq
    · rw [upd_ne hb] at z; exact ok.same b u z
  · unfold mdel at z
    by_cases hb : b = q
    · rw [if_pos hb] at z; cases z
    · rw [if_neg hb] at z
      obtain ⟨c1, c2⟩ := ok.cell b u z
      exact ⟨by rw [upd_ne hb]; exact c1, c2.mono sn rfl⟩
  · obtain ⟨c1, c2, c3⟩ := ok.fr b u z
    have hb : b ≠ q := fun w => by rw [w, h] at c3; cases c3
    exact ⟨c1, by rw [upd_ne hb]; exact c2, by unfold mdel; rw [if_neg hb]; exact c3⟩
theorem Ok.less {K : PySem.W.Frag} {F H0 H : Hp} {m : Mu} (ok : Ok K F H0 m H) (q : Addr) : Ok K F H0 (mdel m q) H := ok.weak fun b u z => by
  unfold mdel at z
  split at z
  · cases z
  · exact z
theorem Ok.born {K : PySem.W.Frag} {F H0 H : Hp} {m : Mu} {q dx C : Addr} {n : Str} (ok : Ok K F H0 m H) (hq : H q = none) (hd : H dx = none) (hne : dx ≠ q) (cA : ClsAt K n C) : Ok K F H0 (mset m q (.ins n [])) (upd (upd H dx (.own q)) q (.ins C dx [])) := by
  have ok1 : Ok K F H0 m (upd H dx (.own q)) := ⟨fun b u z => by rw [upd_ne (ne_of_none (ok.same b u z) hd)]; exact ok.same b u z, fun b u z => by
    obtain ⟨c1, c2⟩ := ok.cell b u z
    obtain ⟨y, hy⟩ := c2.some
    exact ⟨c1, c2.mono (Same.refl _) (upd_ne (ne_of_none hy hd))⟩, fun b u z => by
    obtain ⟨c1, c2, c3⟩ := ok.fr b u z
    exact ⟨by rw [upd_ne (ne_of_none c1 hd)]; exact c1, c2, c3⟩⟩
  exact ok1.newM (o := .ins n []) (by rw [upd_ne (Ne.symm hne)]; exact hq) ⟨C, dx, [], cA, upd_same, rfl, .nil⟩
theorem run_mk {pins : List (Addr × Obj)} {σ : St} {H : Hp} {s : Shared} {Q : VK} {E : XK} {C fI : Addr} {fd : FuncData} {gg : List Value → List Value → List Value} {gV : List V → List V → List V} {spH : Sp} {us ws : List Value} {vs zs : List V} (M : Mk X.K C fI) (G : FnOk X.prog X.w X.K X.mg X.base (L2.CX X.prog X.w) k fI fd ps spH) (hr : Room (k + 1) X.A)
    (hb : KBn X.K fd ps (np + 1) ks gg gV) (hx : PassesAt (L2.CX X.prog X.w) X σ E) (I : L2.Inv X pins σ H s) (r : Vals vs us) (rz : Vals zs ws) (l1 : vs.length = np) (l2 : zs.length = ks.length)
    (h : ∀ q dx, H q = none → H dx = none → dx ≠ q → spH (gV (.ref q :: vs) zs) (upd (upd H dx (.own q)) q (.ins C dx [])) (fun v H2 => v = .non ∧ Q (.ref q) H2) E) : wpAny (model X.prog X.w) X.A (call (.ref C) us (ks.zip ws)) (EP X pins σ Q) X.xe s := by
  have n1 := I.hok.fresh (Nat.le_succ s.heap.objs.size)
  have n2 := I.hok.fresh (Nat.le_refl s.heap.objs.size)
  have hne : s.heap.objs.size ≠ s.heap.objs.size + 1 := by omega
  have J := L2.Inv.made (C := C) I
  have rs : Vals (V.ref (s.heap.objs.size + 1) :: vs) (Value.ref (s.heap.objs.size + 1) :: us) := .cons rfl r
  have el : (Value.ref (s.heap.objs.size + 1) :: us).length = np + 1 := by rw [← rs.length]; simp [l1]
  have run := G.run _ X.stack _ _ ⟨Value.ref (s.heap.objs.size + 1) :: us, ks.zip ws⟩ _ _ _ E (hr.make C us (ks.zip ws)) (J.env0.make C us (ks.zip ws)) (hb.to _ _ ws J.kIn el (rz.length.symm.trans l2)) (hb.rel rs rz) (h _ _ n1 n2 hne)
  refine wpAny_call (make_map (f := fI) I.kIn M.makes M.init (beq_iff_eq.mp M.fn) (codeAny_mono run fun res s' hq => ?_))
  cases res with
  | error er => exact hx pins _ _ er s' J hq
  | ok fl => cases fl with
    | ret u =>
      obtain ⟨v, H', J', rv, ev, q⟩ := J.after hq
      subst ev
      exact ⟨rv, .ref (s.heap.objs.size + 1), H', J', rfl, q⟩
    | _ => exact False.elim hq
/-- C(..), the new instance data from then on -/
def rMk (n : Str) (sp : SpD) (np nk : Nat) (gD : List D → List D → List D) (qs qk : DA) : DE := fun δ m P PX => aCal np nk qs qk (fun xs zs m2 => ∀ q, m2 q = none → sp (gD (.adr q :: xs) zs) (mset m2 q (.ins n []))
  (fun v m3 => v = .non ∧ ∃ fs, m3 q = some (.ins n fs) ∧ P (.ins n fs) (mdel m3 q)) fun c fs m3 => PX c fs (mdel m3 q)) δ m PX
/-- .. one of ours that may change -/
def rMkM (n : Str) (sp : SpD) (np nk : Nat) (gD : List D → List D → List D) (qs qk : DA) : DE := fun δ m P PX => aCal np nk qs qk (fun xs zs m2 => ∀ q, m2 q = none → sp (gD (.adr q :: xs) zs) (mset m2 q (.ins n []))
  (fun v m3 => v = .non ∧ P (.adr q) m3) fun c fs m3 => PX c fs (mdel m3 q)) δ m PX
theorem mk_core {Pf : Addr → DK → DK} (hPf : ∀ F H0 m H q v d P Q, Ok X.K F H0 m H → Rp X.K H0 v d → Pf q P d m → GV X.K F H0 P Q → v = .non ∧ Q (.ref q) H) (G : MkG X.prog X.w X.K X.mg X.base k n qual st ps dD kD sp) (B : ∀ f fd, FunG X.K "__init__" qual st dD kD f fd → KBd X.K fd ps (np + 1) ks gD) (hr : Room (k + 1) X.A) (tk : Takes X W) (ca : Cal X W pos args kws ks qs qk) (hg : Gl X n) (hdb : (n == ("__debug__" : Str)) = false) :
    PE X (.Call (.Name n p) args kws pos) (lE X.K W fun δ m P PX => aCal np ks.length qs qk (fun xs zs m2 => ∀ q, m2 q = none → sp (gD (.adr q :: xs) zs) (mset m2 q (.ins n [])) (Pf q P) fun c fs m3 => PX c fs (mdel m3 q)) δ m PX) := by
  obtain ⟨C, fI, fd, hm, cA, M, G1, G2⟩ := G.ex
  obtain ⟨gg, gV, hb, hR⟩ := (B fI fd G1).ex
  refine ⟨fun pins s σ H Q I h => ?_⟩
  obtain ⟨F, H0, m, δ, P, PX, ok, rs, h, g, gx⟩ := h
  refine wpAny_Call_Name_kw (ld_glob I hg hm ?_ hdb)
  refine ca.run (.ref C) [] pins s σ H (fun vs zs H2 => vs.length = np ∧ zs.length = ks.length ∧ ∀ q dx, H2 q = none → H2 dx = none → dx ≠ q → lP X.K sp (gV (.ref q :: vs) zs) (upd (upd H2 dx (.own q)) q (.ins C dx [])) (fun v H3 => v = .non ∧ Q (.ref q) H3) (WE W σ)) _ M.kp I (aCal_up ok rs h gx fun vs zs H' H0' m' ds es s1 ok1 r1 r2 l1 l2 h1 => ?_) fun us ws vs zs s2 H2 I2 r rz q => ?_
  · have e1 := r1.length.trans l1
    have e2 := r2.length.trans l2
    refine ⟨e1, e2, fun q dx hq hdx hne => ⟨F, H0', _, _, Pf q P, fun c fs m3 => PX c fs (mdel m3 q), ok1.born hq hdx hne cA, hR _ _ _ _ _ (by simp [e1]) e2 (.cons (.adr q) r1) r2, h1 q (ok1.free hq).2, fun v H3 H03 m3 d s3 ok3 r3 h3 => ?_, fun cc xd H3 H03 m3 fs s3 ok3 x z => (gx.mono s1) cc xd H3 H03 _ fs s3 (ok3.less q) x z⟩⟩
    exact hPf F H03 m3 H3 q v d P Q ok3 r3 h3 (g.mono (s1.trans s3))
  · exact run_mk M G2 hr hb (passAt tk σ) I2 r rz q.1 q.2.1 q.2.2
theorem pd_mk (G : MkG X.prog X.w X.K X.mg X.base k n qual st ps dD kD sp) (B : ∀ f fd, FunG X.K "__init__" qual st dD kD f fd → KBd X.K fd ps (np + 1) ks gD) (hr : Room (k + 1) X.A) (tk : Takes X W) (ca : Cal X W pos args kws ks qs qk) (hg : Gl X n := by rfl) (hdb : (n == ("__debug__" : Str)) = false := by decide) :
    PE X (.Call (.Name n p) args kws pos) (lE X.K W (rMk n sp np ks.length gD qs qk)) :=
  mk_core (Pf := fun q P v m3 => v = .non ∧ ∃ fs, m3 q = some (.ins n fs) ∧ P (.ins n fs) (mdel m3 q)) (fun F H0 m H q v d P Q ok r h g => by
    obtain ⟨rfl, fs, e, h⟩ := h
    cases r
    obtain ⟨H0', s, ok', r'⟩ := ok.seal e
    exact ⟨rfl, g _ _ _ _ _ s ok' r' h⟩) G B hr tk ca hg hdb
theorem pd_mkM (G : MkG X.prog X.w X.K X.mg X.base k n qual st ps dD kD sp) (B : ∀ f fd, FunG X.K "__init__" qual st dD kD f fd → KBd X.K fd ps (np + 1) ks gD) (hr : Room (k + 1) X.A) (tk : Takes X W) (ca : Cal X W pos args kws ks qs qk) (hg : Gl X n := by rfl) (hdb : (n == ("__debug__" : Str)) = false := by decide) :
    PE X (.Call (.Name n p) args kws pos) (lE X.K W (rMkM n sp np ks.length gD qs qk)) :=
  mk_core (Pf := fun q P v m3 => v = .non ∧ P (.adr q) m3) (fun F H0 m H q v d P Q ok r h g => by
    obtain ⟨rfl, h⟩ := h
    cases r
    exact ⟨rfl, g _ _ _ _ _ (Same.refl _) ok (.adr q) h⟩) G B hr tk ca hg hdb
end
end DL

/-! ### isinstance of an exception that has fields -/
namespace DLX
open PySem PySem.W PySem.Spec PySem.Calls PyProof.Rows
section
variable {P : Program} {w : World} {A : Around} {E : Value → Shared → Prop} {s : Shared} {K : Frag} {q C : Addr} {oq od : Obj}
theorem class_of {R : Option Value → Shared → Prop} (T : L2.ExcC K C) (X : K.In s.heap) (J : InstAt s.heap q oq C (some od)) (h : R (some (.ref C)) { s with toks := s.toks + 1 }) : wpAny (model P w) A (getAttr? (.ref q) "__class__") R E s := by
  have ic : (clsIn K C).isSome = true := by
    obtain ⟨cd, hc, _⟩ := any_some T.hd
    rw [hc]
    rfl
  have found : findObj K C (some od) "__class__" = some (.bind (.builtin "getset_descriptor.__get__") (.builtin "object.__class__")) := findObj_data ic T.ha T.hn T.ht
  obtain ⟨hp, g, d, t, os⟩ := s
  have ty := J.type (M := model P w)
  have ga := looks_findIn (M := model P w) X T.hg
  have gt := looks_findIn (M := model P w) X T.hk
  have fo := looks_find (M := model P w) X J found
  have isx : Looks (model P w) hp (isInstance (.ref q) (.type "BaseException")) true := ty.andThen (looks_subIn X T.hs)
  have n0 : (false && onTheHeap (Value.builtin "BaseException.__getattribute__")) = false := rfl
  have n1 : (onTheHeap (Value.ref C) && Value.builtin "BaseException.__getattribute__" == Value.builtin "object.__getattribute__") = false := by
    rw [show (Value.builtin "BaseException.__getattribute__" == Value.builtin "object.__getattribute__") = false by decide +kernel]; rfl
  unfold getAttr? getAttrBy? getAttrBy
  refine wpAny_bind (wpAny_mkText ?_)
  refine wpAny_bind (wpAny_attempt (wpAny_holding ?_))
  refine wpAny_bind (ty.at ?_)
  refine wpAny_bind (ga.at ?_)
  show wpAny _ _ (if (onTheHeap (Value.ref C) && Value.builtin "BaseException.__getattribute__" == Value.builtin "object.__getattribute__") = true then _ else _) _ _ _
  rw [n1, if_neg (by decide)]
  unfold getAttrByItsOwn hookBefore
  refine wpAny_bind ?_
  rw [if_pos (show onTheHeap (Value.ref C) = true from rfl)]
  refine gt.at (wpAny_bind (wpAny_attempt (wpAny_holding ?_)))
  unfold callGetattribute
  rw [n0, if_neg (by decide)]
  unfold boundAndCalled
  rw [PySem.F.excAttr_ValueError.ga.bind (.ref q)]
  refine wpAny_bind (wpAny_pure ?_)
  show wpAny _ _ (call (.builtin "BaseException.__getattribute__") [.ref q, .str "__class__" t]) _ _ _
  refine wpAny_call (codeAny_call_builtin PySem.F.excAttr_ValueError.ga.plain PySem.F.entry_bexc_ga ?_)
  refine @check_slot (model P w) _ _ ⟨hp, g, d, t + 1, os⟩ "BaseException.__getattribute__" "BaseException" "__getattribute__" (.ref q) [.str "__class__" t] [] _ (by decide +kernel) (by decide +kernel) isx (PySem.F.args_bexc_ga (.ref q) (.str "__class__" t)) ?_
  unfold Builtin.«object.__getattribute__»
  refine wpAny_bind (wpAny_of_eq (a := ((Value.ref q : Value), [Value.str "__class__" t])) (by first | rfl | (simp only [slotArgs]; rfl)) ?_)
  refine wpAny_bind (wpAny_pure ?_)
  refine wpAny_bind (ty.at ?_)
  refine wpAny_bind (fo.at ?_)
  show wpAny _ _ (holding [Value.builtin "object.__class__"] (call (.builtin "getset_descriptor.__get__") [.builtin "object.__class__", .ref q, .ref C]) >>= ret) _ _ _
  refine wpAny_bind (wpAny_holding (wpAny_call (class_get (s := ⟨hp, g, d, t + 1, os⟩) (ox := oq) (od := some od) X J T.hm ?_)))
  refine wpAny_pure ?_
  show wpAny _ _ (handedOut (.ref C)) _ _ _
  rw [handedOut_of (v := .ref C) rfl]
  first
    | exact wpAny_pure (wpAny_pure h)
    | exact wpAny_pure h
    | exact wpAny_pure (wpAny_bind (wpAny_pure (wpAny_pure h)))
theorem kitx_xd (T : L2.ExcC K C) : KitX K (.ref q) (.ref C) (fun h => InstAt h q oq C (some od)) where
  ty := fun _ _ _ J => J.type
  it := fun _ _ X _ => by
    obtain ⟨cd, hc, _⟩ := any_some T.hd
    unfold clsIn at hc
    split at hc
    · rename_i c1 d1 cd1 sl1 ho
      intro A1 Q1 E1 s1 k q1
      unfold isType loadHead
      refine wpAny_bind (wpAny_loadPart (k _ _ (X _ _ ho)) ?_)
      exact wpAny_pure q1
    · cases hc
  ne := fun h tp dd its n sl X htp => by
    obtain ⟨cd, hc, _⟩ := any_some T.hd
    refine Bool.eq_false_iff.mpr fun z => ?_
    obtain rfl : C = tp := Value.ref.inj (beq_iff_eq.mp z)
    unfold clsIn at hc
    split at hc
    · rename_i c1 d1 cd1 sl1 ho
      have := (X _ _ ho).symm.trans htp
      cases this
    · cases hc
  ca := fun X J k => class_of T X J k
end
end DLX
namespace DL
open PySem L2
/-! ### the kinds of refusals of the program -/
def exNames : List Str := ["TrialError", "BadLook", "BadAsk", "BadWish", "BadPlan", "BadRule", "BadRooms", "BadTrial", "NoRow", "TooMany", "TooLong", "TooDeep", "Barred", "BadText", "NoAnswer", "NoName"]
/-- is the class n under the class c -/
def exSub (n c : Str) : Bool := n == c || (if n == "NoAnswer" then c == "LookupError" else if n == "NoName" then c == "KeyError" || c == "LookupError" else c == "TrialError" || c == "ValueError") || c == "Exception" || c == "BaseException" || c == "object"
/-- what an except clause of the class c, at cv, catches -/
structure ExF (K : PySem.W.Frag) (c : Str) (cv : Value) : Prop where
  ok : ∀ n ∈ exNames, ∀ C, ClsAt K n C → PySem.W.exmOne K (.ref C) cv = some (exSub n c)
def exB (K : PySem.W.Frag) (c : Str) (cv : Value) : Bool := exNames.all fun n => match clsAddr K n with
  | none => true
  | some C => decide (PySem.W.exmOne K (.ref C) cv = some (exSub n c))
theorem exB_ok {K : PySem.W.Frag} {c : Str} {cv : Value} (h : exB K c cv = true) : ExF K c cv := ⟨fun n hn C hC => by
  have := List.all_eq_true.mp h n hn
  rw [hC.addr] at this
  exact of_decide_eq_true this⟩
/-- the name x of an except clause: a class of the text or a built-in one -/
def ExAt (K : PySem.W.Frag) (mg : Str → Option Value) (x : Str) : Prop := ∃ cv, (mg x = some cv ∨ (mg x = none ∧ bootBuiltins x = some cv ∧ x ≠ "__name__")) ∧ ExF K x cv
theorem exAt_own {K : PySem.W.Frag} {h : Heap} {mg : Str → Option Value} {x : Str} {C : Addr} (X : K.In h) (G : h.Ns mainGlobals mg) (a : PySem.W.nsIn K mainGlobals x = some (some (.ref C))) (b : exB K x (.ref C) = true) : ExAt K mg x := ⟨.ref C, .inl (PySem.W.mg_of X G a), exB_ok b⟩
/-- fields and isinstance of exceptions, for those of the text -/
structure XcK (K : PySem.W.Frag) (C : Addr) : Prop where
  xf : XfC K C
  ec : ExcC K C
def xckB (K : PySem.W.Frag) (C : Addr) : Bool := xfB K C && decide (PySem.W.findIn K (.ref C) "__getattribute__" = some (some (.builtin "BaseException.__getattribute__"))) && decide (PySem.W.findIn K (.ref C) "__getattr__" = some none) && decide (PySem.W.subIn K (.ref C) (.type "BaseException") = some true) && PySem.W.hasDictIn K C &&
  decide (PySem.W.findIn K (.ref C) "__class__" = some (some (.builtin "object.__class__"))) && decide (PySem.W.specialIn K (.builtin "object.__class__") "__get__" = some (some (.builtin "getset_descriptor.__get__"))) && decide (PySem.W.takesIn K (.builtin "object.__class__") = some true) && decide (PySem.W.mroIn K C (.type "object") = some true)
theorem xckB_ok {K : PySem.W.Frag} {C : Addr} (h : xckB K C = true) : XcK K C := by
  simp only [xckB, Bool.and_eq_true, decide_eq_true_eq] at h
  exact ⟨xfB_ok h.1.1.1.1.1.1.1.1, ⟨h.1.1.1.1.1.1.1.2, h.1.1.1.1.1.1.2, h.1.1.1.1.1.2, h.1.1.1.1.2, h.1.1.1.2, h.1.1.2, h.1.2, h.2⟩⟩
structure XcF (K : PySem.W.Frag) : Prop where
  ok : ∀ n ∈ exNames, ∀ C, ClsAt K n C → XcK K C
def xcB (K : PySem.W.Frag) : Bool := exNames.all fun n => match clsAddr K n with
  | none => true
  | some C => xckB K C
theorem xcB_ok {K : PySem.W.Frag} (h : xcB K = true) : XcF K := ⟨fun n hn C hC => by
  have := List.all_eq_true.mp h n hn
  rw [hC.addr] at this
  exact xckB_ok this⟩
section
variable {X : Cx} {W : WX} {a : Addr} {oe : Obj} {cls : Value} {d : Option Addr} {pn : List (Addr × Obj)} {e : Expr} {ra : DE} {pos p : Pos} {f x : Str} {es : List Expr} {qs : DA}
/-- e.f in a suite -/
structure XnF (K : PySem.W.Frag) (f : Str) : Prop where
  ok : ∀ n ∈ exNames, ∀ C, ClsAt K n C → PySem.W.findIn K (.ref C) f = some none
def xnB (K : PySem.W.Frag) (f : Str) : Bool := exNames.all fun n => match clsAddr K n with
  | none => true
  | some C => decide (PySem.W.findIn K (.ref C) f = some none)
theorem xnB_ok {K : PySem.W.Frag} {f : Str} (h : xnB K f = true) : XnF K f := ⟨fun n hn C hC => by
  have := List.all_eq_true.mp h n hn
  rw [hC.addr] at this
  exact of_decide_eq_true this⟩
def rXf (a : Addr) (cls : Value) (d : Option Addr) (f : Str) (ra : DE) : DE := fun δ m P PX => ra δ m (fun y m1 => match y with
  | .exc a' C dd n fs => (a' = a ∧ cls = .ref C ∧ d = some dd ∧ n ∈ exNames) ∧ match fs.lookup f with
    | some v => P v m1
    | none => False
  | _ => False) PX
theorem pd_xf (T : XcF X.K) (T2 : XnF X.K f) (hz : Zc cls d oe) (hf : ∃ vs, oe.data = .fields vs) (he : PE (X.suite a ((a, oe) :: pn)) e (lE X.K W ra)) (hb : attributeBase e f X.env (eval e X.env) = eval e X.env := by rfl) :
    PE (X.suite a ((a, oe) :: pn)) (.Attribute e f pos) (lE X.K W (rXf a cls d f ra)) := by
  refine ⟨fun pins s σ H Q I h => ?_⟩
  by_cases hC : ∃ C n, cls = .ref C ∧ n ∈ exNames ∧ ClsAt X.K n C
  · obtain ⟨C, n, e1, hn, hA⟩ := hC
    refine (pe_xf (T.ok n hn C hA).xf (T2.ok n hn C hA) hz hf he hb).run pins s σ H Q I ?_
    obtain ⟨F, H0, m, δ, P, PX, ok, rs, h, g, gx⟩ := h
    refine ⟨F, H0, m, δ, _, PX, ok, rs, h, fun v H1 H01 m1 dd s1 ok1 r1 h1 => ?_, gx⟩
    dsimp only at h1
    split at h1
    · obtain ⟨⟨rfl, e2, e3, _⟩, h1⟩ := h1
      split at h1
      · rename_i v' e4
        cases r1 with
        | exc c hq e5 t =>
          obtain ⟨y, e6, ry⟩ := lookup_rp e5 t e4
          exact ⟨rfl, e1, _, _, y, e3, ok1.same _ _ hq, e6, g _ _ _ _ _ s1 ok1 ry h1⟩
      · exact h1.elim
    · exact h1.elim
  · obtain ⟨F, H0, m, δ, P, PX, ok, rs, h, g, gx⟩ := h
    refine attr_of hb (thn (he.run pins s σ H (fun _ _ => False) I ⟨F, H0, m, δ, _, PX, ok, rs, h, fun v H1 H01 m1 dd s1 ok1 r1 h1 => ?_, gx⟩) fun u s1 hh => ?_)
    · dsimp only at h1
      split at h1
      · obtain ⟨⟨rfl, e2, e3, hn⟩, h1⟩ := h1
        cases r1 with
        | exc c hq e5 t => exact hC ⟨_, _, e2, hn, c⟩
      · exact h1.elim
    · obtain ⟨_, _, _, _, z⟩ := hh
      exact z.elim
/-- isinstance(e, c) in a suite, c a class or some of them -/
def exTys : List String := ["ValueError", "LookupError", "KeyError", "ZeroDivisionError"]
structure XiF (K : PySem.W.Frag) : Prop where
  own : ∀ n ∈ exNames, ∀ C, ClsAt K n C → ∀ k ∈ exNames, ∀ C', ClsAt K k C' → PySem.W.kitOne K (.ref C) (.ref C') = some (exSub n k)
  ty : ∀ n ∈ exNames, ∀ C, ClsAt K n C → ∀ k ∈ exTys, PySem.W.kitOne K (.ref C) (.type k) = some (exSub n (Str.ofString k))
def xiB (K : PySem.W.Frag) : Bool := exNames.all fun n => match clsAddr K n with
  | none => true
  | some C => (exNames.all fun k => match clsAddr K k with
    | none => true
    | some C' => decide (PySem.W.kitOne K (.ref C) (.ref C') = some (exSub n k))) && exTys.all fun k => decide (PySem.W.kitOne K (.ref C) (.type k) = some (exSub n (Str.ofString k)))
theorem xiB_ok {K : PySem.W.Frag} (h : xiB K = true) : XiF K := by
  refine ⟨fun n hn C hC k hk C' hC' => ?_, fun n hn C hC k hk => ?_⟩
  · have := List.all_eq_true.mp h n hn
    rw [hC.addr] at this
    simp only [Bool.and_eq_true] at this
    have := List.all_eq_true.mp this.1 k hk
    rw [hC'.addr] at this
    exact of_decide_eq_true this
  · have := List.all_eq_true.mp h n hn
    rw [hC.addr] at this
    simp only [Bool.and_eq_true] at this
    exact of_decide_eq_true (List.all_eq_true.mp this.2 k hk)
def isX1 (n : Str) : D → Option Bool
  | .glb k => if k ∈ exNames then some (exSub n k) else none
  | .ty k => if k ∈ exTys then some (exSub n (Str.ofString k)) else none
  | _ => none
def isXs (n : Str) : List D → Option Bool
  | [] => some false
  | d :: r => match isX1 n d, isXs n r with
    | some b, some c => some (b || c)
    | _, _ => none
theorem isX1_ok {K : PySem.W.Frag} {H : Hp} (T : XiF K) {n : Str} {C : Addr} (hn : n ∈ exNames) (hC : ClsAt K n C) {v : V} {c : D} {b : Bool} {u : Value} (r : Rp K H v c) (h : isX1 n c = some b) (ru : RelV v u) : PySem.W.kitOne K (.ref C) u = some b := by
  unfold isX1 at h
  split at h
  · split at h
    · rename_i hk
      cases h
      cases r with
      | glb z => cases (show u = Value.ref _ from ru); exact T.own n hn C hC _ hk _ z
    · cases h
  · split at h
    · rename_i hk
      cases h
      cases r
      cases (show u = Value.type _ from ru)
      exact T.ty n hn C hC _ hk
    · cases h
  · cases h
theorem isXs_ok {K : PySem.W.Frag} {H : Hp} (T : XiF K) {n : Str} {C : Addr} (hn : n ∈ exNames) (hC : ClsAt K n C) : ∀ {vs : List V} {cs : List D} {b : Bool} {us : List Value}, RpL K H vs cs → isXs n cs = some b → Vals vs us → PySem.W.kitAny K (.ref C) us = some b
  | _, _, _, _, .nil, h, .nil => by cases h; rfl
  | _, _, b, _, .cons r1 r2, h, .cons u1 u2 => by
    unfold isXs at h
    split at h
    · rename_i b1 b2 e1 e2
      cases h
      have h1 := isX1_ok T hn hC r1 e1 u1
      have h2 := isXs_ok T hn hC r2 e2 u2
      unfold PySem.W.kitAny
      rw [h1]
      cases b1
      · simpa using h2
      · rfl
    · cases h
def cIsX (a : Addr) (cls : Value) (d : Option Addr) : DC := fun xs m P => match xs with
  | [.exc a' C dd n fs, c] => (a' = a ∧ cls = .ref C ∧ d = some dd ∧ n ∈ exNames) ∧ match (match c with | .tup ds => isXs n ds | c => isX1 n c) with
    | some b => P (.bl b) m
    | none => False
  | _ => False
theorem pd_isX {e1 e2 : Expr} (T : XcF X.K) (T2 : XiF X.K) (hz : Zc cls d oe) (hf : ∃ vs, oe.data = .fields vs) (hm : X.mg "isinstance" = none) (hv : bootBuiltins "isinstance" = some (.builtin "isinstance")) (ha : PA (X.suite a ((a, oe) :: pn)) [e1, e2] (lA X.K W qs)) (hg : Gl (X.suite a ((a, oe) :: pn)) "isinstance" := by rfl)
    (he : starEach [e1, e2] X.env = (false, eval e1 X.env) :: starEach [e2] X.env := by rfl) (hpl : (backTo pos (starEach [e2] X.env)).any (·.1) = false := by rfl) : PE (X.suite a ((a, oe) :: pn)) (.Call (.Name "isinstance" p) [e1, e2] [] pos) (lE X.K W (rCB (cIsX a cls d) qs)) := by
  have cr : CallR (X.suite a ((a, oe) :: pn)) (.builtin "isinstance") (fun vs H Q => ∃ (v : V) (b : Bool) (C : Addr) (n : Str), vs = [.ref a, v] ∧ cls = .ref C ∧ n ∈ exNames ∧ ClsAt X.K n C ∧ (∃ dd fv, d = some dd ∧ H dd = some (.xd fv)) ∧
      ((∀ u, RelV v u → PySem.W.kitOne X.K (.ref C) u = some b) ∨ ∃ tp ws, v = .ref tp ∧ SqT X.K H tp ws ∧ ∀ us, Vals ws us → PySem.W.kitAny X.K (.ref C) us = some b) ∧ Q (.bl b) H) := by
    intro pins s σ H xs us Q I r h
    obtain ⟨v, b, C, n, rfl, rfl, hn, hA, ⟨dd, fv, rfl, hd⟩, hk, q⟩ := h
    obtain ⟨hget, _⟩ := I.pin (a, oe) (List.mem_append.mpr (.inl List.mem_cons_self))
    obtain ⟨vs, hvs⟩ := hf
    obtain ⟨mA, hns, _⟩ : ObjOk X.prog X.w H s.heap dd (.xd fv) := I.hok dd _ hd
    obtain ⟨od, ho, _⟩ := lookIn_ns hns
    have J : PySem.W.InstAt s.heap a oe C (some od) := ⟨hget, hz.1, by unfold PySem.W.notCls; rw [hvs] <;> rfl, by rw [hz.2]; exact ho⟩
    have Z := DLX.kitx_xd (K := X.K) (q := a) (oq := oe) (od := od) (T.ok n hn C hA).ec
    cases r with
    | cons rx rr =>
      cases rr with
      | cons rt rr =>
        cases rr
        cases rx
        rcases hk with hk | ⟨tp, ws, rfl, ht, hk⟩
        · exact PySem.W.kia_one Z I.kIn J (hk _ rt) (fun z => nomatch z) fun tk => ⟨.bl b, H, I.kept (t' := tk) fun _ _ z => z, rfl, q⟩
        · cases rt
          obtain ⟨its, rv, ⟨o, h1, h2, nn, h3⟩, _⟩ := I.tuple ht
          have hk2 := hk its rv
          obtain ⟨oc, od', dt, sl⟩ := o
          simp only at h2 h3
          subst h2 h3
          exact PySem.W.kia_tup Z I.kIn J h1 hk2 (fun z => nomatch z) fun tk => ⟨.bl b, H, I.kept (t' := tk) fun _ _ z => z, rfl, q⟩
  refine pd_callB cr (fun F H0 m H vs ds P Q ok r h g => ?_) hm hv ha hg (by decide) (by decide) he hpl
  unfold cIsX at h
  split at h
  · rename_i a' C dd n fs c
    obtain ⟨⟨rfl, e2, e3, hn⟩, h⟩ := h
    obtain ⟨v, w, rfl, q1, q2⟩ := r.two
    cases q1 with
    | exc hA hq e5 t =>
      split at h
      · rename_i b eb
        refine ⟨w, b, C, n, rfl, e2, hn, hA, ⟨dd, _, e3, ok.same _ _ hq⟩, ?_, g.id ok (.bl _) h⟩
        split at eb
        · obtain ⟨tp, ws, rfl, ht, rw'⟩ := tup_rp ok q2
          exact .inr ⟨tp, ws, rfl, ht, fun us hu => isXs_ok T2 hn hA rw' eb hu⟩
        · exact .inl fun u hu => isX1_ok T2 hn hA q2 eb hu
      · exact h.elim
  · exact h.elim
end
/-! ### raise -/
/-- what the text says of a refusal's class whose __init__ is TrialError's own -/
def oexB (K : PySem.W.Frag) (C : Addr) : Bool := decide (PySem.W.findIn K (.ref C) "__setattr__" = some (some (.builtin "object.__setattr__"))) && decide (PySem.W.subIn K (.ref C) (.type "BaseException") = some true) && decide (PySem.W.typeIn K (.ref C) = some (.type "type")) && PySem.W.keepIn K (.ref C) &&
  match K.lookup C with
  | some ⟨.type "type", _, .cls cd, sl⟩ => match cd.mro, sl.toList with
    | .ref C' :: bm, [_, _, _, _, some (.builtin n), _] => C' == C && n == "ValueError.__new__" && !cd.hasDel && cd.hasDict && PySem.HandSPX.refsVE bm
    | _, _ => false
  | _ => false
theorem oexB_ok {K : PySem.W.Frag} {C : Addr} (h : oexB K C = true) : OexC K C := by
  simp only [oexB, Bool.and_eq_true, decide_eq_true_eq] at h
  obtain ⟨⟨⟨⟨h1, h2⟩, h3⟩, h4⟩, h5⟩ := h
  refine ⟨?_, h1, h2, h3, h4⟩
  split at h5
  · rename_i dd cd sl ho
    split at h5
    · rename_i C' bm k0 k1 k2 k3 n k5 hm hs
      simp only [Bool.and_eq_true, beq_iff_eq, Bool.not_eq_true'] at h5
      obtain ⟨⟨⟨⟨rfl, rfl⟩, hdel⟩, hdi⟩, hr⟩ := h5
      obtain ⟨nm, bs, mro, ns, qn, hd, sn, sub, ab, col, del⟩ := cd
      dsimp only at hm hdel hdi
      subst hm hdel hdi
      obtain ⟨l⟩ := sl
      simp only at hs
      subst hs
      exact ⟨nm, qn, ns, bs, bm, sn, sub, ab, col, dd, k0, k1, k2, k3, k5, ho, hr⟩
    · cases h5
  · cases h5
def spTE (K : PySem.W.Frag) : Sp := fun vs H Q _ => ∃ (a C : Addr) (y : V), vs = [.ref a, y] ∧ OexC K C ∧ PySem.W.findIn K (.ref C) "why" = some none ∧ H a = some (exo a C none) ∧ ∀ dx, H dx = none → dx ≠ a → Q .non (upd (upd H dx (exd dx [("why", y)])) a (exo a C (some dx)))
/-- the refusal n, its class at C, made by the __init__ at fI -/
structure XMk (P : Program) (w : World) (K : PySem.W.Frag) (mg : Str → Option Value) (base : Heap) (k : Nat) (n : Str) (ps : List Str) (spX : PySem.W.Frag → Sp) (B : FuncData → Prop) : Prop where
  ex : ∃ C fI fd, mg n = some (.ref C) ∧ ClsAt K n C ∧ OexC K C ∧ PySem.W.findIn K (.ref C) "__init__" = some (some (.ref fI)) ∧ PySem.W.typeIn K (.ref fI) = some (.type "function") ∧ PySem.W.findIn K (.ref C) "why" = some none ∧ B fd ∧ FnOk P w K mg base (L2.CX P w) k fI fd ps (spX K)
theorem Ok.xd {K : PySem.W.Frag} {F H0 H : Hp} {m : Mu} {q dx C : Addr} {fs : List (Str × V)} (ok : Ok K F H0 m H) (hq : H q = none) (hd : H dx = none) (hne : dx ≠ q) :
    upd (del (upd (upd (upd H q (exo q C none)) dx (exd dx fs)) q (exo q C (some dx))) q) dx (.xd fs) = upd H dx (.xd fs) := by
  funext b
  by_cases h1 : b = dx
  · subst h1; rw [upd_same, upd_same]
  · rw [upd_ne h1, upd_ne h1]
    by_cases h2 : b = q
    · subst h2; rw [del_same, hq]
    · rw [del_ne h2, upd_ne h2, upd_ne h1, upd_ne h2]
theorem no_cx {P : Program} {w : World} {outer : List Env} {H : Hp} {s : Shared} {e : Value} {s' : Shared} (h : L2.CX P w outer H s (fun _ _ _ => False) e s') : False := by
  obtain ⟨_, _, _, _, _, _, _, _, _, _, _, _, z⟩ := h
  exact z
section
variable {X : Cx} {W : WX} {e : Expr} {ra : DE} {pos p rp : Pos} {n : Str} {k : Nat} {ps : List Str} {qs : DA}
def sRaise (n : Str) (qs : DA) : DS := fun DD δ m => qs δ m (fun vs m1 => match vs with
  | [v] => DD.xx n [("why", v)] δ m1
  | _ => False) fun c fs m1 => DD.xx c fs δ m1
theorem ds_raise {Bd : FuncData → Prop} (hc : X.calm = true) (T : XMk X.prog X.w X.K X.mg X.base k n ps spTE Bd) (hb : ∀ fd, Bd fd → Binds X.K fd ps []) (hr : Room (k + 1) X.A) (tk : Takes X W) (ha : PA X [e] (lA X.K W qs)) (hg : Gl X n := by rfl) (hdb : (n == ("__debug__" : Str)) = false := by decide)
    (he : starEach [e] X.env = (false, eval e X.env) :: starEach [] X.env := by rfl) (hpl : (backTo pos (starEach [] X.env)).any (·.1) = false := by rfl) :
    PS X (.Raise (some (.Call (.Name n p) [e] [] pos)) none rp) (lS X.K W (sRaise n qs)) := by
  obtain ⟨C, fI, fd, hm, hA, oC, iC, tI, wC, hB, G⟩ := T.ex
  refine PS.imp (ps_raise hc tk (pmk_oex oC iC tI G hr (hb fd hB) .nil (fun pins σ H s e s' I c => (no_cx c).elim) hg hm ha hdb he hpl)) fun Dn σ H h => ?_
  obtain ⟨F, H0, m, δ, DD, ok, rs, h, g⟩ := h
  refine ⟨F, H0, m, δ, _, _, ok, rs, h, fun vs H1 H01 m1 ds s1 ok1 r1 h1 => ?_, g.xx.at_ rs⟩
  dsimp only at h1
  split at h1
  · obtain ⟨v, rfl, rv⟩ := r1.one
    refine ⟨by simp, fun q hq => ⟨q, C, v, rfl, oC, wC, upd_same, fun dx hdx hne => ⟨rfl, dx, [("why", v)], upd_same, by rw [upd_ne hne, upd_same], ?_, ?_⟩⟩⟩
    · rw [upd_ne hne] at hdx; exact hdx
    · rw [upd_ne hne] at hdx
      rw [ok1.xd hq hdx hne]
      have sn := same_new (o := HO.xd [("why", v)]) (ok1.free hdx).1
      exact g.xx _ _ _ _ _ _ (n, [("why", _)]) _ (s1.trans sn) (ok1.new hdx _) ((rs.mono s1).mono sn) ⟨C, rfl, hA, dx, _, rfl, upd_same, rfl, .cons (rv.mono sn) .nil⟩ h1
  · exact h1.elim
/-! ### try .. except -/
variable {body suite : List Stmt} {b₀ : Stmt} {np pos' : Pos} {x y : Str} {i : Nat} {rb : DS}
/-- what an except clause does with an exception: rs its suite's reading -/
def xOnly (c : Str) (rs : Addr → Value → Option Addr → DS) (DD : DEnds) : Str → List (Str × D) → DSt → Mu → Prop := fun n fs δ m => n ∈ exNames ∧ match exSub n c with
  | true => ∀ a C dd, m a = none → rs a (.ref C) (some dd) { DD with xx := fun _ _ _ _ => False } δ m
  | false => DD.xx n fs δ m
def sTryO (c : Str) (rb : DS) (rs : Addr → Value → Option Addr → DS) : DS := fun DD δ m => rb { DD with xx := xOnly c rs DD } δ m
theorem ds_tryO {rs : Addr → Value → Option Addr → DS} (hs : X.stack = X.env :: X.outer) (hf : X.env.frame = some X.env.locals) (T : ExAt X.K X.mg x) (tk : Takes X W)
    (hb : ∀ (W' : WX) (pn : List (Addr × Obj)) (xe : Value → Shared → Prop), Takes (X.tr pn xe) W' → PassesOwn (model X.prog X.w) X.A X.env xe → PSs (X.tr pn xe) body (lS X.K W' rb))
    (hsu : ∀ (a : Addr) (oe : Obj) (cls : Value) (d : Option Addr) (pn : List (Addr × Obj)), Zc cls d oe → (∃ vs, oe.data = .fields vs) → PSs (X.suite a ((a, oe) :: pn)) (b₀ :: suite) (lS X.K noW (rs a cls d)))
    (hg : Gl X x := by rfl) (hdb : (x == ("__debug__" : Str)) = false := by decide) : PS X (.Try body [.ExceptHandler (some (.Name x np)) none (b₀ :: suite) pos'] [] [] pos) (lS X.K W (sTryO x rb rs)) := by
  obtain ⟨cv, hn, T⟩ := T
  refine PS.imp (ps_try_only (tb := fun W' => lS X.K W' rb) hs hf ⟨hg, hdb, hn⟩ tk hb hsu) fun Dn σ H h => ?_
  obtain ⟨F, H0, m, δ, DD, ok, rs', h, g⟩ := h
  refine ⟨F, H0, m, δ, _, ok, rs', h, ⟨g.nx, g.rt, g.bk, g.ct, fun cls xd σ1 H1 H01 m1 nf δ1 s1 ok1 rs1 xr h1 => ?_⟩⟩
  obtain ⟨hne, h1⟩ := h1
  have xr0 := xr
  obtain ⟨C, rfl, hA, dd, fv, rfl, hd, e1, t⟩ := xr
  refine ⟨exSub nf.1 x, T.ok _ hne C hA, fun eb a ha => ?_, fun eb => ?_⟩
  · rw [eb] at h1
    exact ⟨F, H01, m1, δ1, _, ok1, rs1, h1 a C dd (ok1.free ha).2, ⟨(g.mono s1).nx, (g.mono s1).rt, (g.mono s1).bk, (g.mono s1).ct, fun _ _ _ _ _ _ _ _ _ _ _ _ z => z.elim⟩⟩
  · rw [eb] at h1
    exact g.xx _ _ _ _ _ _ _ _ s1 ok1 rs1 xr0 h1
/-- .. as a name, in slot i -/
def xAs (c : Str) (i : Nat) (rs : Addr → Value → Option Addr → DS) (DD : DEnds) : Str → List (Str × D) → DSt → Mu → Prop := fun n fs δ m => n ∈ exNames ∧ match exSub n c with
  | true => ∀ a C dd, m a = none → rs a (.ref C) (some dd) { nx := fun δ' m' => DD.nx (δ'.set i none) m', rt := DD.rt, bk := fun δ' m' => DD.bk (δ'.set i none) m', ct := fun δ' m' => DD.ct (δ'.set i none) m', xx := fun _ _ _ _ => False } (δ.set i (some (.exc a C dd n fs))) m
  | false => DD.xx n fs δ m
def sTryA (c : Str) (i : Nat) (rb : DS) (rs : Addr → Value → Option Addr → DS) : DS := fun DD δ m => rb { DD with xx := xAs c i rs DD } δ m
theorem ds_tryA {rs : Addr → Value → Option Addr → DS} (hs : X.stack = X.env :: X.outer) (hf : X.env.frame = some X.env.locals) (hN : X.N.Nodup) (T : ExAt X.K X.mg x) (tk : Takes X W)
    (hb : ∀ (W' : WX) (pn : List (Addr × Obj)) (xe : Value → Shared → Prop), Takes (X.tr pn xe) W' → PassesOwn (model X.prog X.w) X.A X.env xe → PSs (X.tr pn xe) body (lS X.K W' rb))
    (hsu : ∀ (a : Addr) (oe : Obj) (cls : Value) (d : Option Addr) (pn : List (Addr × Obj)), Zc cls d oe → (∃ vs, oe.data = .fields vs) → PSs (X.suite a ((a, oe) :: pn)) (b₀ :: suite) (lS X.K noW (rs a cls d)))
    (hi : X.N[i]? = some y := by rfl) (hl : X.env.kindOf y = some .local := by rfl) (hg : Gl X x := by rfl) (hdb : (x == ("__debug__" : Str)) = false := by decide) : PS X (.Try body [.ExceptHandler (some (.Name x np)) (some y) (b₀ :: suite) pos'] [] [] pos) (lS X.K W (sTryA x i rb rs)) := by
  obtain ⟨cv, hn, T⟩ := T
  refine PS.imp (ps_try_as (tb := fun W' => lS X.K W' rb) hs hf hN hi hl ⟨hg, hdb, hn⟩ tk hb hsu) fun Dn σ H h => ?_
  obtain ⟨F, H0, m, δ, DD, ok, rs', h, g⟩ := h
  refine ⟨F, H0, m, δ, _, ok, rs', h, ⟨g.nx, g.rt, g.bk, g.ct, fun cls xd σ1 H1 H01 m1 nf δ1 s1 ok1 rs1 xr h1 => ?_⟩⟩
  obtain ⟨hne, h1⟩ := h1
  have xr0 := xr
  obtain ⟨C, rfl, hA, dd, fv, rfl, hd, e1, t⟩ := xr
  have g1 := g.mono s1
  refine ⟨exSub nf.1 x, T.ok _ hne C hA, fun eb a ha => ?_, fun eb => ?_⟩
  · rw [eb] at h1
    exact ⟨F, H01, m1, _, _, ok1, rs1.set (.exc hA hd e1 t) i, h1 a C dd (ok1.free ha).2, ⟨fun σ2 H2 H02 m2 δ2 s2 ok2 rs2 z => g1.nx _ _ _ _ _ s2 ok2 (rs2.clear i) z, g1.rt, fun σ2 H2 H02 m2 δ2 s2 ok2 rs2 z => g1.bk _ _ _ _ _ s2 ok2 (rs2.clear i) z, fun σ2 H2 H02 m2 δ2 s2 ok2 rs2 z => g1.ct _ _ _ _ _ s2 ok2 (rs2.clear i) z, fun _ _ _ _ _ _ _ _ _ _ _ _ z => z.elim⟩⟩
  · rw [eb] at h1
    exact g.xx _ _ _ _ _ _ _ _ s1 ok1 rs1 xr0 h1
end
/-! ### TrialError's __init__ -/
def XAt (K : PySem.W.Frag) (mg : Str → Option Value) (n : Str) (st : Stmt) : Prop := ∃ C fI fd, mg n = some (.ref C) ∧ ClsAt K n C ∧ OexC K C ∧ PySem.W.findIn K (.ref C) "__init__" = some (some (.ref fI)) ∧ PySem.W.typeIn K (.ref fI) = some (.type "function") ∧ PySem.W.findIn K (.ref C) "why" = some none ∧ FunG K "__init__" "TrialError.__init__" st [.str "refused"] [] fI fd
theorem xAt_mk {K : PySem.W.Frag} {h : Heap} {mg : Str → Option Value} {n : Str} {st : Stmt} {C fI : Addr} {oc : Value} {od an : Option Addr} {osl : Array (Option Value)} {dV kV doc pm cdv ct : Value} (X : K.In h) (G : h.Ns mainGlobals mg)
    (a : PySem.W.nsIn K mainGlobals n = some (some (.ref C))) (b : PySem.W.findIn K (.ref C) "__init__" = some (some (.ref fI))) (l : K.lookup fI = some ⟨oc, od, .func (PySem.W.fnOf "__init__" "TrialError.__init__" (defArgs st) (defBody st) (defScope st) dV kV doc pm an cdv ct), osl⟩) (c : PySem.W.codeIn K cdv "TrialError.__init__" = true) (k : PySem.W.keepIn K (.ref fI) = true)
    (t : PySem.W.typeIn K (.ref fI) = some (.type "function")) (w : PySem.W.findIn K (.ref C) "why" = some none) (hd : dflB K dV [.str "refused"] = true) (ho : oexB K C = true) : XAt K mg n st :=
  ⟨C, fI, _, PySem.W.mg_of X G a, a, oexB_ok ho, b, t, w, funG_mk l c k hd rfl⟩
theorem te_binds {K : PySem.W.Frag} {st : Stmt} {fI : Addr} {fd : FuncData} (G : FunG K "__init__" "TrialError.__init__" st [.str "refused"] [] fI fd) (B : BindT0 "__init__" "TrialError.__init__" st ["self", "why"] 2 [] 1 [0, 1]) : Binds K fd ["self", "why"] [] := by
  obtain ⟨g, gV, kb, _⟩ := (kbd_T0 G (by simp) B).ex
  intro s us hK hl
  rw [List.append_nil] at hl ⊢
  match us, hl with
  | [u, v], _ =>
    obtain ⟨dvs, kws, F, d1, k1, k2⟩ := G.ex
    obtain ⟨oc, od, dV, kV, doc, pm, an, cdv, ct, osl, rfl, lk, hcd, hD, hK'⟩ := F.ex
    have el : dvs.length = 1 := (d1 fun _ => none).length
    rcases hD with ⟨rfl, _⟩ | ⟨_, T, o, its, m, rfl, lT, oT, rT⟩
    · cases el
    · obtain ⟨k, e1, e2⟩ := B T kV doc pm an cdv ct [u, v] its [] rfl (rT.length.symm.trans el) rfl
      have e0 : gI [0, 1] ([u, v] ++ []) its = [u, v] := by simp [gI]
      rw [e0] at e2
      refine BindsTo.of_looks fun M => ?_
      have e1' : bindArgs (PySem.W.fnOf "__init__" "TrialError.__init__" (defArgs st) (defBody st) (defScope st) (.ref T) kV doc pm an cdv ct) ⟨[u, v], []⟩ = seqItems? (.ref T) >>= k := e1
      rw [e1']
      exact looks_items hK lT oT (.of_pure e2)
def tTE (K : PySem.W.Frag) : TS := fun D σ H => ∃ (a C : Addr) (y : V), σ[0]? = some (some (.ref a)) ∧ σ[1]? = some (some y) ∧ OexC K C ∧ PySem.W.findIn K (.ref C) "why" = some none ∧ H a = some (exo a C none) ∧ ∀ dx, H dx = none → dx ≠ a → D.nx σ (upd (upd H dx (exd dx [("why", y)])) a (exo a C (some dx)))
section
variable {P : Program} {w : World} {K : PySem.W.Frag} {mg : Str → Option Value} {base : Heap}
theorem xmk_of {n : Str} {st : Stmt} (T : XAt K mg n st) (S : FnScope ["self", "why"] ["self", "why"] (defScope st)) (hd : ∀ (f : Addr) (cdv : Value) (A : Around) (outer : List Env) (s : Shared) (H : Hp) (E : XK), PSs (cxOf (L2.CX P w) P w K mg base ["self", "why"] "TrialError.__init__" (defScope st) f cdv A outer s H E) (defBody st) (tTE K)) :
    XMk P w K mg base 1 n ["self", "why"] spTE fun fd => ∃ fI, FunG K "__init__" "TrialError.__init__" st [.str "refused"] [] fI fd := by
  obtain ⟨C, fI, fd, h1, h2, h3, h4, h5, h6, G⟩ := T
  refine ⟨C, fI, fd, h1, h2, h3, h4, h5, h6, ⟨fI, G⟩, ?_⟩
  obtain ⟨dvs, kws, F, _⟩ := G.ex
  refine F.ok S (fun vs H Q E h => ?_) (fun cdv A outer s H vs Q E hr h => ⟨_, hd fI cdv A outer s H E, ?_⟩)
  · obtain ⟨a, C, y, rfl, _⟩ := h
    rfl
  · obtain ⟨a, C, y, rfl, q1, q2, q3, q4⟩ := h
    exact ⟨a, C, y, rfl, rfl, q1, q2, q3, q4⟩
end
/-- the walk through it -/
theorem te_walk {X : Cx} {p1 p2 p3 p4 p5 p6 p7 p8 p9 p10 : Pos} (hm : X.mg "ValueError" = none) (hg : Gl X "ValueError") (vV : PySem.W.findCls X.K (.type "ValueError") (.type "type") "__init__" = some (.val (.builtin "ValueError.__init__"))) (v0 : PE X (.Name "self" p3) (fun σ H Q => ∃ v, σ[0]? = some (some v) ∧ Q v H)) (v1 : PE X (.Name "why" p4) (fun σ H Q => ∃ v, σ[1]? = some (some v) ∧ Q v H))
    (v2 : PE X (.Name "self" p7) (fun σ H Q => ∃ v, σ[0]? = some (some v) ∧ Q v H)) (v3 : PE X (.Name "why" p9) (fun σ H Q => ∃ v, σ[1]? = some (some v) ∧ Q v H))
    (he : starEach [.Name "self" p3, .Name "why" p4] X.env = (false, eval (.Name "self" p3) X.env) :: starEach [.Name "why" p4] X.env) (he2 : starEach [.Name "why" p4] X.env = (false, eval (.Name "why" p4) X.env) :: starEach [] X.env) {pl : Sem Bool}
    (hc : eval (.Call (.Attribute (.Name "ValueError" p1) "__init__" p2) [.Name "self" p3, .Name "why" p4] [] p5) X.env = (do
      let ov ← eval (.Name "ValueError" p1) X.env
      standAt p2.atName
      let (f, first) ← holding [ov] (getMethod ov "__init__" pl)
      callWith p5 f first (backTo p5 (starEach [.Name "self" p3, .Name "why" p4] X.env)) (backToKw p5 (keywordEach [] X.env))))
    (hpl : (backTo p5 (starEach [.Name "why" p4] X.env)).any (·.1) = false) (hsw : swapsWith (.Call (.Attribute (.Name "ValueError" p1) "__init__" p2) [.Name "self" p3, .Name "why" p4] [] p5) none p6.line X.env = pure false) (hsw2 : swapsWith (.Name "why" p9) (some (.Attribute (.Name "self" p7) "why" p8)) p10.line X.env = pure false) :
    PSs X [.Expr (.Call (.Attribute (.Name "ValueError" p1) "__init__" p2) [.Name "self" p3, .Name "why" p4] [] p5) p6, .Assign [.Attribute (.Name "self" p7) "why" p8] (.Name "why" p9) p10] (tTE X.K) := by
  refine PSs.imp (pss_cons (ps_expr (pe_veinit hg hm vV (pa_cons v0 (pa_cons v1 pa_nil he2) he) hc he hpl) hsw) (pss_one (ps_ost v2 v3 hsw2))) fun D σ H h => ?_
  obtain ⟨a, C, y, e0, e1, o, wC, hH, k⟩ := h
  refine ⟨_, e0, _, e1, a, C, [y], rfl, by simp, o, hH, ?_⟩
  exact ⟨_, e1, _, e0, a, C, rfl, o, wC, .inl ⟨hH, fun dx hdx hne => k dx hdx hne⟩⟩
end DL

namespace DL
open PySem L2
/-! ### isinstance, own classes too -/
def insNames : List Str := ["Wish", "Plan", "Rule", "Doer", "Watch", "StandIns", "Desk", "Lines"]
def biTys : List String := ["NoneType", "bool", "int", "str", "list", "tuple", "dict"]
structure InsT (K : PySem.W.Frag) (C : Addr) : Prop where
  cl : Cls K C
  ha : PySem.W.findIn K (.ref C) "__class__" = some (some (.builtin "object.__class__"))
  hn : PySem.W.specialIn K (.builtin "object.__class__") "__get__" = some (some (.builtin "getset_descriptor.__get__"))
  ht : PySem.W.takesIn K (.builtin "object.__class__") = some true
  hm : PySem.W.mroIn K C (.type "object") = some true
structure IsoF (K : PySem.W.Frag) : Prop where
  ty : ∀ n ∈ insNames, ∀ C, ClsAt K n C → ∀ t ∈ biTys, PySem.W.kitOne K (.type t) (.ref C) = some false ∧ PySem.W.kitOne K (.ref C) (.type t) = some false
  own : ∀ n ∈ insNames, ∀ C, ClsAt K n C → ∀ k ∈ insNames, ∀ C', ClsAt K k C' → PySem.W.kitOne K (.ref C) (.ref C') = some (n == k)
  ins : ∀ n ∈ insNames, ∀ C, ClsAt K n C → InsT K C
def isoB (K : PySem.W.Frag) : Bool := insNames.all fun n => match clsAddr K n with
  | none => true
  | some C => (biTys.all fun t => decide (PySem.W.kitOne K (.type t) (.ref C) = some false) && decide (PySem.W.kitOne K (.ref C) (.type t) = some false)) && (insNames.all fun k => match clsAddr K k with
    | none => true
    | some C' => decide (PySem.W.kitOne K (.ref C) (.ref C') = some (n == k))) && clsB K n && decide (PySem.W.findIn K (.ref C) "__class__" = some (some (.builtin "object.__class__"))) && decide (PySem.W.specialIn K (.builtin "object.__class__") "__get__" = some (some (.builtin "getset_descriptor.__get__"))) &&
      decide (PySem.W.takesIn K (.builtin "object.__class__") = some true) && decide (PySem.W.mroIn K C (.type "object") = some true)
theorem isoB_ok {K : PySem.W.Frag} (h : isoB K = true) : IsoF K := by
  have at_ : ∀ n ∈ insNames, ∀ C, ClsAt K n C → _ := fun n hn C hC => by
    have := List.all_eq_true.mp h n hn
    rw [hC.addr] at this
    simp only [Bool.and_eq_true, decide_eq_true_eq] at this
    exact this
  refine ⟨fun n hn C hC t ht => ?_, fun n hn C hC k hk C' hC' => ?_, fun n hn C hC => ?_⟩
  · have := List.all_eq_true.mp (at_ n hn C hC).1.1.1.1.1.1 t ht
    simpa using this
  · have := List.all_eq_true.mp (at_ n hn C hC).1.1.1.1.1.2 k hk
    rw [hC'.addr] at this
    exact of_decide_eq_true this
  · have z := at_ n hn C hC
    exact ⟨(clsB_ok z.1.1.1.1.2).ok C hC, z.1.1.1.2, z.1.1.2, z.1.2, z.2⟩
/-- the class of an instance -/
def insN (m : Mu) : D → Option Str
  | .ins k _ => some k
  | .adr a => match m a with
    | some (.ins k _) => some k
    | _ => none
  | _ => none
theorem insN_rp {K : PySem.W.Frag} {F H0 H : Hp} {m : Mu} {v : V} {d : D} {n : Str} (ok : Ok K F H0 m H) (r : Rp K H0 v d) (h : insN m d = some n) : ∃ a C dx fv, v = .ref a ∧ ClsAt K n C ∧ H a = some (.ins C dx fv) := by
  unfold insN at h
  split at h
  · cases h
    cases r with
    | ins c q e2 t => exact ⟨_, _, _, _, rfl, c, ok.same _ _ q⟩
  · split at h
    · rename_i k fs' e1
      cases h
      cases r
      obtain ⟨_, C, dx, fv, c, hv, _⟩ := ok.cell _ _ e1
      exact ⟨_, C, dx, fv, rfl, c, hv⟩
    · cases h
  · cases h
/-- isinstance of x with one class -/
def isi1 (m : Mu) (x : D) : D → Option Bool
  | .ty T => match tyN m x with
    | some t => isB t T
    | none => match insN m x with
      | some n => if n ∈ insNames ∧ T ∈ biTys then some false else none
      | none => none
  | .glb k => if k ∈ insNames then (match tyN m x with
    | some t => if t ∈ biTys then some false else none
    | none => match insN m x with
      | some n => if n ∈ insNames then some (n == k) else none
      | none => none) else none
  | _ => none
def isis (m : Mu) (x : D) : List D → Option Bool
  | [] => some false
  | c :: r => match isi1 m x c, isis m x r with
    | some a, some b => some (a || b)
    | _, _ => none
def cIsG : DC := fun xs m P => match xs with
  | [x, c] => match (match c with | .tup (c :: cs) => isis m x (c :: cs) | c => isi1 m x c) with
    | some b => P (.bl b) m
    | none => False
  | _ => False
/-- x's type -/
def TyD (K : PySem.W.Frag) (m : Mu) (x : D) (t : Value) : Prop := (∃ s, tyN m x = some s ∧ t = .type s) ∨ (tyN m x = none ∧ ∃ n C, insN m x = some n ∧ n ∈ insNames ∧ ClsAt K n C ∧ t = .ref C)
theorem tyD_of {K : PySem.W.Frag} {F H0 H : Hp} {m : Mu} {v : V} {x : D} (T : IsoF K) (ok : Ok K F H0 m H) (r : Rp K H0 v x) {t : Value} (h : TyD K m x t) : TyX K H v t := by
  rcases h with ⟨s, e, rfl⟩ | ⟨_, n, C, e, hn, hC, rfl⟩
  · exact tyN_rp ok r e
  · obtain ⟨a, C', dx, fv, rfl, hC', hv⟩ := insN_rp ok r e
    obtain rfl := hC.uniq hC'
    have z := T.ins n hn C hC
    exact .base (.ins hv z.cl z.ha z.hn z.ht z.hm)
theorem isi1_ok {K : PySem.W.Frag} {H : Hp} {m : Mu} {x c : D} {w : V} {u t : Value} {b : Bool} (T : IsoF K) (rc : Rp K H w c) (ru : RelV w u) (ht : TyD K m x t) (h : isi1 m x c = some b) : PySem.W.kitOne K t u = some b := by
  unfold isi1 at h
  split at h
  · rename_i T'
    cases rc
    cases (show u = Value.type _ from ru)
    rcases ht with ⟨s, e, rfl⟩ | ⟨e0, n, C, e, hn, hC, rfl⟩
    · rw [e] at h
      exact kit_ty h
    · rw [e0, e] at h
      dsimp only at h
      split at h
      · rename_i hk
        cases h
        exact (T.ty n hn C hC _ hk.2).2
      · cases h
  · rename_i k
    cases rc with
    | glb hk' =>
      cases (show u = Value.ref _ from ru)
      split at h
      · rename_i hk
        rcases ht with ⟨s, e, rfl⟩ | ⟨e0, n, C, e, hn, hC, rfl⟩
        · rw [e] at h
          dsimp only at h
          split at h
          · rename_i hs
            cases h
            exact (T.ty k hk _ hk' s hs).1
          · cases h
        · rw [e0, e] at h
          dsimp only at h
          rw [if_pos hn] at h
          cases h
          exact T.own n hn C hC k hk _ hk'
      · cases h
  · cases h
theorem isis_ok {K : PySem.W.Frag} {H : Hp} {m : Mu} {x : D} {t : Value} (T : IsoF K) (ht : TyD K m x t) : ∀ {ws : List V} {cs : List D} {us : List Value} {b : Bool}, RpL K H ws cs → Vals ws us → isis m x cs = some b → PySem.W.kitAny K t us = some b
  | _, _, _, _, .nil, .nil, h => by cases h; rfl
  | _, _, _, _, .cons r1 r2, .cons u1 u2, h => by
    unfold isis at h
    split at h
    · rename_i b1 b2 e1 e2
      cases h
      have h1 := isi1_ok T r1 u1 ht e1
      have h2 := isis_ok T ht r2 u2 e2
      unfold PySem.W.kitAny
      rw [h1]
      cases b1
      · simpa using h2
      · rfl
    · cases h
section
variable {X : Cx} {W : WX} {a b c : Expr} {ra rb rc : DE} {pos p : Pos} {e : Expr} {es : List Expr} {qs : DA}
theorem call_isG : CallR X (.builtin "isinstance") (fun vs H Q => ∃ (v w : V) (t : Value) (k : Bool), vs = [v, w] ∧ TyX X.K H v t ∧ ((∀ u, RelV w u → PySem.W.kitOne X.K t u = some k) ∨ ∃ tp ws, w = .ref tp ∧ SqT X.K H tp ws ∧ ∀ us, Vals ws us → PySem.W.kitAny X.K t us = some k) ∧ Q (.bl k) H) := by
  intro pins s σ H xs us Q I r h
  obtain ⟨v, w, t, k, rfl, ty, hk, q⟩ := h
  cases r with
  | cons rx rr =>
    cases rr with
    | cons rt rr =>
      cases rr
      obtain ⟨P, Z, pz, hx⟩ := kit_of I rx ty
      rcases hk with hk | ⟨tp, ws, rfl, ht, hk⟩
      · exact PySem.W.kia_one Z I.kIn pz (hk _ rt) hx fun tk => ⟨.bl k, H, I.tok tk, rfl, q⟩
      · cases rt
        obtain ⟨its, rv, ⟨o, h1, h2, nn, h3⟩, _⟩ := I.tuple ht
        have hk2 := hk its rv
        obtain ⟨oc, od', dt, sl⟩ := o
        simp only at h2 h3
        subst h2 h3
        exact PySem.W.kia_tup Z I.kIn pz h1 hk2 hx fun tk => ⟨.bl k, H, I.tok tk, rfl, q⟩
theorem tyD_ex {K : PySem.W.Frag} {F H0 H : Hp} {m : Mu} {v : V} {x : D} (ok : Ok K F H0 m H) (r : Rp K H0 v x) (h : (∃ s, tyN m x = some s) ∨ ∃ n, insN m x = some n ∧ n ∈ insNames) : ∃ t, TyD K m x t := by
  cases e : tyN m x with
  | some s => exact ⟨_, .inl ⟨s, e, rfl⟩⟩
  | none =>
    rcases h with ⟨s, z⟩ | ⟨n, z, hn⟩
    · rw [e] at z; cases z
    · obtain ⟨a, C', dx, fv, rfl, hC', hv⟩ := insN_rp ok r z
      exact ⟨_, .inr ⟨e, n, C', z, hn, hC', rfl⟩⟩
theorem isi1_ty {m : Mu} {x c : D} {b : Bool} (h : isi1 m x c = some b) : (∃ s, tyN m x = some s) ∨ ∃ n, insN m x = some n ∧ n ∈ insNames := by
  unfold isi1 at h
  split at h
  · cases e : tyN m x with
    | some s => exact .inl ⟨s, rfl⟩
    | none =>
      rw [e] at h
      dsimp only at h
      split at h
      · rename_i n e2
        split at h
        · rename_i hk; exact .inr ⟨n, e2, hk.1⟩
        · cases h
      · cases h
  · split at h
    · cases e : tyN m x with
      | some s => exact .inl ⟨s, rfl⟩
      | none =>
        rw [e] at h
        dsimp only at h
        split at h
        · rename_i n e2
          split at h
          · rename_i hk; exact .inr ⟨n, e2, hk⟩
          · cases h
        · cases h
    · cases h
  · cases h
theorem isG_ok {K : PySem.W.Frag} (T : IsoF K) : CalD K (fun vs H Q => ∃ (v w : V) (t : Value) (k : Bool), vs = [v, w] ∧ TyX K H v t ∧ ((∀ u, RelV w u → PySem.W.kitOne K t u = some k) ∨ ∃ tp ws, w = .ref tp ∧ SqT K H tp ws ∧ ∀ us, Vals ws us → PySem.W.kitAny K t us = some k) ∧ Q (.bl k) H) cIsG := by
  intro F H0 m H vs ds P Q ok r h g
  unfold cIsG at h
  split at h
  · rename_i x c
    obtain ⟨v, w, rfl, q1, q2⟩ := r.two
    split at h
    · rename_i k ek
      split at ek
      · rename_i c0 cs
        obtain ⟨tp, ws, rfl, ht, rw'⟩ := tup_rp ok q2
        have hex : (∃ s, tyN m x = some s) ∨ ∃ n, insN m x = some n ∧ n ∈ insNames := by
          unfold isis at ek
          split at ek
          · rename_i b1 b2 e1 e2; exact isi1_ty e1
          · cases ek
        obtain ⟨t, htd⟩ := tyD_ex (K := K) ok q1 hex
        exact ⟨v, _, t, k, rfl, tyD_of T ok q1 htd, .inr ⟨tp, ws, rfl, ht, fun us hu => isis_ok T htd rw' hu ek⟩, g.id ok (.bl _) h⟩
      · obtain ⟨t, htd⟩ := tyD_ex (K := K) ok q1 (isi1_ty ek)
        exact ⟨v, w, t, k, rfl, tyD_of T ok q1 htd, .inl fun u hu => isi1_ok T q2 hu htd ek, g.id ok (.bl _) h⟩
    · exact h.elim
  · exact h.elim
theorem pd_isG {x : Str} (T : IsoF X.K) (hm : X.mg x = none) (hv : bootBuiltins x = some (.builtin "isinstance")) (ha : PA X (e :: es) (lA X.K W qs)) (hg : Gl X x := by rfl) (hn : x ≠ "__name__" := by decide) (hdb : (x == ("__debug__" : Str)) = false := by decide)
    (he : starEach (e :: es) X.env = (false, eval e X.env) :: starEach es X.env := by rfl) (hpl : (backTo pos (starEach es X.env)).any (·.1) = false := by rfl) : PE X (.Call (.Name x p) (e :: es) [] pos) (lE X.K W (rCB cIsG qs)) := pd_callB call_isG (isG_ok T) hm hv ha hg hn hdb he hpl
/-! ### is True, is False -/
def isBl (b : Bool) : D → Option Bool
  | .bl a => some (a == b)
  | .ty _ => none
  | _ => some false
def oIsB (neg : Bool) : DO := fun x y m P => match y with
  | .bl b => match isBl b x with
    | some k => P (.bl (if neg then !k else k)) m
    | none => False
  | _ => False
theorem isB_op (neg : Bool) {op : CmpOp} (h1 : ∀ (M : Model) (A : Around) (E : Value → Shared → Prop) (s : Shared) (Q : Value → Shared → Prop) (u : Value) (b : Bool), PySem.plainIs u (.bool b) = true → Q (.bool (if neg then !(u == .bool b) else (u == .bool b))) s → wpAny M A (compareOp op u (.bool b)) Q E s) :
    ∃ r, OpR X (compareOp op) r ∧ OpD X.K r (oIsB neg) := by
  refine ⟨fun x y H Q => ∃ b k, y = .bl b ∧ (∀ u, RelV x u → PySem.plainIs u (.bool b) = true ∧ (u == .bool b) = k) ∧ Q (.bl (if neg then !k else k)) H, ?_, ?_⟩
  · intro pins s σ H x y v u Q I rx ry h
    obtain ⟨b, k, rfl, hk, q⟩ := h
    cases (show u = Value.bool b from ry)
    obtain ⟨h2, h3⟩ := hk v rx
    refine h1 _ _ _ _ _ v b h2 ⟨.bl (if neg then !k else k), H, I, ?_, q⟩
    rw [h3]; rfl
  · intro F H0 m H x y dx dy P Q ok rx ry h g
    unfold oIsB at h
    split at h
    · rename_i b
      cases ry
      split at h
      · rename_i k ek
        refine ⟨b, k, rfl, fun u hu => ?_, g.id ok (.bl _) h⟩
        cases rx with
        | bl z => cases (show u = Value.bool z from hu); cases ek; exact ⟨rfl, by cases z <;> cases b <;> rfl⟩
        | non => cases (show u = Value.none from hu); cases ek; exact ⟨rfl, rfl⟩
        | int i => obtain ⟨t, rfl⟩ := (show ∃ t, u = Value.int i t from hu); cases ek; exact ⟨rfl, rfl⟩
        | str z => obtain ⟨t, rfl⟩ := (show ∃ t, u = Value.str z t from hu); cases ek; exact ⟨rfl, rfl⟩
        | ty n => cases ek
        | _ => cases hu; cases ek; exact ⟨rfl, rfl⟩
      · exact h.elim
    · exact h.elim
theorem is_ok : ∃ r, OpR X (compareOp .Is) r ∧ OpD X.K r (oIsB false) := isB_op false fun M A E s Q u b h q => wpAny_is_plain h q
theorem isNot_ok : ∃ r, OpR X (compareOp .IsNot) r ∧ OpD X.K r (oIsB true) := isB_op true fun M A E s Q u b h q => wpAny_isNot_plain h q
theorem pd_isB (ha : PE X a (lE X.K W ra)) (hb : PE X b (lE X.K W rb)) : PE X (.Compare a [.Is] [b] pos) (lE X.K W (rOp (oIsB false) ra rb)) := let ⟨_, h1, h2⟩ := is_ok (X := X); pd_cmp h1 h2 ha hb
theorem pd_notB (ha : PE X a (lE X.K W ra)) (hb : PE X b (lE X.K W rb)) : PE X (.Compare a [.IsNot] [b] pos) (lE X.K W (rOp (oIsB true) ra rb)) := let ⟨_, h1, h2⟩ := isNot_ok (X := X); pd_cmp h1 h2 ha hb
theorem dt_isB (ha : PE X a (lE X.K W ra)) (hb : PE X b (lE X.K W rb)) : PT X (.Compare a [.Is] [b] pos) (lT X.K W (rTst (rOp (oIsB false) ra rb))) := let ⟨_, h1, h2⟩ := is_ok (X := X); dt_cmp h1 h2 ha hb
theorem dt_notB (ha : PE X a (lE X.K W ra)) (hb : PE X b (lE X.K W rb)) : PT X (.Compare a [.IsNot] [b] pos) (lT X.K W (rTst (rOp (oIsB true) ra rb))) := let ⟨_, h1, h2⟩ := isNot_ok (X := X); dt_cmp h1 h2 ha hb
/-! ### x or y, x and y by truth -/
def rOrT (ra rb : DE) : DE := fun δ m P PX => ra δ m (fun x m1 => match x with
  | .bl k => match k with
    | true => P (.bl true) m1
    | false => rb δ m1 P PX
  | .str z => z.length ≤ sizeLine ∧ (if z.length = 0 then rb δ m1 P PX else P (.str z) m1)
  | x => match truD m1 x with
    | some true => P x m1
    | some false => rb δ m1 P PX
    | none => False) PX
theorem pd_orT {rest : List Expr} (ha : PE X a (lE X.K W ra)) (hb : PE X (.BoolOp .Or (b :: rest) pos) (lE X.K W rb)) : PE X (.BoolOp .Or (a :: b :: rest) pos) (lE X.K W (rOrT ra rb)) := by
  refine PE.imp (pe_orT ha hb) fun σ H Q h => ?_
  obtain ⟨F, H0, m, δ, P, PX, ok, rs, h, g, gx⟩ := h
  refine ⟨F, H0, m, δ, _, PX, ok, rs, h, fun x H1 H01 m1 d s1 ok1 r1 h1 => ?_, gx⟩
  dsimp only at h1
  split at h1
  · rename_i k
    cases r1
    cases k with
    | true => exact ⟨true, rfl, by rw [if_pos rfl]; exact g _ _ _ _ _ s1 ok1 (.bl _) h1⟩
    | false => exact ⟨false, rfl, by rw [if_neg Bool.false_ne_true]; exact ⟨F, H01, m1, δ, P, PX, ok1, rs.mono s1, h1, g.mono s1, gx.mono s1⟩⟩
  · rename_i z
    cases r1
    obtain ⟨hz, h1⟩ := h1
    refine ⟨_, ⟨hz, rfl⟩, ?_⟩
    by_cases hl : z.length = 0
    · rw [if_pos hl] at h1
      rw [hl, if_neg (by decide)]
      exact ⟨F, H01, m1, δ, P, PX, ok1, rs.mono s1, h1, g.mono s1, gx.mono s1⟩
    · rw [if_neg hl] at h1
      have : ((z.length : Int) != 0) = true := by simp [hl]
      rw [this, if_pos rfl]
      exact g _ _ _ _ _ s1 ok1 (.str _) h1
  · split at h1
    · rename_i e1
      exact ⟨true, tru_rp ok1 r1 e1, by rw [if_pos rfl]; exact g _ _ _ _ _ s1 ok1 r1 h1⟩
    · rename_i e1
      exact ⟨false, tru_rp ok1 r1 e1, by rw [if_neg Bool.false_ne_true]; exact ⟨F, H01, m1, δ, P, PX, ok1, rs.mono s1, h1, g.mono s1, gx.mono s1⟩⟩
    · exact h1.elim
end
/-! ### a dict of the text -/
def entB (K : PySem.W.Frag) : List DictEntry → List (Str × D) → Bool
  | [], [] => true
  | e :: es, (z, d) :: r => (match e.key with
    | .str y _ => y == z
    | _ => false) && valB K 3 e.val d && entB K es r
  | _, _ => false
theorem ent_ok {K : PySem.W.Frag} (x : Str) : ∀ {es : List DictEntry} {tbl : List (Str × D)}, entB K es tbl = true → es.any (·.refKey) = false ∧ match tbl.lookup x with
    | some d => ∃ e u v, es.find? (·.key.isStr x) = some e ∧ e.val = u ∧ RelV v u ∧ ∀ H, Rp K H v d
    | none => es.find? (·.key.isStr x) = none
  | [], [], _ => ⟨rfl, rfl⟩
  | [], _ :: _, h => by simp [entB] at h
  | _ :: _, [], h => by simp [entB] at h
  | e :: es, (z, d) :: r, h => by
    simp only [entB, Bool.and_eq_true] at h
    obtain ⟨⟨h1, h2⟩, h3⟩ := h
    obtain ⟨i1, i2⟩ := ent_ok x (es := es) (tbl := r) h3
    split at h1
    · rename_i y t ek
      obtain rfl : y = z := by simpa using h1
      refine ⟨?_, ?_⟩
      · rw [List.any_cons, i1]
        simp [DictEntry.refKey, ek]
      · unfold List.lookup
        have es1 : e.key.isStr x = (x == y) := by
          rw [ek]
          show (y == x) = (x == y)
          rw [Bool.eq_iff_iff, beq_iff_eq, beq_iff_eq]
          exact ⟨fun z => z.symm, fun z => z.symm⟩
        rw [List.find?_cons, es1]
        cases hb : x == y with
        | true =>
          obtain ⟨v, rv, q⟩ := valB_ok _ h2
          exact ⟨e, _, v, rfl, rfl, rv, q⟩
        | false => exact i2
    · cases h1
structure KdF (K : PySem.W.Frag) (w : World) (mg : Str → Option Value) (x : Str) (tbl : List (Str × D)) : Prop where
  ex : ∃ a es n, mg x = some (.ref a) ∧ K.lookup a = some ⟨.type "dict", none, .dict es n, #[]⟩ ∧ PySem.W.KeysLit w.params es.toList ∧ (a == sysModules) = false ∧ entB K es.toList tbl = true
theorem kd_mk {K : PySem.W.Frag} {w : World} {h : Heap} {mg : Str → Option Value} {x : Str} {tbl : List (Str × D)} {a : Addr} {es : Array DictEntry} {n : Nat} (X : K.In h) (G : h.Ns mainGlobals mg) (e1 : PySem.W.nsIn K mainGlobals x = some (some (.ref a))) (e2 : K.lookup a = some ⟨.type "dict", none, .dict es n, #[]⟩) (e3 : PySem.W.KeysLit w.params es.toList) (e4 : (a == sysModules) = false) (e5 : entB K es.toList tbl = true) : KdF K w mg x tbl := ⟨a, es, n, PySem.W.mg_of X G e1, e2, e3, e4, e5⟩
theorem kd_get {K : PySem.W.Frag} {a : Addr} {es : Array DictEntry} {n : Nat} {tbl : List (Str × D)} (hl : K.lookup a = some ⟨.type "dict", none, .dict es n, #[]⟩) (h : entB K es.toList tbl = true) (x : Str) : match tbl.lookup x with
    | some d => ∃ u v, PySem.W.nsIn K a x = some (some u) ∧ RelV v u ∧ ∀ H, Rp K H v d
    | none => PySem.W.nsIn K a x = some none := by
  obtain ⟨i1, i2⟩ := ent_ok x h
  split at i2
  · rename_i d ed
    obtain ⟨e, u, v, f1, f2, f3, f4⟩ := i2
    refine ⟨u, v, ?_, f3, f4⟩
    unfold PySem.W.nsIn
    rw [hl]
    dsimp only
    rw [f1]
    show some (some e.val) = _
    rw [f2]
  · unfold PySem.W.nsIn
    rw [hl]
    dsimp only
    rw [i2, i1]
    rfl
section
variable {X : Cx} {W : WX} {a b c : Expr} {ra rb rc : DE} {pos p : Pos} {x : Str} {tbl : List (Str × D)}
def rIxK (tbl : List (Str × D)) (ra : DE) : DE := fun δ m P PX => ra δ m (fun k m1 => match k with
  | .str z => match tbl.lookup z with
    | some d => P d m1
    | none => False
  | _ => False) PX
theorem pd_ixK (T : KdF X.K X.w X.mg x tbl) (ha : PE X a (lE X.K W ra)) (hs : PlainIx a := by intro _ _; rfl) (hg : Gl X x := by rfl) (hd : (x == ("__debug__" : Str)) = false := by decide) : PE X (.Subscript (.Name x p) a pos) (lE X.K W (rIxK tbl ra)) := by
  obtain ⟨q, es, n, hm, hl, hk, hy, hT⟩ := T.ex
  refine PE.imp (pe_ix ix_kdict (pe_glob hg hm (v := .ref q) rfl hd) ha hs) fun σ H Q h => ?_
  obtain ⟨F, H0, m, δ, P, PX, ok, rs, h, g, gx⟩ := h
  refine ⟨F, H0, m, δ, _, PX, ok, rs, h, fun y H1 H01 m1 d s1 ok1 r1 h1 => ?_, gx⟩
  dsimp only at h1
  split at h1
  · rename_i z
    cases r1
    split at h1
    · rename_i d ed
      have := kd_get hl hT z
      rw [ed] at this
      obtain ⟨u, v, f1, f2, f3⟩ := this
      exact ⟨q, z, v, rfl, rfl, ⟨es, n, u, hl, hk, f1, f2⟩, g _ _ _ _ _ s1 ok1 (f3 _) h1⟩
    · exact h1.elim
  · exact h1.elim
def oInK (neg : Bool) (tbl : List (Str × D)) : DO := fun x y m P => match x with
  | .str z => P (.bl (if neg then !(tbl.lookup z).isSome else (tbl.lookup z).isSome)) m
  | _ => False
def rInK (neg : Bool) (tbl : List (Str × D)) (q : Addr) : R2 := fun v u H Q => ∃ z, v = .str z ∧ u = .ref q ∧ Q (.bl (if neg then !(tbl.lookup z).isSome else (tbl.lookup z).isSome)) H
theorem inK_opr (neg : Bool) {op : CmpOp} {q : Addr} {es : Array DictEntry} {n : Nat} (hl : X.K.lookup q = some ⟨.type "dict", none, .dict es n, #[]⟩) (hT : entB X.K es.toList tbl = true) (h1 : ∀ (A : Around) (E : Value → Shared → Prop) (s : Shared) (Q : Value → Shared → Prop) (z : Str) (t : Tok) (r : Option Value), X.K.In s.heap → PySem.W.nsIn X.K q z = some r → Q (.bool (if neg then !r.isSome else r.isSome)) { s with toks := s.toks + 1 } → wpAny (model X.prog X.w) A (compareOp op (.str z t) (.ref q)) Q E s) :
    OpR X (compareOp op) (rInK neg tbl q) := by
  intro pins s σ H v u v' u' Q I rx ry h
  obtain ⟨z, rfl, rfl, qq⟩ := h
  obtain ⟨t, rfl⟩ := (show ∃ t, v' = Value.str z t from rx)
  cases (show u' = Value.ref q from ry)
  have := kd_get hl hT z
  cases e : tbl.lookup z with
  | some d =>
    rw [e] at this qq
    obtain ⟨uu, v, f1, f2, f3⟩ := this
    exact h1 _ _ _ _ z t _ I.kIn f1 ⟨.bl (if neg then !(some uu).isSome else (some uu).isSome), H, I.tok _, rfl, qq⟩
  | none =>
    rw [e] at this qq
    exact h1 _ _ _ _ z t _ I.kIn this ⟨.bl (if neg then !(none : Option Value).isSome else (none : Option Value).isSome), H, I.tok _, rfl, qq⟩
theorem lE_inK {neg : Bool} {q : Addr} {σ : St} {H : Hp} {Q : VK} (h : lE X.K W (rOp (oInK neg tbl) ra (rC .non)) σ H Q) : tOp (rInK neg tbl q) (lE X.K W ra) (tC (.ref q)) σ H Q := by
  obtain ⟨F, H0, m, δ, P, PX, ok, rs, h, g, gx⟩ := h
  refine ⟨F, H0, m, δ, _, PX, ok, rs, h, fun y H1 H01 m1 d s1 ok1 r1 h1 => ?_, gx⟩
  change oInK neg tbl d .non m1 P at h1
  unfold oInK at h1
  split at h1
  · rename_i z
    cases r1
    exact ⟨z, rfl, rfl, g _ _ _ _ _ s1 ok1 (.bl _) h1⟩
  · exact h1.elim
theorem inK_in {q : Addr} {es : Array DictEntry} {n : Nat} (hl : X.K.lookup q = some ⟨.type "dict", none, .dict es n, #[]⟩) (hk : PySem.W.KeysLit X.w.params es.toList) (hy : (q == sysModules) = false) (hT : entB X.K es.toList tbl = true) : OpR X (compareOp .In) (rInK false tbl q) :=
  inK_opr false hl hT fun A E s Q z t r hK e h => wpAny_in_of (strKind_is X.prog X.w z t) hy (PySem.W.mapOf_K (prog := X.prog) hK hl hk) (by rw [PySem.W.find_K hl e]; exact h)
theorem inK_not {q : Addr} {es : Array DictEntry} {n : Nat} (hl : X.K.lookup q = some ⟨.type "dict", none, .dict es n, #[]⟩) (hk : PySem.W.KeysLit X.w.params es.toList) (hy : (q == sysModules) = false) (hT : entB X.K es.toList tbl = true) : OpR X (compareOp .NotIn) (rInK true tbl q) :=
  inK_opr true hl hT fun A E s Q z t r hK e h => wpAny_notIn_of (strKind_is X.prog X.w z t) hy (PySem.W.mapOf_K (prog := X.prog) hK hl hk) (by rw [PySem.W.find_K hl e]; exact h)
theorem pd_inK (T : KdF X.K X.w X.mg x tbl) (ha : PE X a (lE X.K W ra)) (hmk : behindInMarks .In (.Name x p) = false := by rfl) (hg : Gl X x := by rfl) (hd : (x == ("__debug__" : Str)) = false := by decide) : PE X (.Compare a [.In] [.Name x p] pos) (lE X.K W (rOp (oInK false tbl) ra (rC .non))) := by
  obtain ⟨q, es, n, hm, hl, hk, hy, hT⟩ := T.ex
  exact PE.imp (pe_cmpR (inK_in hl hk hy hT) ha (pe_glob hg hm (v := .ref q) rfl hd) hmk) fun _ _ _ h => lE_inK h
theorem pd_notInK (T : KdF X.K X.w X.mg x tbl) (ha : PE X a (lE X.K W ra)) (hmk : behindInMarks .NotIn (.Name x p) = false := by rfl) (hg : Gl X x := by rfl) (hd : (x == ("__debug__" : Str)) = false := by decide) : PE X (.Compare a [.NotIn] [.Name x p] pos) (lE X.K W (rOp (oInK true tbl) ra (rC .non))) := by
  obtain ⟨q, es, n, hm, hl, hk, hy, hT⟩ := T.ex
  exact PE.imp (pe_cmpR (inK_not hl hk hy hT) ha (pe_glob hg hm (v := .ref q) rfl hd) hmk) fun _ _ _ h => lE_inK h
theorem dt_inK (T : KdF X.K X.w X.mg x tbl) (ha : PE X a (lE X.K W ra)) (hmk : behindInMarks .In (.Name x p) = false := by rfl) (hg : Gl X x := by rfl) (hd : (x == ("__debug__" : Str)) = false := by decide) : PT X (.Compare a [.In] [.Name x p] pos) (lT X.K W (rTst (rOp (oInK false tbl) ra (rC .non)))) := by
  obtain ⟨q, es, n, hm, hl, hk, hy, hT⟩ := T.ex
  exact PT.imp (pt_cmpR (inK_in hl hk hy hT) ha (pe_glob hg hm (v := .ref q) rfl hd) hmk) fun _ _ _ h => lE_inK (lT_test h)
theorem dt_notInK (T : KdF X.K X.w X.mg x tbl) (ha : PE X a (lE X.K W ra)) (hmk : behindInMarks .NotIn (.Name x p) = false := by rfl) (hg : Gl X x := by rfl) (hd : (x == ("__debug__" : Str)) = false := by decide) : PT X (.Compare a [.NotIn] [.Name x p] pos) (lT X.K W (rTst (rOp (oInK true tbl) ra (rC .non)))) := by
  obtain ⟨q, es, n, hm, hl, hk, hy, hT⟩ := T.ex
  exact PT.imp (pt_cmpR (inK_not hl hk hy hT) ha (pe_glob hg hm (v := .ref q) rfl hd) hmk) fun _ _ _ h => lE_inK (lT_test h)
end
end DL

namespace DL
open PySem L2
/-- a statement of a class of the text -/
def clsSt (s : Stmt) (j : Nat) : Stmt := match s with
  | .ClassDef _ _ _ body _ _ _ _ _ _ _ => body.getD j (.Pass ⟨0, 0, 0, 0⟩)
  | _ => .Pass ⟨0, 0, 0, 0⟩
section
variable {K : PySem.W.Frag} {h : Heap} {mg : Str → Option Value} {n m x qual : Str} {st : Stmt} {C f : Addr} {oc : Value} {od an : Option Addr} {osl : Array (Option Value)} {dV kV doc pm cdv ct : Value} {dD : List D} {kD : List (Str × D)}
theorem metAt_mk (a : PySem.W.nsIn K mainGlobals n = some (some (.ref C))) (b : PySem.W.findIn K (.ref C) m = some (some (.ref f))) (l : K.lookup f = some ⟨oc, od, .func (PySem.W.fnOf m qual (defArgs st) (defBody st) (defScope st) dV kV doc pm an cdv ct), osl⟩) (c : PySem.W.codeIn K cdv qual = true)
    (k : PySem.W.keepIn K (.ref f) = true) (fn : PySem.W.isFn K (.ref f) = true) (hd : dflB K dV dD = true) (hk : kwdB K kV kD = true) (hc : clsB K n = true) : MetAt K n m qual st dD kD :=
  ⟨C, f, _, a, (clsB_ok hc).ok C a, ⟨b, fn, k⟩, funG_mk l c k hd hk⟩
theorem mkAt_mk (X : K.In h) (G : h.Ns mainGlobals mg) (a : PySem.W.nsIn K mainGlobals n = some (some (.ref C))) (b : PySem.W.findIn K (.ref C) "__init__" = some (some (.ref f))) (l : K.lookup f = some ⟨oc, od, .func (PySem.W.fnOf "__init__" qual (defArgs st) (defBody st) (defScope st) dV kV doc pm an cdv ct), osl⟩) (c : PySem.W.codeIn K cdv qual = true)
    (k : PySem.W.keepIn K (.ref f) = true) (fn : PySem.W.isFn K (.ref f) = true) (mk : PySem.W.makesIn K C = true) (kc : PySem.W.keepIn K (.ref C) = true) (hd : dflB K dV dD = true) (hk : kwdB K kV kD = true) : MkAt K mg n qual st dD kD :=
  ⟨C, f, _, PySem.W.mg_of X G a, a, ⟨mk, b, fn, kc⟩, funG_mk l c k hd hk⟩
theorem funGAt_mk (X : K.In h) (G : h.Ns mainGlobals mg) (a : PySem.W.nsIn K mainGlobals x = some (some (.ref f))) (l : K.lookup f = some ⟨oc, od, .func (PySem.W.fnOf x x (defArgs st) (defBody st) (defScope st) dV kV doc pm an cdv ct), osl⟩) (c : PySem.W.codeIn K cdv x = true) (k : PySem.W.keepIn K (.ref f) = true)
    (hd : dflB K dV dD = true) (hk : kwdB K kV kD = true) : FunGAt K mg x x st dD kD := ⟨f, _, PySem.W.mg_of X G a, funG_mk l c k hd hk⟩
end
/-! ### zip -/
def zipD : List D → List D → List D
  | x :: xs, y :: ys => .tup [x, y] :: zipD xs ys
  | _, _ => []
theorem zipD_get : ∀ (xs ys : List D) (i : Nat) (d : D), (zipD xs ys)[i]? = some d → ∃ x y, xs[i]? = some x ∧ ys[i]? = some y ∧ d = .tup [x, y]
  | [], _, _, _, h => by simp [zipD] at h
  | _ :: _, [], _, _, h => by simp [zipD] at h
  | x :: xs, y :: ys, 0, d, h => by simp [zipD] at h; exact ⟨x, y, rfl, rfl, h.symm⟩
  | x :: xs, y :: ys, i + 1, d, h => by
    simp only [zipD, List.getElem?_cons_succ] at h
    simpa using zipD_get xs ys i d h
theorem zipD_len : ∀ (xs ys : List D), (zipD xs ys).length = min xs.length ys.length
  | [], ys => by simp [zipD]
  | _ :: _, [] => by simp [zipD]
  | x :: xs, y :: ys => by simp [zipD, zipD_len xs ys]
def iZipD (qs : DA) : DI := fun δ m P PX => qs δ m (fun vs m1 => match vs with
  | [.tup xs, .tup ys] => P (fun _ => True) (zipD xs ys) m1
  | [x, y] => match asL m1 x, asL m1 y with
    | some xs, some ys => P (fun m => asL m x = some xs ∧ asL m y = some ys) (zipD xs ys) m1
    | _, _ => False
  | _ => False) PX
section
variable {X : Cx} {W : WX} {a b : Expr} {pos q tpos : Pos} {qs : DA} {elts : List Expr} {kk : Nat}
theorem ItD.zipT {K : PySem.W.Frag} {H0 : Hp} {p q : Addr} {vs ws : List V} {xs ys : List D} {Ph : Mu → Prop} (r1 : RpL K H0 vs xs) (h1 : SqT K H0 p vs) (r2 : RpL K H0 ws ys) (h2 : SqT K H0 q ws) (F : Hp) : ItD K F (RZ.ItzT K p q) H0 Ph (zipD xs ys) := by
  intro i H H1 m s1 ok1 ph
  have g1 := seqT_mono (s1.trans ok1.same) h1
  have g2 := seqT_mono (s1.trans ok1.same) h2
  refine ⟨fun d e => ?_, fun e => ⟨vs, ws, g1, g2, ?_⟩⟩
  · obtain ⟨x, y, e1, e2, rfl⟩ := zipD_get xs ys i d e
    obtain ⟨v, e3, rv⟩ := r1.get e1
    obtain ⟨w, e4, rw'⟩ := r2.get e2
    refine ⟨⟨vs, ws, v, w, g1, g2, e3, e4⟩, fun z H' yy => ?_⟩
    obtain ⟨T, v', w', rfl, hT, rfl, k1, k2⟩ := yy
    have := k1 vs g1
    rw [e3] at this; cases this
    have := k2 ws g2
    rw [e4] at this; cases this
    have sn := same_new (o := HO.tup [v, w]) (ok1.free hT).1
    exact ⟨_, sn, ok1.new hT _, .tup (SqT.of upd_same) (.cons ((rv.mono s1).mono sn) (.cons ((rw'.mono s1).mono sn) .nil))⟩
  · rw [r1.length, r2.length, e, zipD_len]; omega
theorem di_zip (hm : X.mg "zip" = none) (ha : PA X [a, b] (lA X.K W qs)) (hg : Gl X "zip" := by rfl) (hs : starEach [a, b] X.env = (false, eval a X.env) :: starEach [b] X.env := by rfl) (hpl : (backTo pos (starEach [b] X.env)).any (·.1) = false := by rfl) : PI X (.Tuple elts kk tpos) (.Call (.Name "zip" q) [a, b] [] pos) (lI X.K W (iZipD qs)) := by
  refine PI.imp (RZ.pi_zipA hg hm ha hs hpl) fun σ H R h => ?_
  obtain ⟨F, H0, m, δ, P, PX, ok, rs, h, g, gx⟩ := h
  refine ⟨F, H0, m, δ, _, PX, ok, rs, h, fun vs H1 H01 m1 ds s1 ok1 r1 h1 => ?_, gx⟩
  dsimp only at h1
  split at h1
  · obtain ⟨v, w, rfl, q1, q2⟩ := r1.two
    cases q1 with
    | tup a1 a2 =>
      cases q2 with
      | tup b1 b2 => exact ⟨_, _, _, _, rfl, .inr ⟨seqT_mono ok1.same a1, seqT_mono ok1.same b1, g _ _ _ _ _ _ s1 ok1 (ItD.zipT a2 a1 b2 b1) trivial h1⟩⟩
  · rename_i x y _
    obtain ⟨v, w, rfl, q1, q2⟩ := r1.two
    split at h1
    · rename_i xs ys e1 e2
      obtain ⟨p1, vs1, rfl, c1, d1⟩ := asL_rp ok1 q1 e1
      obtain ⟨p2, vs2, rfl, c2, d2⟩ := asL_rp ok1 q2 e2
      refine ⟨p1, p2, vs1, vs2, rfl, .inl ⟨c1, c2, g _ _ _ _ _ _ s1 ok1 (fun F' => ?_) ⟨e1, e2⟩ h1⟩⟩
      intro i H' H1' m' s' ok' ph
      obtain ⟨p1', ws1, z1, g1, k1⟩ := asL_rp ok' (q1.mono s') ph.1
      obtain ⟨p2', ws2, z2, g2, k2⟩ := asL_rp ok' (q2.mono s') ph.2
      cases z1; cases z2
      refine ⟨fun d e => ?_, fun e => ⟨ws1, ws2, g1, g2, ?_⟩⟩
      · obtain ⟨x, y, e1, e2, rfl⟩ := zipD_get xs ys i d e
        obtain ⟨v, e3, rv⟩ := k1.get e1
        obtain ⟨w, e4, rw'⟩ := k2.get e2
        refine ⟨⟨ws1, ws2, v, w, g1, g2, e3, e4⟩, fun z H'' yy => ?_⟩
        obtain ⟨T, v', w', rfl, hT, rfl, k3, k4⟩ := yy
        have := k3 ws1 g1
        rw [e3] at this; cases this
        have := k4 ws2 g2
        rw [e4] at this; cases this
        have sn := same_new (o := HO.tup [v, w]) (ok'.free hT).1
        exact ⟨_, sn, ok'.new hT _, .tup (SqT.of upd_same) (.cons (rv.mono sn) (.cons (rw'.mono sn) .nil))⟩
      · rw [k1.length, k2.length, e, zipD_len]; omega
    · exact h1.elim
  · exact h1.elim
end
end DL

namespace DL
open PySem L2
local macro_rules | `(tactic| walk_at "dl") => `(tactic| ((conv => whnf); try dsimp only))
local macro_rules | `(tactic| walk_at "sd") => `(tactic| first | trivial | exact Nat.zero_le _ | assumption | decide | omega | exact len_line (by first | decide | omega | (simp; done) | (simp; omega)) | (simp; done) | (simp; omega))
local macro_rules | `(tactic| walk_at "go") => `(tactic| ((conv => whnf); (try dsimp only); repeat ((with_reducible refine And.intro ?_ ?_); (focus (walk_at "sd")); (conv => whnf); (try dsimp only))))
local macro_rules | `(tactic| walk_at "ln") => `(tactic| (intro ds m Q PX h; repeat (obtain ⟨_, h⟩ := h); subst_vars; rfl))
/-! ### comprehensions that begin with something; two fors -/
section
variable {Ph : Mu → Prop} {re : DE} {δ : DSt} {P : List D → Mu → Prop} {j j1 : Nat} {m : Mu}
theorem comp_acc (f : D → D) (ph : Ph m) : ∀ {ds acc : List D}, acc.length + ds.length ≤ 16777216 → (∀ d ∈ ds, ∀ Q : DK, Q (f d) m → re (δ.set j (some d)) m Q noX) → P (acc ++ ds.map f) m → rComp Ph (gN j) qYes re δ P ds acc m
  | [], acc, _, _, h => by rw [rComp_nil]; exact ⟨ph, by simpa using h⟩
  | d :: ds, acc, hl, he, h => by
    rw [rComp_cons]
    refine ⟨ph, ?_⟩
    show re (δ.set j (some d)) m _ noX
    refine he d List.mem_cons_self _ ⟨?_, comp_acc f ph (by simp at hl ⊢; omega) (fun e z => he e (List.mem_cons_of_mem _ z)) (by simpa using h)⟩
    rw [sizeLine_eq]; simp at hl; omega
theorem comp2_fm {ri1 : DI} {js1 : List Nat} (g : D → List D) (f : D → D → D) (ph : Ph m) : ∀ {ds acc : List D}, acc.length + (ds.flatMap g).length ≤ 16777216 → (∀ d ∈ ds, ∀ P' : (Mu → Prop) → List D → Mu → Prop, P' (fun _ => True) (g d) m → ri1 (δ.set j (some d)) m P' noX) →
    (∀ d ∈ ds, ∀ e ∈ g d, ∀ Q : DK, Q (f d e) m → re ((wipeD (δ.set j (some d)) js1).set j1 (some e)) m Q noX) → P (acc ++ ds.flatMap fun d => (g d).map (f d)) m → rComp2 Ph (gN j) qYes ri1 js1 (gN j1) qYes re δ P ds acc m
  | [], acc, _, _, _, h => by rw [rComp2_nil]; exact ⟨ph, by simpa using h⟩
  | d :: ds, acc, hl, hi, he, h => by
    rw [rComp2_cons]
    refine ⟨ph, ?_⟩
    show ri1 (δ.set j (some d)) m _ noX
    refine hi d List.mem_cons_self _ ?_
    simp only [List.flatMap_cons, List.length_append] at hl
    refine comp_acc (f d) trivial (by omega) (he d List.mem_cons_self) ?_
    exact comp2_fm g f ph (by rw [List.length_append, List.length_map]; omega) (fun e z => hi e (List.mem_cons_of_mem _ z)) (fun e z => he e (List.mem_cons_of_mem _ z)) (by simpa using h)
end
/-! ### looks: which numbers fit, where they turn -/
def Lk.fits : Lk → Int → Bool
  | .any, _ => true
  | .is k, n => decide (n = k)
  | .frm k, n => decide (k ≤ n)
  | .upto k, n => decide (n ≤ k)
  | .inn a b, n => decide (a ≤ n) && decide (n ≤ b)
  | .one ns, n => ns.any fun k => decide (k = n)
  | .but l, n => !l.fits n
def sp_fits : Nat → SpD
  | 0 => spNo
  | k + 1 => fun ds m P _ => ∃ (l : Lk) (n : Int), ds = [l.d, .int n] ∧ l.dep ≤ k + 1 ∧ P (.bl (l.fits n)) m
def rd_fits (self : SpD) : DS :=
    sSeq (sStar 4 5 (rV 0))
    (sSeq (sIf (rTst (rOp oEq (rV 4) (rC (.str "but")))) (sRet (rNotV (rCall self [] (rCons (rOp oIx (rV 5) (rC (.int 0))) (rCons (rV 1) (rNil)))))) (sNext))
    (sSeq (sIf (rTst (rOp oEq (rV 4) (rC (.str "is")))) (sRet (rOp oEq (rV 1) (rOp oIx (rV 5) (rC (.int 0))))) (sNext))
    (sSeq (sIf (rTst (rOp oEq (rV 4) (rC (.str "one")))) (sRet (rOp (oInN false) (rV 1) (rOp oIx (rV 5) (rC (.int 0))))) (sNext))
    (sSeq (sSet 2 (rIfE (rTst (rOp (oInN false) (rV 4) (rTup (rCons (rC (.str "from")) (rCons (rC (.str "in")) (rNil)))))) (rOp oIx (rV 5) (rC (.int 0))) (rV 1)))
    (sSeq (sSet 3 (rIfE (rTst (rOp (oInN false) (rV 4) (rTup (rCons (rC (.str "to")) (rCons (rC (.str "in")) (rNil)))))) (rOp oIx (rV 5) (rNeg (rC (.int 1)))) (rV 1)))
    (sRet (rChain oLe oLe (rV 2) (rV 1) (rV 3))))))))
theorem ln_fits : ∀ kk ds m Q PX, sp_fits kk ds m Q PX → ds.length = 2
  | 0, _, _, _, _, h => h.elim
  | kk + 1, ds, m, Q, PX, h => by (repeat (obtain ⟨_, h⟩ := h)); subst_vars; rfl
theorem any_ints (ns : List Int) (n : Int) : (ns.map D.int).any (fun z => deq z (.int n)) = ns.any fun k => decide (k = n) := by
  rw [List.any_map]
  congr 1
theorem flat_ints (ns : List Int) : (ns.map D.int).all flatD = true := by simp [flatD]
theorem dep_pos (l : Lk) : 1 ≤ l.dep := by cases l <;> simp [Lk.dep]
theorem pu_fits : ∀ kk ds m Q PX, sp_fits (kk + 1) ds m Q PX → rd_fits (sp_fits kk) (dEnds Q PX) (dstart ["look", "number", "low", "high", "word", "rest"] ds) m := by
  rintro kk ds m Q PX ⟨l, n, rfl, hd, h⟩
  have nn : decide (n ≤ n) = true := decide_eq_true (Int.le_refl n)
  cases l with
  | any => walk_at "go"; rw [nn]; walk_at "go"; rw [nn]; exact h
  | is k => walk_at "go"; exact h
  | frm k =>
    walk_at "go"
    change Q (.bl (decide (k ≤ n))) m at h
    cases hb : decide (k ≤ n) with
    | true => rw [hb] at h; walk_at "go"; rw [nn]; exact h
    | false => rw [hb] at h; exact h
  | upto k => walk_at "go"; rw [nn]; walk_at "go"; exact h
  | inn a b =>
    walk_at "go"
    change Q (.bl (decide (a ≤ n) && decide (n ≤ b))) m at h
    cases hb : decide (a ≤ n) with
    | true => rw [hb] at h; walk_at "go"; exact h
    | false => rw [hb] at h; exact h
  | one ns =>
    walk_at "go"
    refine ⟨⟨rfl, flat_ints ns⟩, ?_⟩
    rw [any_ints]
    exact h
  | but l =>
    have hdp : l.dep ≤ kk := by have : l.dep + 1 ≤ kk + 1 := hd; omega
    have := dep_pos l
    cases kk with
    | zero => omega
    | succ k => walk_at "go"; exact ⟨l, n, rfl, hdp, h⟩
def Lk.edges (l : Lk) : List Int := l.nums.flatMap fun n => [n, n + 1]
def sp_edges : Nat → SpD
  | 0 => spNo
  | k + 1 => fun ds m P _ => ∃ l : Lk, ds = [l.d] ∧ l.dep ≤ k + 1 ∧ l.few ∧ P (.lst (l.edges.map .int)) m
def rd_edges (self : SpD) : DS :=
    sSeq (sStar 1 2 (rV 0))
    (sSeq (sIf (rTst (rOp oEq (rV 1) (rC (.str "but")))) (sRet (rCall self [] (rCons (rOp oIx (rV 2) (rC (.int 0))) (rNil)))) (sNext))
    (sSeq (sIf (rTst (rOp oEq (rV 1) (rC (.str "one")))) (sRet (rLc2 (iAny (rOp oIx (rV 2) (rC (.int 0)))) [3, 4] (gN 3) (qYes) (iAny (rTup (rCons (rC (.int 0)) (rCons (rC (.int 1)) (rNil))))) [4] (gN 4) (qYes) (rOp oAdd (rV 3) (rV 4)))) (sNext))
    (sRet (rLc2 (iAny (rV 2)) [3, 4] (gN 3) (qYes) (iAny (rTup (rCons (rC (.int 0)) (rCons (rC (.int 1)) (rNil))))) [4] (gN 4) (qYes) (rOp oAdd (rV 3) (rV 4))))))
theorem ln_edges : ∀ kk ds m Q PX, sp_edges kk ds m Q PX → ds.length = 1
  | 0, _, _, _, _, h => h.elim
  | kk + 1, ds, m, Q, PX, h => by (repeat (obtain ⟨_, h⟩ := h)); subst_vars; rfl
theorem edges_flat (ns : List Int) : (ns.map D.int).flatMap (fun d => ([.int 0, .int 1] : List D).map fun e => match d, e with | .int a, .int b => D.int (a + b) | x, _ => x) = (ns.flatMap fun n => [n, n + 1]).map .int := by
  induction ns with
  | nil => rfl
  | cons n ns ih =>
    rw [List.map_cons, List.flatMap_cons, ih, List.flatMap_cons, List.map_append]
    simp
theorem edges_comp {m : Mu} {ns : List Int} {a b c : Option D} (hl : ns.length ≤ 4) {P : List D → Mu → Prop} (h : P ((ns.flatMap fun n => [n, n + 1]).map .int) m) :
    rComp2 (fun _ => True) (gN 3) qYes (iAny (rTup (rCons (rC (.int 0)) (rCons (rC (.int 1)) (rNil))))) [4] (gN 4) qYes (rOp oAdd (rV 3) (rV 4)) (wipeD [a, b, c, none, none] [3, 4]) P (ns.map .int) [] m := by
  refine comp2_fm (fun _ => [.int 0, .int 1]) (fun d e => match d, e with | .int a, .int b => D.int (a + b) | x, _ => x) trivial ?_ (fun d hd P' h' => ?_) (fun d hd e he Q q => ?_) ?_
  · have : ∀ l : List D, (l.flatMap fun _ => [D.int 0, .int 1]).length = 2 * l.length := by
      intro l
      induction l with
      | nil => rfl
      | cons d l ih => rw [List.flatMap_cons, List.length_append, ih]; simp; omega
    rw [this, List.length_map]; simp; omega
  · exact ⟨by show 2 ≤ _; decide, h'⟩
  · obtain ⟨n, _, rfl⟩ := List.mem_map.mp hd
    simp only [List.mem_cons, List.not_mem_nil, or_false] at he
    rcases he with rfl | rfl <;> exact q
  · rw [List.nil_append, edges_flat]; exact h
theorem pu_edges : ∀ kk ds m Q PX, sp_edges (kk + 1) ds m Q PX → rd_edges (sp_edges kk) (dEnds Q PX) (dstart ["look", "word", "rest", "number", "more"] ds) m := by
  rintro kk ds m Q PX ⟨l, rfl, hd, hf, h⟩
  cases l with
  | any => walk_at "go"; exact edges_comp (ns := []) (by decide) h
  | is k => walk_at "go"; exact edges_comp (ns := [k]) (by simp) h
  | frm k => walk_at "go"; exact edges_comp (ns := [k]) (by simp) h
  | upto k => walk_at "go"; exact edges_comp (ns := [k]) (by simp) h
  | inn a b => walk_at "go"; exact edges_comp (ns := [a, b]) (by simp) h
  | one ns => walk_at "go"; exact edges_comp (ns := ns) hf h
  | but l =>
    have hdp : l.dep ≤ kk := by have : l.dep + 1 ≤ kk + 1 := hd; omega
    have := dep_pos l
    cases kk with
    | zero => omega
    | succ k => walk_at "go"; exact ⟨l, rfl, hdp, hf, h⟩
/-! ### turns, samples -/
def Lk.turns (l : Lk) : List Int := (srtU l.edges).filter fun n => l.fits n != l.fits (n - 1)
def sp_turns : SpD := fun ds m P _ => ∃ l : Lk, ds = [l.d] ∧ l.dep ≤ 2 ∧ l.few ∧ P (.lst (l.turns.map .int)) m
def rd_turns : DS :=
    sRet (rLc (iAny (rSrtS (rCons (rCall (sp_edges 2) [] (rCons (rV 0) (rNil))) (rNil)))) [1] (gN 1) (rTst (rOp oNe (rCall (sp_fits 2) [] (rCons (rV 0) (rCons (rV 1) (rNil)))) (rCall (sp_fits 2) [] (rCons (rV 0) (rCons (rOp oSub (rV 1) (rC (.int 1))) (rNil)))))) (rV 1))
theorem ln_turns : ∀ ds m Q PX, sp_turns ds m Q PX → ds.length = 1 := fun ds m Q PX h => by (repeat (obtain ⟨_, h⟩ := h)); subst_vars; rfl
theorem edges_len (l : Lk) (h : l.few) : l.edges.length ≤ 8 := by
  have : ∀ ns : List Int, (ns.flatMap fun n => [n, n + 1]).length = 2 * ns.length := by
    intro ns
    induction ns with
    | nil => rfl
    | cons d l ih => rw [List.flatMap_cons, List.length_append, ih]; simp; omega
  unfold Lk.edges
  rw [this]
  have : ∀ l : Lk, l.few → l.nums.length ≤ 4 := by
    intro l
    induction l with
    | one ns => exact fun h => h
    | but l ih => exact ih
    | _ => intro _; simp [Lk.nums]
  have := this l h
  omega
theorem asI_srt {m : Mu} (ns : List Int) : asI m (.lst (ns.map .int)) = some ns := asI_lst ns
theorem pu_turns : ∀ ds m Q PX, sp_turns ds m Q PX → rd_turns (dEnds Q PX) (dstart ["look", "number"] ds) m := by
  rintro ds m Q PX ⟨l, rfl, hd, hf, h⟩
  have hl := edges_len l hf
  walk_at "go"
  refine ⟨l, rfl, hd, hf, ?_⟩
  walk_at "dl"
  rw [asI_lst]
  walk_at "go"
  refine comp_fm (fun d => match d with | .int n => l.fits n != l.fits (n - 1) | _ => false) (fun d => d) ?_ trivial (fun d hd' Q q => ?_) (fun d _ _ Q q => q) ?_
  · rw [List.length_map]; have := srtU_len l.edges; omega
  · obtain ⟨n, _, rfl⟩ := List.mem_map.mp hd'
    walk_at "go"
    refine ⟨l, n, rfl, hd, ?_⟩
    walk_at "go"
    refine ⟨l, n - 1, rfl, hd, ?_⟩
    walk_at "go"
    change Q (l.fits n != l.fits (n - 1)) m at q
    revert q
    cases l.fits n <;> cases l.fits (n - 1) <;> exact fun q => q
  · rw [List.map_id', List.filter_map]
    exact h
/-! ### == of lists of whole numbers, of pure data -/
theorem fit_lst_ints (ns : List Int) (n : Nat) : fitD (n + 1) (.lst (ns.map .int)) := fun d hd => by obtain ⟨k, _, rfl⟩ := List.mem_map.mp hd; cases n <;> trivial
theorem pur_lst_ints (ns : List Int) : pur (.lst (ns.map .int)) = true := by rw [pur]; exact pur_ints ns
theorem lst_ints_inj {ns ks : List Int} (h : D.lst (ns.map .int) = .lst (ks.map .int)) : ns = ks := map_ints_inj (D.lst.inj h)
theorem eqP {neg b : Bool} {m : Mu} {x y : D} {P : DK} {i j : Nat} (hx : pur x = true) (hy : pur y = true) (fx : fitD i x) (fy : fitD j y) (hb : b = true ↔ x = y) (h : P (.bl (if neg then !b else b)) m) (hi : i ≤ 60 := by decide) (hj : j ≤ 60 := by decide) :
    shp (dat m x) ∧ shp (dat m y) ∧ P (.bl (if neg then !deq (dat m x) (dat m y) else deq (dat m x) (dat m y))) m := by
  rw [dat_pur hx, dat_pur hy]
  have e : deq x y = b := by rw [Bool.eq_iff_iff, deq_iff hx hy, hb]
  rw [e]
  exact ⟨shp_of fx hi, shp_of fy hj, h⟩
theorem eqI {neg : Bool} {m : Mu} {ns ks : List Int} {P : DK} (h : P (.bl (if neg then !decide (ns = ks) else decide (ns = ks))) m) :
    shp (dat m (.lst (ns.map .int))) ∧ shp (dat m (.lst (ks.map .int))) ∧ P (.bl (if neg then !deq (dat m (.lst (ns.map .int))) (dat m (.lst (ks.map .int))) else deq (dat m (.lst (ns.map .int))) (dat m (.lst (ks.map .int))))) m :=
  eqP (pur_lst_ints ns) (pur_lst_ints ks) (fit_lst_ints ns 1) (fit_lst_ints ks 1) (by rw [decide_eq_true_eq]; exact ⟨fun e => by rw [e], lst_ints_inj⟩) h
theorem shpI {m : Mu} {ns : List Int} : shp (dat m (.lst (ns.map .int))) := by rw [dat_pur (pur_lst_ints ns)]; exact shp_of (fit_lst_ints ns 1)
theorem shpN {m : Mu} : shp (dat m (.lst [])) := shpI (ns := [])
theorem deqI {m : Mu} {ns ks : List Int} : deq (dat m (.lst (ns.map .int))) (dat m (.lst (ks.map .int))) = decide (ns = ks) := by
  rw [dat_pur (pur_lst_ints ns), dat_pur (pur_lst_ints ks), Bool.eq_iff_iff, deq_iff (pur_lst_ints ns) (pur_lst_ints ks), decide_eq_true_eq]
  exact ⟨lst_ints_inj, fun e => by rw [e]⟩
theorem deqIN {m : Mu} {ns : List Int} : deq (dat m (.lst (ns.map .int))) (dat m (.lst [])) = decide (ns = []) := deqI (ks := [])
theorem atI0 {α : Type} (x : α) (xs : List α) : atI (x :: xs) 0 = some x := by
  unfold atI ixN
  rw [if_pos (by decide), if_pos (by simp)]
  rfl
def withFirst (ns : List Int) : List Int := match srtU ns with
  | [] => [0]
  | a :: r => (a - 1) :: a :: r
def sp_with_first : SpD := fun ds m P _ => ∃ ns : List Int, ds = [.lst (ns.map .int)] ∧ ns.length < 64 ∧ P (.lst ((withFirst ns).map .int)) m
def rd_with_first : DS :=
    sSeq (sSet 1 (rSrtS (rCons (rV 0) (rNil))))
    (sSeq (sIf (rTst (rOp oEq (rV 1) (rLst (rNil)))) (sRet (rLst (rCons (rC (.int 0)) (rNil)))) (sNext))
    (sRet (rOp oAdd (rLst (rCons (rOp oSub (rOp oIx (rV 1) (rC (.int 0))) (rC (.int 1))) (rNil))) (rV 1))))
theorem ln_with_first : ∀ ds m Q PX, sp_with_first ds m Q PX → ds.length = 1 := fun ds m Q PX h => by (repeat (obtain ⟨_, h⟩ := h)); subst_vars; rfl
theorem pu_with_first : ∀ ds m Q PX, sp_with_first ds m Q PX → rd_with_first (dEnds Q PX) (dstart ["some", "found"] ds) m := by
  rintro ds m Q PX ⟨ns, rfl, hl, h⟩
  have hs := srtU_len ns
  walk_at "dl"
  rw [asI_lst]
  walk_at "go"
  refine ⟨shpI, shpN, ?_⟩
  rw [deqIN]
  unfold withFirst at h
  cases e : srtU ns with
  | nil => rw [e] at h; walk_at "go"; exact h
  | cons a r =>
    rw [e] at h hs
    simp only [List.length_cons] at hs
    walk_at "go"
    rw [List.map_cons, atI0]
    walk_at "go"
    exact h
def smp (ls : List Lk) : List Int := withFirst (ls.flatMap Lk.turns)
def sp_samples : SpD := fun ds m P _ => ∃ ls : List Lk, ds = [.lst (ls.map Lk.d)] ∧ ls.length ≤ 7 ∧ (∀ l ∈ ls, l.dep ≤ 2 ∧ l.few) ∧ P (.lst ((smp ls).map .int)) m
def rd_samples : DS :=
    sRet (rCall sp_with_first [] (rCons (rLc2 (iAny (rV 0)) [1, 2] (gN 1) (qYes) (iAny (rCall sp_turns [] (rCons (rV 1) (rNil)))) [2] (gN 2) (qYes) (rV 2)) (rNil)))
theorem ln_samples : ∀ ds m Q PX, sp_samples ds m Q PX → ds.length = 1 := fun ds m Q PX h => by (repeat (obtain ⟨_, h⟩ := h)); subst_vars; rfl
theorem turns_len (l : Lk) (h : l.few) : l.turns.length ≤ 8 := Nat.le_trans (List.length_filter_le _ _) (Nat.le_trans (srtU_len _) (edges_len l h))
theorem flat_len {α β : Type} (f : α → List β) (k : Nat) : ∀ l : List α, (∀ x ∈ l, (f x).length ≤ k) → (l.flatMap f).length ≤ l.length * k
  | [], _ => by simp
  | x :: l, h => by
    have h1 := h x List.mem_cons_self
    have h2 := flat_len f k l fun y hy => h y (List.mem_cons_of_mem _ hy)
    rw [List.flatMap_cons, List.length_append, List.length_cons, Nat.add_mul]
    omega
theorem flat_map_d {f : Lk → List Int} {g : D → List D} : ∀ ls : List Lk, (∀ l ∈ ls, g l.d = (f l).map .int) → (ls.map Lk.d).flatMap g = (ls.flatMap f).map .int
  | [], _ => rfl
  | l :: ls, h => by
    rw [List.map_cons, List.flatMap_cons, List.flatMap_cons, List.map_append, h l List.mem_cons_self, flat_map_d ls fun k hk => h k (List.mem_cons_of_mem _ hk)]
noncomputable def unLk (d : D) : Lk := open Classical in if h : ∃ l : Lk, l.d = d then h.choose else .any
theorem unLk_d (l : Lk) : unLk l.d = l := by
  have h : ∃ k : Lk, k.d = l.d := ⟨l, rfl⟩
  unfold unLk
  rw [dif_pos h]
  exact Lk.d_inj h.choose_spec
theorem pu_samples : ∀ ds m Q PX, sp_samples ds m Q PX → rd_samples (dEnds Q PX) (dstart ["looks", "look", "number"] ds) m := by
  rintro ds m Q PX ⟨ls, rfl, hl, hls, h⟩
  have hfl : (ls.flatMap Lk.turns).length ≤ 56 := Nat.le_trans (flat_len Lk.turns 8 ls fun l hl => turns_len l (hls l hl).2) (by omega)
  have ef : (ls.map Lk.d).flatMap (fun d => (unLk d).turns.map D.int) = (ls.flatMap Lk.turns).map D.int := flat_map_d ls fun l _ => by rw [unLk_d]
  walk_at "go"
  refine comp2_fm (fun d => (unLk d).turns.map .int) (fun _ e => e) trivial ?_ (fun d hd P' h' => ?_) (fun d hd e he Q q => q) ?_
  · rw [ef, List.length_map, List.length_nil]; omega
  · obtain ⟨l, hm, rfl⟩ := List.mem_map.mp hd
    rw [unLk_d] at h'
    exact ⟨l, rfl, (hls l hm).1, (hls l hm).2, h'⟩
  · simp only [List.map_id', List.nil_append]
    rw [ef]
    exact ⟨_, rfl, by omega, h⟩
abbrev sp__law_fits : Nat → SpD := sp_fits
def rd__law_fits (self : SpD) : DS :=
    sSeq (sSet 2 (rOp oIx (rV 0) (rC (.int 0))))
    (sSeq (sIf (rTst (rOp oEq (rV 2) (rC (.str "but")))) (sRet (rNotV (rCall self [] (rCons (rOp oIx (rV 0) (rC (.int 1))) (rCons (rV 1) (rNil)))))) (sNext))
    (sSeq (sIf (rTst (rOp oEq (rV 2) (rC (.str "any")))) (sRet (rC (.bl true))) (sNext))
    (sSeq (sIf (rTst (rOp oEq (rV 2) (rC (.str "one")))) (sRet (rOp (oInN false) (rV 1) (rOp oIx (rV 0) (rC (.int 1))))) (sNext))
    (sSeq (sIf (rTst (rOp oEq (rV 2) (rC (.str "is")))) (sRet (rOp oEq (rV 1) (rOp oIx (rV 0) (rC (.int 1))))) (sNext))
    (sSeq (sIf (rTst (rOp oEq (rV 2) (rC (.str "from")))) (sRet (rOp oGe (rV 1) (rOp oIx (rV 0) (rC (.int 1))))) (sNext))
    (sSeq (sIf (rTst (rOp oEq (rV 2) (rC (.str "to")))) (sRet (rOp oLe (rV 1) (rOp oIx (rV 0) (rC (.int 1))))) (sNext))
    (sRet (rAndV (rOp oLe (rOp oIx (rV 0) (rC (.int 1))) (rV 1)) (rOp oLe (rV 1) (rOp oIx (rV 0) (rC (.int 2))))))))))))
theorem ln__law_fits : ∀ kk ds m Q PX, sp__law_fits kk ds m Q PX → ds.length = 2 := ln_fits
theorem pu__law_fits : ∀ kk ds m Q PX, sp__law_fits (kk + 1) ds m Q PX → rd__law_fits (sp__law_fits kk) (dEnds Q PX) (dstart ["_law_sight", "_law_number", "_law_word"] ds) m := by
  rintro kk ds m Q PX ⟨l, n, rfl, hd, h⟩
  cases l with
  | any => walk_at "go"; exact h
  | is k => walk_at "go"; exact h
  | frm k => walk_at "go"; exact h
  | upto k => walk_at "go"; exact h
  | inn a b =>
    walk_at "go"
    change Q (.bl (decide (a ≤ n) && decide (n ≤ b))) m at h
    cases hb : decide (a ≤ n) with
    | true => rw [hb] at h; walk_at "go"; exact h
    | false => rw [hb] at h; exact h
  | one ns =>
    walk_at "go"
    refine ⟨⟨rfl, flat_ints ns⟩, ?_⟩
    rw [any_ints]
    exact h
  | but l =>
    have hdp : l.dep ≤ kk := by have : l.dep + 1 ≤ kk + 1 := hd; omega
    have := dep_pos l
    cases kk with
    | zero => omega
    | succ k => walk_at "go"; exact ⟨l, n, rfl, hdp, h⟩
/-! ### the sample that a number is like -/
def likeOf (ns : List Int) (n : Int) : Int := (ns.filter fun k => decide (k ≤ n)).getLastD (ns.head?.getD 0)
/-- a list of whole numbers, of ours or not -/
def IsI (m : Mu) (d : D) (ns : List Int) : Prop := d = .lst (ns.map .int) ∨ ∃ q, d = .adr q ∧ m q = some (.lst (ns.map .int))
def sp__law_like : SpD := fun ds m P _ => ∃ (d : D) (ns : List Int) (n : Int), ds = [d, .int n] ∧ IsI m d ns ∧ 0 < ns.length ∧ ns.length ≤ 100000 ∧ P (.int (likeOf ns n)) m
def rd__law_like : DS :=
    sRet (rOp oIx (rOp oAdd (rLst (rCons (rOp oIx (rV 0) (rC (.int 0))) (rNil))) (rLc (iAny (rV 0)) [2] (gN 2) (rTst (rOp oLe (rV 2) (rV 1))) (rV 2))) (rNeg (rC (.int 1))))
theorem ln__law_like : ∀ ds m Q PX, sp__law_like ds m Q PX → ds.length = 2 := fun ds m Q PX h => by (repeat (obtain ⟨_, h⟩ := h)); subst_vars; rfl
theorem atI_last {α : Type} (x : α) (xs : List α) : atI (x :: xs) (-1) = some ((x :: xs).getLast (by simp)) := by
  unfold atI ixN
  rw [if_neg (by omega), if_pos (by simp; omega), List.getLast_eq_getElem]
  have : ((-1 : Int) + ((x :: xs).length : Int)).toNat = xs.length := by simp; omega
  rw [this]
  simp
theorem lastI (a : Int) (L : List Int) : atI (D.int a :: L.map D.int) (-1) = some (.int (L.getLastD a)) := by
  rw [atI_last]
  congr 1
  have := List.getLast_map (f := D.int) (l := a :: L) (by simp)
  refine this.trans ?_
  congr 1
  cases L with
  | nil => rfl
  | cons b L => rw [List.getLast_cons (by simp)]; rfl
theorem like_core {m : Mu} {Q : DK} {a n : Int} {r : List Int} {Ph : Mu → Prop} {d0 : D} (ph : Ph m) (hl : (a :: r).length ≤ 100000) (h : Q (.int (likeOf (a :: r) n)) m) : rComp Ph (gN 2) (rTst (rOp oLe (rV 2) (rV 1))) (rV 2) (wipeD [some d0, some (.int n), none] [2]) (fun acc m2 => oAdd (.lst [.int a]) (.lst acc) m2 fun x m3 => oIx x (.int (-1)) m3 Q) (.int a :: r.map .int) [] m := by
  refine comp_fm (ds := (a :: r).map .int) (fun d => match d with | .int k => decide (k ≤ n) | _ => false) (fun d => d) (by rw [List.length_map]; omega) ph (fun d hd Q q => ?_) (fun d _ _ Q q => q) ?_
  · obtain ⟨k, _, rfl⟩ := List.mem_map.mp hd
    exact q
  · have hf := List.length_filter_le (fun k => decide (k ≤ n)) (a :: r)
    rw [List.map_id', List.filter_map]
    have e : ((fun d : D => match d with | .int k => decide (k ≤ n) | _ => false) ∘ D.int) = fun k => decide (k ≤ n) := rfl
    rw [e]
    refine ⟨len_line (by simp only [List.length_map, List.length_cons, List.length_nil] at *; omega), ?_⟩
    have := lastI a ((a :: r).filter fun k => decide (k ≤ n))
    change (match atI (D.int a :: ((a :: r).filter fun k => decide (k ≤ n)).map D.int) (-1) with | some d => Q d m | none => False)
    rw [this]
    exact h
theorem pu__law_like : ∀ ds m Q PX, sp__law_like ds m Q PX → rd__law_like (dEnds Q PX) (dstart ["_law_found", "_law_number", "_law_one_here"] ds) m := by
  rintro ds m Q PX ⟨d, ns, n, rfl, hd, h0, hl, h⟩
  cases ns with
  | nil => simp at h0
  | cons a r =>
    rcases hd with rfl | ⟨q, rfl, hq⟩
    · walk_at "go"
      rw [List.map_cons, atI0]
      walk_at "go"
      exact like_core trivial hl h
    · walk_at "dl"
      rw [asL_adr hq]
      walk_at "dl"
      rw [List.map_cons, atI0]
      walk_at "go"
      rw [hq]
      walk_at "go"
      exact like_core hq hl h
/-! ### the mathematics of turning -/
theorem turn_edge : ∀ (l : Lk) (n : Int), l.fits n ≠ l.fits (n - 1) → n ∈ l.edges := by
  have mem : ∀ (ns : List Int) (n : Int), (n ∈ ns ∨ n - 1 ∈ ns) → n ∈ ns.flatMap fun k => [k, k + 1] := fun ns n h => by
    rw [List.mem_flatMap]
    rcases h with h | h
    · exact ⟨n, h, by simp⟩
    · exact ⟨n - 1, h, by simp⟩
  intro l
  induction l with
  | any => intro n h; exact absurd rfl h
  | is k => intro n h; refine mem _ n ?_; simp only [Lk.fits, ne_eq, decide_eq_decide] at h; simp only [Lk.nums, List.mem_singleton]; omega
  | frm k => intro n h; refine mem _ n ?_; simp only [Lk.fits, ne_eq, decide_eq_decide] at h; simp only [Lk.nums, List.mem_singleton]; omega
  | upto k => intro n h; refine mem _ n ?_; simp only [Lk.fits, ne_eq, decide_eq_decide] at h; simp only [Lk.nums, List.mem_singleton]; omega
  | inn a b =>
    intro n h; refine mem _ n ?_
    simp only [Lk.fits, ne_eq, ← Bool.decide_and, decide_eq_decide] at h
    simp only [Lk.nums, List.mem_cons, List.not_mem_nil, or_false]; omega
  | one ns =>
    intro n h
    refine mem _ n ?_
    show n ∈ ns ∨ n - 1 ∈ ns
    by_cases h1 : n ∈ ns
    · exact .inl h1
    · by_cases h2 : n - 1 ∈ ns
      · exact .inr h2
      · refine absurd ?_ h
        have e : ∀ k : Int, k ∉ ns → (Lk.one ns).fits k = false := fun k hk => by
          show (ns.any fun j => decide (j = k)) = false
          rw [List.any_eq_false]
          exact fun j hj z => hk (of_decide_eq_true z ▸ hj)
        rw [e _ h1, e _ h2]
  | but l ih => intro n h; exact ih n fun z => h (by show (!l.fits n) = !l.fits (n - 1); rw [z])
theorem mem_turns (l : Lk) (n : Int) : n ∈ l.turns ↔ l.fits n ≠ l.fits (n - 1) := by
  unfold Lk.turns
  rw [List.mem_filter, mem_srtU]
  constructor
  · rintro ⟨_, h⟩ e; rw [e] at h; simp at h
  · intro h; exact ⟨turn_edge l n h, by simpa using h⟩
theorem turns_asc (l : Lk) : l.turns.Pairwise (· < ·) := (srtU_asc l.edges).filter _
theorem srtU_id {l : List Int} (h : l.Pairwise (· < ·)) : srtU l = l := asc_ext (srtU_asc l) h fun x => mem_srtU x l
/-- where nothing turns between -/
theorem fits_const (l : Lk) (a : Int) : ∀ (k : Nat), (∀ j : Int, a < j → j ≤ a + k → j ∉ l.turns) → l.fits (a + k) = l.fits a
  | 0, _ => by simp
  | k + 1, h => by
    have ih := fits_const l a k fun j h1 h2 => h j h1 (by omega)
    have h1 := h (a + (k + 1 : Nat)) (by omega) (Int.le_refl _)
    rw [mem_turns, Decidable.not_not] at h1
    rw [h1, ← ih]
    congr 1
    omega
theorem fits_same (l : Lk) {a b : Int} (hab : a ≤ b) (h : ∀ j : Int, a < j → j ≤ b → j ∉ l.turns) : l.fits b = l.fits a := by
  have := fits_const l a (b - a).toNat (fun j h1 h2 => h j h1 (by omega))
  have e : a + ((b - a).toNat : Int) = b := by omega
  rw [e] at this
  exact this
theorem asc_last {l : List Int} (h : l.Pairwise (· < ·)) (hne : l ≠ []) : ∀ x ∈ l, x ≤ l.getLast hne := by
  intro x hx
  have e := List.dropLast_concat_getLast hne
  rw [← e, List.pairwise_append] at h
  rw [← e] at hx
  rcases List.mem_append.mp hx with z | z
  · exact Int.le_of_lt (h.2.2 x z _ (by simp))
  · rw [List.mem_singleton.mp z]; exact Int.le_refl _
/-- a number fits as its sample does -/
theorem like_fits (l : Lk) (ts : List Int) (h : ∀ n ∈ l.turns, n ∈ ts) (n : Int) : l.fits n = l.fits (likeOf (withFirst ts) n) := by
  unfold withFirst
  have hasc := srtU_asc ts
  have hmem : ∀ k ∈ l.turns, k ∈ srtU ts := fun k hk => (mem_srtU k ts).mpr (h k hk)
  cases e : srtU ts with
  | nil =>
    have no : ∀ j, j ∉ l.turns := fun j hj => by have := hmem j hj; rw [e] at this; cases this
    dsimp only
    have e1 : likeOf [0] n = 0 := by
      unfold likeOf
      cases h0 : decide ((0 : Int) ≤ n) <;> simp [h0]
    rw [e1]
    by_cases h0 : 0 ≤ n
    · exact fits_same l h0 fun j _ _ => no j
    · exact (fits_same l (by omega) fun j _ _ => no j).symm
  | cons a r =>
    rw [e] at hasc hmem
    dsimp only
    have hsam : ((a - 1) :: a :: r).Pairwise (· < ·) := by
      rw [List.pairwise_cons]
      refine ⟨fun x hx => ?_, hasc⟩
      rcases List.mem_cons.mp hx with rfl | hx
      · omega
      · have := (List.pairwise_cons.mp hasc).1 x hx; omega
    have hmin : ∀ x ∈ a :: r, a ≤ x := fun x hx => by
      rcases List.mem_cons.mp hx with rfl | hx
      · exact Int.le_refl _
      · exact Int.le_of_lt ((List.pairwise_cons.mp hasc).1 x hx)
    unfold likeOf
    simp only [List.head?_cons, Option.getD_some]
    cases hf : ((a - 1) :: a :: r).filter (fun k => decide (k ≤ n)) with
    | nil =>
      have hn : n < a - 1 := by
        have := List.filter_eq_nil_iff.mp hf (a - 1) List.mem_cons_self
        simpa using this
      show l.fits n = l.fits (a - 1)
      exact (fits_same l (by omega) fun j h1 h2 hj => by have := hmin j (hmem j hj); omega).symm
    | cons x xs =>
      have hne : x :: xs ≠ [] := by simp
      have e2 : (x :: xs).getLastD (a - 1) = (x :: xs).getLast hne := by simp [List.getLastD_eq_getLast?, List.getLast?_eq_some_getLast hne]
      rw [e2]
      have hfa : (x :: xs).Pairwise (· < ·) := by rw [← hf]; exact hsam.filter _
      have hle : (x :: xs).getLast hne ≤ n := by
        have hm : (x :: xs).getLast hne ∈ ((a - 1) :: a :: r).filter (fun k => decide (k ≤ n)) := by rw [hf]; exact List.getLast_mem hne
        have := (List.mem_filter.mp hm).2
        simpa using this
      refine fits_same l hle fun j h1 h2 hj => ?_
      have hj2 : j ∈ x :: xs := by
        rw [← hf, List.mem_filter]
        exact ⟨List.mem_cons_of_mem _ (hmem j hj), by simpa using h2⟩
      have := asc_last hfa hne j hj2
      omega
end DL

namespace DL
open PySem L2
local macro_rules | `(tactic| walk_at "dl") => `(tactic| ((conv => whnf); try dsimp only))
local macro_rules | `(tactic| walk_at "sd") => `(tactic| first | trivial | exact Nat.zero_le _ | assumption | decide | omega | exact len_line (by first | decide | omega | (simp; done) | (simp; omega)) | (simp; done) | (simp; omega) | exact ⟨by decide, by decide, by decide⟩ | exact .inl ⟨by decide, by decide⟩ | exact .inl ⟨by omega, by omega⟩ | exact wide_div (b := 64) (by decide) (by decide) (by decide) (by decide))
local macro_rules | `(tactic| walk_at "go") => `(tactic| ((conv => whnf); (try dsimp only); repeat ((with_reducible refine And.intro ?_ ?_); (focus (walk_at "sd")); (conv => whnf); (try dsimp only))))
local macro_rules | `(tactic| walk_at "th") => `(tactic| repeat' (first | assumption | exact thD_txt _ _ | exact thD_int | exact thD_non | exact thD_bl | exact thD_mono _ _ _ (by decide) (by assumption) | refine List.forall_mem_cons.mpr (And.intro ?_ ?_) | exact List.forall_mem_nil _ | refine thD_tup (by simp) ?_ | refine thD_lst (by simp) ?_))
local macro_rules | `(tactic| walk_at "ln") => `(tactic| (intro ds m Q PX h; repeat (obtain ⟨_, h⟩ := h); subst_vars; rfl))
/-! ### things of any kind -/
def thD : Nat → D → Prop
  | _, .non => True
  | _, .bl _ => True
  | _, .int _ => True
  | _, .str x => x.length ≤ 100000 ∧ ∀ c ∈ x.cps.toList, c < 1114112
  | n + 1, .lst ds => ds.length ≤ 10000 ∧ ∀ d ∈ ds, thD n d
  | n + 1, .tup ds => ds.length ≤ 10000 ∧ ∀ d ∈ ds, thD n d
  | _, _ => False
theorem thD_fit : ∀ (n : Nat) (d : D), thD n d → fitD n d := by
  intro n
  induction n with
  | zero => intro d h; cases d <;> first | trivial | exact h.2 | exact h
  | succ n ih =>
    intro d h
    cases d with
    | lst ds => exact fun d hd => ih d (h.2 d hd)
    | tup ds => exact fun d hd => ih d (h.2 d hd)
    | str x => exact h.2
    | _ => first | trivial | exact h
theorem thD_mono : ∀ (n k : Nat) (d : D), n ≤ k → thD n d → thD k d := by
  intro n
  induction n with
  | zero => intro k d _ h; cases d <;> first | (cases k <;> exact h) | cases h
  | succ n ih =>
    intro k d hk h
    cases k with
    | zero => omega
    | succ k =>
      cases d with
      | lst ds => exact ⟨h.1, fun d hd => ih k d (by omega) (h.2 d hd)⟩
      | tup ds => exact ⟨h.1, fun d hd => ih k d (by omega) (h.2 d hd)⟩
      | _ => first | trivial | exact h
def Thg (d : D) : Prop := thD 20 d ∨ ∃ kvs, d = .dct kvs
def isWhole : D → Bool
  | .int _ => true
  | _ => false
theorem Thg.cases_ {d : D} (h : Thg d) {p : D → Prop} (h1 : p .non) (h2 : ∀ b, p (.bl b)) (h3 : ∀ i, p (.int i)) (h4 : ∀ x, x.length ≤ 100000 → (∀ c ∈ x.cps.toList, c < 1114112) → p (.str x)) (h5 : ∀ ds, ds.length ≤ 10000 → (∀ d ∈ ds, thD 19 d) → p (.lst ds)) (h6 : ∀ ds, ds.length ≤ 10000 → (∀ d ∈ ds, thD 19 d) → p (.tup ds)) (h7 : ∀ kvs, p (.dct kvs)) : p d := by
  rcases h with h | ⟨kvs, rfl⟩
  · cases d with
    | non => exact h1
    | bl b => exact h2 b
    | int i => exact h3 i
    | str x => exact h4 x h.1 h.2
    | lst ds => exact h5 ds h.1 h.2
    | tup ds => exact h6 ds h.1 h.2
    | _ => cases h
  · exact h7 kvs
theorem thg_of {n : Nat} {d : D} (h : thD n d) (hn : n ≤ 20 := by decide) : Thg d := .inl (thD_mono n 20 d hn h)
def sp_is_whole : SpD := fun ds m P _ => ∃ d, ds = [d] ∧ Thg d ∧ P (.bl (isWhole d)) m
def rd_is_whole : DS :=
    sRet (rAndV (rCB cIsi (rCons (rV 0) (rCons (rC (.ty "int")) (rNil)))) (rNotV (rCB cIsi (rCons (rV 0) (rCons (rC (.ty "bool")) (rNil))))))
theorem ln_is_whole : ∀ ds m Q PX, sp_is_whole ds m Q PX → ds.length = 1 := fun ds m Q PX h => by (repeat (obtain ⟨_, h⟩ := h)); subst_vars; rfl
theorem pu_is_whole : ∀ ds m Q PX, sp_is_whole ds m Q PX → rd_is_whole (dEnds Q PX) (dstart ["thing"] ds) m := by
  rintro ds m Q PX ⟨d, rfl, hd, h⟩
  revert h
  refine hd.cases_ (p := fun d => Q (.bl (isWhole d)) m → rd_is_whole (dEnds Q PX) (dstart ["thing"] [d]) m) ?_ ?_ ?_ ?_ ?_ ?_ ?_ <;> (intros; walk_at "go"; assumption)
abbrev sp__law_is_whole : SpD := sp_is_whole
def rd__law_is_whole : DS :=
    sRet (rAndV (rCB cIsi (rCons (rV 0) (rCons (rC (.ty "int")) (rNil)))) (rNotV (rCB cIsi (rCons (rV 0) (rCons (rC (.ty "bool")) (rNil))))))
theorem ln__law_is_whole : ∀ ds m Q PX, sp__law_is_whole ds m Q PX → ds.length = 1 := ln_is_whole
theorem pu__law_is_whole : ∀ ds m Q PX, sp__law_is_whole ds m Q PX → rd__law_is_whole (dEnds Q PX) (dstart ["_law_thing"] ds) m := pu_is_whole
/-! ### no two alike -/
noncomputable def ndB (xs : List D) : Bool := @decide xs.Nodup (Classical.propDecidable _)
theorem ndB_iff {xs : List D} : ndB xs = true ↔ xs.Nodup := @decide_eq_true_iff _ (Classical.propDecidable _)
def sp_are_unlike : SpD := fun ds m P _ => ∃ xs : List D, ds = [.lst xs] ∧ xs.length ≤ 100000 ∧ (∀ d ∈ xs, pur d = true ∧ fitD 20 d) ∧ P (.bl (ndB xs)) m
def rd_are_unlike : DS :=
    sRet (rCB cAll (rCons (rLc (iEnumD (rCons (rV 0) (rNil))) [1, 2] (gT [1, 2]) (qYes) (rOp (oInN true) (rV 2) (rSl (rV 0) rNoP (rPart (rV 1))))) (rNil)))
theorem ln_are_unlike : ∀ ds m Q PX, sp_are_unlike ds m Q PX → ds.length = 1 := fun ds m Q PX h => by (repeat (obtain ⟨_, h⟩ := h)); subst_vars; rfl
theorem nodup_get {α : Type} : ∀ xs : List α, xs.Nodup ↔ ∀ (i : Nat) (x : α), xs[i]? = some x → x ∉ xs.take i := by
  intro xs
  unfold List.Nodup
  rw [List.pairwise_iff_getElem]
  constructor
  · intro h i x e hm
    obtain ⟨j, hj⟩ := List.mem_iff_getElem?.mp hm
    rw [List.getElem?_take] at hj
    split at hj
    · rename_i hlt
      obtain ⟨hi, e1⟩ := List.getElem?_eq_some_iff.mp e
      obtain ⟨hj', e2⟩ := List.getElem?_eq_some_iff.mp hj
      exact h j i hj' hi hlt (by rw [e1, e2])
    · cases hj
  · intro h j i hj hi hji e
    have e1 : xs[i]? = some xs[i] := List.getElem?_eq_getElem hi
    refine h i _ e1 (List.mem_iff_getElem?.mpr ⟨j, ?_⟩)
    rw [List.getElem?_take, if_pos hji, List.getElem?_eq_getElem hj, e]
theorem pu_are_unlike : ∀ ds m Q PX, sp_are_unlike ds m Q PX → rd_are_unlike (dEnds Q PX) (dstart ["some", "at", "one"] ds) m := by
  rintro ds m Q PX ⟨xs, rfl, hl, hp, h⟩
  walk_at "go"
  have sub : ∀ i, ∀ d ∈ xs.take i, pur d = true := fun i d hd => (hp d (List.mem_of_mem_take hd)).1
  refine comp_inv (fun i acc m' => m' = m ∧ acc = ((List.range i).map fun j => D.bl (match xs[j]? with | some x => !((xs.take j).any fun z => deq z x) | none => true))) (fun i acc m' hh => ?_) (by rw [enumD_length]; omega) (fun i d acc m' e hh => ?_) (fun acc m' hh => ?_) ⟨rfl, rfl⟩
  · rw [hh.2]; simp
  · obtain ⟨rfl, rfl⟩ := hh
    refine ⟨trivial, fun Kt Kf k1 k2 => ?_⟩
    rw [enumD_get] at e
    cases hx : xs[i]? with
    | none => rw [hx] at e; cases e
    | some x =>
      rw [hx] at e
      cases e
      have hm := List.mem_of_getElem? hx
      refine ⟨rfl, ?_⟩
      have e0 : ((0 + i : Nat) : Int) = (i : Int) := by simp
      walk_at "dl"
      rw [e0, cut_take]
      refine ⟨.inr ⟨?_, ?_⟩, ?_⟩
      · rw [dat_pur (hp x hm).1]; exact shp_of (hp x hm).2
      · exact shp_of (n := 21) fun d hd => (hp d (List.mem_of_mem_take hd)).2
      · rw [dat_pur (hp x hm).1]
        exact k1 _ _ ⟨rfl, by rw [List.range_succ, List.map_append, List.map_singleton, hx]; rfl⟩
  · obtain ⟨rfl, rfl⟩ := hh
    refine ⟨trivial, ?_⟩
    rw [enumD_length]
    walk_at "dl"
    have e3 : ((List.range xs.length).map fun j => D.bl (match xs[j]? with | some x => !((xs.take j).any fun z => deq z x) | none => true)) = ((List.range xs.length).map fun j => (match xs[j]? with | some x => !((xs.take j).any fun z => deq z x) | none => true)).map .bl := by rw [List.map_map]; rfl
    rw [e3, boolsD_map]
    have e4 : (((List.range xs.length).map fun j => (match xs[j]? with | some x => !((xs.take j).any fun z => deq z x) | none => true)).all id) = ndB xs := by
      rw [Bool.eq_iff_iff, List.all_eq_true, ndB_iff, nodup_get]
      constructor
      · intro z i x e hm
        have hl : i < xs.length := (List.getElem?_eq_some_iff.mp e).1
        have := z _ (List.mem_map.mpr ⟨i, List.mem_range.mpr hl, rfl⟩)
        rw [e] at this
        simp only [id, Bool.not_eq_true'] at this
        rw [← Bool.not_eq_true, any_deq (hp x (List.mem_of_getElem? e)).1 (sub i)] at this
        exact this hm
      · intro z b hb
        obtain ⟨j, hj, rfl⟩ := List.mem_map.mp hb
        have hl := List.mem_range.mp hj
        have e : xs[j]? = some xs[j] := List.getElem?_eq_getElem hl
        rw [e]
        simp only [id, Bool.not_eq_true']
        rw [← Bool.not_eq_true, any_deq (hp _ (List.getElem_mem hl)).1 (sub j)]
        exact z j _ e
    show Q (.bl _) m'
    rw [e4]
    exact h
/-! ### looks, read by their form -/
noncomputable def oneB (xs : List D) : Bool := decide (xs.length ≤ 4) && (xs.all isWhole && ndB xs)
noncomputable def oneD : D → Bool
  | .tup xs => oneB xs
  | _ => false
noncomputable def lkB (w : Str) (rest : List D) : Bool :=
  if w = "any" then rest.isEmpty else if w = "one" then (match rest with | [x] => oneD x | _ => false)
  else if w = "is" ∨ w = "from" ∨ w = "to" then decide (rest.length = 1) && rest.all isWhole else if w = "in" then decide (rest.length = 2) && rest.all isWhole else false
noncomputable def plB : D → Bool
  | .tup (.str w :: rest) => lkB w rest
  | _ => false
noncomputable def lookB : D → Bool
  | .tup [.str w, x] => if w = "but" then plB x else lkB w [x]
  | d => plB d
theorem wholes {xs : List D} (h : xs.all isWhole = true) : ∃ ns : List Int, xs = ns.map .int := by
  induction xs with
  | nil => exact ⟨[], rfl⟩
  | cons d xs ih =>
    rw [List.all_cons, Bool.and_eq_true] at h
    obtain ⟨ns, rfl⟩ := ih h.2
    cases d with
    | int i => exact ⟨i :: ns, rfl⟩
    | _ => cases h.1
theorem all_whole (ns : List Int) : (ns.map D.int).all isWhole = true := by simp [isWhole]
theorem nd_ints (ns : List Int) : ndB (ns.map .int) = decide ns.Nodup := by
  rw [Bool.eq_iff_iff, ndB_iff, decide_eq_true_eq]
  exact ⟨fun h => (List.pairwise_map.mp h).imp fun z e => z (by rw [e]), fun h => List.Pairwise.map _ (fun a b z e => z (D.int.inj e)) h⟩
/-- [is_whole(x) for x in xs] -/
theorem comp_whole {Ph : Mu → Prop} {δ : DSt} {j : Nat} {m : Mu} {P : List D → Mu → Prop} {xs : List D} (ph : Ph m) (hl : xs.length ≤ 100000) (hx : ∀ d ∈ xs, Thg d) (hj : j < δ.length) (h : P ((xs.map isWhole).map .bl) m) : rComp Ph (gN j) qYes (rCall sp_is_whole [] (rCons (rV j) (rNil))) δ P xs [] m := by
  refine comp_map (fun d => .bl (isWhole d)) (by omega) ph (fun d hd Q q => ?_) ?_
  · show (match (δ.set j (some d))[j]? with | some (some d) => _ | _ => False)
    rw [List.getElem?_set_self hj]
    exact ⟨d, rfl, hx d hd, q⟩
  · rw [List.map_map] at h; exact h
theorem all_id {α : Type} (f : α → Bool) (xs : List α) : (xs.map f).all id = xs.all f := by rw [List.all_map]; rfl
def sp_is_one : SpD := fun ds m P _ => ∃ d, ds = [d] ∧ Thg d ∧ P (.bl (oneD d)) m
def rd_is_one : DS :=
    sSeq (sIf (rOr (rNot (rTru (rCB cIsi (rCons (rV 0) (rCons (rC (.ty "tuple")) (rNil)))))) (rTst (rOp oGt (rCB cLen (rCons (rV 0) (rNil))) (rC (.int 4))))) (sRet (rC (.bl false))) (sNext))
    (sRet (rAndV (rCB cAll (rCons (rLc (iAny (rV 0)) [1] (gN 1) (qYes) (rCall sp_is_whole [] (rCons (rV 1) (rNil)))) (rNil))) (rCall sp_are_unlike [] (rCons (rCB cLst (rCons (rV 0) (rNil))) (rNil)))))
theorem ln_is_one : ∀ ds m Q PX, sp_is_one ds m Q PX → ds.length = 1 := fun ds m Q PX h => by (repeat (obtain ⟨_, h⟩ := h)); subst_vars; rfl
theorem pu_is_one : ∀ ds m Q PX, sp_is_one ds m Q PX → rd_is_one (dEnds Q PX) (dstart ["numbers", "number"] ds) m := by
  rintro ds m Q PX ⟨d, rfl, hd, h⟩
  revert h
  refine hd.cases_ (p := fun d => Q (.bl (oneD d)) m → rd_is_one (dEnds Q PX) (dstart ["numbers", "number"] [d]) m) ?_ ?_ ?_ ?_ ?_ ?_ ?_
  all_goals (try (intros; walk_at "go"; assumption))
  intro xs hl hx h
  walk_at "go"
  change Q (.bl (oneB xs)) m at h
  unfold oneB at h
  cases h4 : decide ((4 : Int) < (xs.length : Nat)) with
  | true =>
    have := of_decide_eq_true h4
    rw [decide_eq_false (by omega : ¬ xs.length ≤ 4)] at h
    exact h
  | false =>
    have := of_decide_eq_false h4
    rw [decide_eq_true (by omega : xs.length ≤ 4), Bool.true_and] at h
    walk_at "go"
    refine comp_whole trivial (by omega) (fun d hd => thg_of (hx d hd)) (by exact (by decide : 1 < 2)) ?_
    walk_at "dl"
    rw [boolsD_map]
    dsimp only
    rw [all_id]
    cases hw : xs.all isWhole with
    | false => rw [hw] at h; exact h
    | true =>
      rw [hw, Bool.true_and] at h
      obtain ⟨ns, rfl⟩ := wholes hw
      walk_at "go"
      refine ⟨_, rfl, by omega, fun d hd => ?_, h⟩
      obtain ⟨n, _, rfl⟩ := List.mem_map.mp hd
      exact ⟨rfl, trivial⟩
/-! ### is_plain, is_look -/
theorem shpT {n : Nat} {d : D} {m : Mu} (h : thD n d) (hn : n ≤ 60 := by decide) : shp (dat m d) := by
  cases d <;> first | exact shp_of (thD_fit _ _ h) hn | (cases n <;> cases h)
theorem deq_tup_nil {xs : List D} : deq (.tup xs) (.tup []) = xs.isEmpty := by
  unfold deq
  rw [py, py, PyData.eqv]
  cases xs with
  | nil => rw [pyL, PyData.eqvAll]; rfl
  | cons d l => rw [pyL, pyL, PyData.eqvAll]; rfl
theorem deq_lst_nil {xs : List D} : deq (.lst xs) (.lst []) = xs.isEmpty := by
  unfold deq
  rw [py, py, PyData.eqv]
  cases xs with
  | nil => rw [pyL, PyData.eqvAll]; rfl
  | cons d l => rw [pyL, pyL, PyData.eqvAll]; rfl
def sp_is_plain : SpD := fun ds m P _ => ∃ d, ds = [d] ∧ Thg d ∧ P (.bl (plB d)) m
def rd_is_plain : DS :=
    sSeq (sIf (rOr (rNot (rTru (rCB cIsi (rCons (rV 0) (rCons (rC (.ty "tuple")) (rNil)))))) (rOr (rTst (rOp oEq (rV 0) (rTup (rNil)))) (rNot (rTru (rCB cIsi (rCons (rOp oIx (rV 0) (rC (.int 0))) (rCons (rC (.ty "str")) (rNil)))))))) (sRet (rC (.bl false))) (sNext))
    (sSeq (sStar 1 2 (rV 0))
    (sSeq (sIf (rOr (rTst (rOp (oInK true [("any", .int 1), ("is", .int 2), ("from", .int 2), ("to", .int 2), ("in", .int 3), ("one", .int 2)]) (rV 1) (rC .non))) (rTst (rOp oNe (rCB cLen (rCons (rV 0) (rNil))) (rIxK [("any", .int 1), ("is", .int 2), ("from", .int 2), ("to", .int 2), ("in", .int 3), ("one", .int 2)] (rV 1))))) (sRet (rC (.bl false))) (sNext))
    (sSeq (sIf (rTst (rOp oEq (rV 1) (rC (.str "one")))) (sRet (rCall sp_is_one [] (rCons (rOp oIx (rV 0) (rC (.int 1))) (rNil)))) (sNext))
    (sRet (rCB cAll (rCons (rLc (iAny (rV 2)) [3] (gN 3) (qYes) (rCall sp_is_whole [] (rCons (rV 3) (rNil)))) (rNil)))))))
theorem ln_is_plain : ∀ ds m Q PX, sp_is_plain ds m Q PX → ds.length = 1 := fun ds m Q PX h => by (repeat (obtain ⟨_, h⟩ := h)); subst_vars; rfl
theorem lkB_num (rest : List D) : ∀ q ∈ ([("any", 0), ("is", 1), ("from", 1), ("to", 1), ("in", 2)] : List (Str × Nat)), lkB q.1 rest = (decide (rest.length = q.2) && rest.all isWhole) := by
  intro q hq
  simp only [List.mem_cons, List.not_mem_nil, or_false] at hq
  rcases hq with rfl | rfl | rfl | rfl | rfl
  · show lkB "any" rest = _
    unfold lkB
    rw [if_pos rfl]
    cases rest <;> simp
  · show lkB "is" rest = _
    unfold lkB
    rw [if_neg (by decide), if_neg (by decide), if_pos (by decide)]
  · show lkB "from" rest = _
    unfold lkB
    rw [if_neg (by decide), if_neg (by decide), if_pos (by decide)]
  · show lkB "to" rest = _
    unfold lkB
    rw [if_neg (by decide), if_neg (by decide), if_pos (by decide)]
  · show lkB "in" rest = _
    unfold lkB
    rw [if_neg (by decide), if_neg (by decide), if_neg (by decide), if_pos (by decide)]
theorem lkB_one (rest : List D) : lkB "one" rest = (match rest with | [x] => oneD x | _ => false) := by
  unfold lkB
  rw [if_neg (by decide), if_pos rfl]
theorem lkB_no {w : Str} {rest : List D} (h1 : w ≠ "one") (h2 : ∀ q ∈ ([("any", 0), ("is", 1), ("from", 1), ("to", 1), ("in", 2)] : List (Str × Nat)), w ≠ q.1) : lkB w rest = false := by
  have a1 := h2 ("any", 0) (by decide)
  have a2 := h2 ("is", 1) (by decide)
  have a3 := h2 ("from", 1) (by decide)
  have a4 := h2 ("to", 1) (by decide)
  have a5 := h2 ("in", 2) (by decide)
  unfold lkB
  rw [if_neg a1, if_neg h1, if_neg (fun z => z.elim a2 fun z => z.elim a3 a4), if_neg a5]
theorem pu_is_plain : ∀ ds m Q PX, sp_is_plain ds m Q PX → rd_is_plain (dEnds Q PX) (dstart ["look", "word", "rest", "number"] ds) m := by
  rintro ds m Q PX ⟨d, rfl, hd, h⟩
  revert h
  refine hd.cases_ (p := fun d => Q (.bl (plB d)) m → rd_is_plain (dEnds Q PX) (dstart ["look", "word", "rest", "number"] [d]) m) ?_ ?_ ?_ ?_ ?_ ?_ ?_
  all_goals (try (intros; walk_at "go"; assumption))
  intro xs hl hx h
  walk_at "go"
  refine ⟨shpT (n := 20) ⟨hl, hx⟩, shpT (n := 20) ⟨by simp, fun _ z => by cases z⟩, ?_⟩
  show (match (if false = true then _ else deq (.tup xs) (.tup [])) with | true => _ | false => _)
  rw [deq_tup_nil]
  cases xs with
  | nil => walk_at "go"; exact h
  | cons x rest =>
    have hx0 := hx x List.mem_cons_self
    have hxr : ∀ d ∈ rest, thD 19 d := fun d z => hx d (List.mem_cons_of_mem _ z)
    walk_at "go"
    rw [atI0]
    walk_at "go"
    cases x with
    | str w =>
      have hl' : rest.length < 10000 := by simp at hl; omega
      change Q (.bl (lkB w rest)) m at h
      by_cases w1 : w = "one"
      · subst w1
        rw [lkB_one] at h
        walk_at "go"
        rw [if_pos rfl]
        match rest, h with
        | [], h => exact h
        | [x], h =>
          walk_at "go"
          exact ⟨x, rfl, thg_of (hxr x List.mem_cons_self), h⟩
        | x :: y :: r, h =>
          have e : (!decide ((((D.str "one") :: x :: y :: r).length : Int) = 2)) = true := by simp; omega
          rw [e]
          exact h
      · by_cases hw : ∃ q ∈ ([("any", 0), ("is", 1), ("from", 1), ("to", 1), ("in", 2)] : List (Str × Nat)), w = q.1
        · obtain ⟨q, hq, rfl⟩ := hw
          rw [lkB_num rest q hq] at h
          simp only [List.mem_cons, List.not_mem_nil, or_false] at hq
          rcases hq with rfl | rfl | rfl | rfl | rfl <;> (
            walk_at "go"
            rw [if_pos rfl]
            split
            · rename_i e
              simp only [Bool.not_eq_true', decide_eq_false_iff_not, List.length_cons] at e
              rw [decide_eq_false (by omega), Bool.false_and] at h
              exact h
            · rename_i e
              simp only [Bool.not_eq_false', decide_eq_true_eq, List.length_cons] at e
              rw [decide_eq_true (by omega), Bool.true_and] at h
              walk_at "go"
              refine comp_whole trivial (by omega) (fun d hd => thg_of (hxr d hd)) (by exact (by decide : 3 < 4)) ?_
              walk_at "dl"
              rw [boolsD_map]
              dsimp only
              rw [all_id]
              exact h)
        · have hw2 : ∀ q ∈ ([("any", 0), ("is", 1), ("from", 1), ("to", 1), ("in", 2)] : List (Str × Nat)), w ≠ q.1 := fun q hq z => hw ⟨q, hq, z⟩
          rw [lkB_no w1 hw2] at h
          have a1 : (w == ("any" : Str)) = false := by have := hw2 ("any", 0) (by decide); simpa using this
          have a2 : (w == ("is" : Str)) = false := by have := hw2 ("is", 1) (by decide); simpa using this
          have a3 : (w == ("from" : Str)) = false := by have := hw2 ("from", 1) (by decide); simpa using this
          have a4 : (w == ("to" : Str)) = false := by have := hw2 ("to", 1) (by decide); simpa using this
          have a5 : (w == ("in" : Str)) = false := by have := hw2 ("in", 2) (by decide); simpa using this
          have a6 : (w == ("one" : Str)) = false := by simpa using w1
          walk_at "go"
          simp only [List.lookup, a1, a2, a3, a4, a5, a6]
          exact h
    | non => walk_at "go"; exact h
    | bl b => walk_at "go"; exact h
    | int i => walk_at "go"; exact h
    | lst ds => walk_at "go"; exact h
    | tup ds => walk_at "go"; exact h
    | _ => cases hx0
def sp_is_look : SpD := fun ds m P _ => ∃ d, ds = [d] ∧ Thg d ∧ P (.bl (lookB d)) m
def rd_is_look : DS :=
    sSeq (sIf (rAnd (rTru (rCB cIsi (rCons (rV 0) (rCons (rC (.ty "tuple")) (rNil))))) (rAnd (rTst (rOp oEq (rCB cLen (rCons (rV 0) (rNil))) (rC (.int 2)))) (rAnd (rTru (rCB cIsi (rCons (rOp oIx (rV 0) (rC (.int 0))) (rCons (rC (.ty "str")) (rNil))))) (rTst (rOp oEq (rOp oIx (rV 0) (rC (.int 0))) (rC (.str "but"))))))) (sRet (rCall sp_is_plain [] (rCons (rOp oIx (rV 0) (rC (.int 1))) (rNil)))) (sNext))
    (sRet (rCall sp_is_plain [] (rCons (rV 0) (rNil))))
theorem ln_is_look : ∀ ds m Q PX, sp_is_look ds m Q PX → ds.length = 1 := fun ds m Q PX h => by (repeat (obtain ⟨_, h⟩ := h)); subst_vars; rfl
theorem look_two (x y : D) : lookB (.tup [x, y]) = (match x with | .str w => if w = "but" then plB y else lkB w [y] | _ => false) := by
  cases x <;> rfl
theorem look_not : ∀ {xs : List D}, xs.length ≠ 2 → lookB (.tup xs) = plB (.tup xs)
  | [], _ => rfl
  | [x], _ => by cases x <;> rfl
  | [x, y], h => absurd rfl h
  | x :: y :: z :: r, _ => by cases x <;> rfl
theorem pu_is_look : ∀ ds m Q PX, sp_is_look ds m Q PX → rd_is_look (dEnds Q PX) (dstart ["look"] ds) m := by
  rintro ds m Q PX ⟨d, rfl, hd, h⟩
  have hd0 := hd
  revert h
  refine hd.cases_ (p := fun d => Thg d → Q (.bl (lookB d)) m → rd_is_look (dEnds Q PX) (dstart ["look"] [d]) m) ?_ ?_ ?_ ?_ ?_ ?_ ?_ hd0
  all_goals (try (intros; walk_at "go"; exact ⟨_, rfl, by assumption, by assumption⟩))
  intro xs hl hx hd0 h
  walk_at "go"
  cases h2 : decide (((xs.length : Nat) : Int) = 2) with
  | false =>
    have h2' := of_decide_eq_false h2
    rw [look_not (by omega)] at h
    exact ⟨_, rfl, hd0, h⟩
  | true =>
    have h2' := of_decide_eq_true h2
    match xs, h2', hx, hd0, h with
    | [x, y], _, hx, hd0, h =>
      have hx0 := hx x List.mem_cons_self
      have hy0 := hx y (by simp)
      rw [look_two] at h
      walk_at "go"
      cases x with
      | str w =>
        walk_at "go"
        by_cases hb : w = "but"
        · subst hb
          walk_at "go"
          exact ⟨y, rfl, thg_of hy0, h⟩
        · dsimp only at h
          rw [if_neg hb] at h
          rw [decide_eq_false hb]
          exact ⟨_, rfl, hd0, h⟩
      | non => exact ⟨_, rfl, hd0, h⟩
      | bl b => exact ⟨_, rfl, hd0, h⟩
      | int i => exact ⟨_, rfl, hd0, h⟩
      | lst ds => exact ⟨_, rfl, hd0, h⟩
      | tup ds => exact ⟨_, rfl, hd0, h⟩
      | _ => cases hx0
def sp_check_look : SpD := fun ds m P PX => ∃ d, ds = [d] ∧ Thg d ∧ (match lookB d with | true => P .non m | false => PX "BadLook" [("why", .str "no look")] m)
def rd_check_look : DS :=
    sIf (rNot (rTru (rCall sp_is_look [] (rCons (rV 0) (rNil))))) (sRaise "BadLook" (rCons (rC (.str "no look")) (rNil))) (sNext)
theorem ln_check_look : ∀ ds m Q PX, sp_check_look ds m Q PX → ds.length = 1 := fun ds m Q PX h => by (repeat (obtain ⟨_, h⟩ := h)); subst_vars; rfl
theorem pu_check_look : ∀ ds m Q PX, sp_check_look ds m Q PX → rd_check_look (dEnds Q PX) (dstart ["look"] ds) m := by
  rintro ds m Q PX ⟨d, rfl, hd, h⟩
  walk_at "go"
  refine ⟨d, rfl, hd, ?_⟩
  cases hb : lookB d with
  | true => rw [hb] at h; exact h
  | false => rw [hb] at h; exact h
/-! ### the same read by the law -/
abbrev sp__law_is_plain : SpD := sp_is_plain
def rd__law_is_plain : DS :=
    sSeq (sIf (rOr (rNot (rTru (rCB cIsi (rCons (rV 0) (rCons (rC (.ty "tuple")) (rNil)))))) (rOr (rTst (rOp oEq (rCB cLen (rCons (rV 0) (rNil))) (rC (.int 0)))) (rNot (rTru (rCB cIsi (rCons (rOp oIx (rV 0) (rC (.int 0))) (rCons (rC (.ty "str")) (rNil)))))))) (sRet (rC (.bl false))) (sNext))
    (sSeq (sSet 1 (rCB cLst (rCons (rSl (rV 0) (rPart (rC (.int 1))) rNoP) (rNil))))
    (sSeq (sIf (rTst (rOp oEq (rOp oIx (rV 0) (rC (.int 0))) (rC (.str "any")))) (sRet (rOp oEq (rV 1) (rLst (rNil)))) (sNext))
    (sSeq (sIf (rTst (rOp oEq (rOp oIx (rV 0) (rC (.int 0))) (rC (.str "one")))) (sSeq (sIf (rOr (rTst (rOp oNe (rCB cLen (rCons (rV 1) (rNil))) (rC (.int 1)))) (rOr (rNot (rTru (rCB cIsi (rCons (rOp oIx (rV 1) (rC (.int 0))) (rCons (rC (.ty "tuple")) (rNil)))))) (rTst (rOp oGt (rCB cLen (rCons (rOp oIx (rV 1) (rC (.int 0))) (rNil))) (rC (.int 4)))))) (sRet (rC (.bl false))) (sNext))
    (sSeq (sIf (rTst (rOp oNe (rLc (iAny (rOp oIx (rV 1) (rC (.int 0)))) [2] (gN 2) (rNot (rTru (rCall sp__law_is_whole [] (rCons (rV 2) (rNil))))) (rV 2)) (rLst (rNil)))) (sRet (rC (.bl false))) (sNext))
    (sRet (rOp oEq (rCall sp__law_unlike [] (rCons (rCB cLst (rCons (rOp oIx (rV 1) (rC (.int 0))) (rNil))) (rNil))) (rCB cLst (rCons (rOp oIx (rV 1) (rC (.int 0))) (rNil))))))) (sNext))
    (sSeq (sIf (rTst (rOp oNe (rLc (iAny (rV 1)) [2] (gN 2) (rNot (rTru (rCall sp__law_is_whole [] (rCons (rV 2) (rNil))))) (rV 2)) (rLst (rNil)))) (sRet (rC (.bl false))) (sNext))
    (sRet (rOrV (rAndV (rOp (oInN false) (rOp oIx (rV 0) (rC (.int 0))) (rTup (rCons (rC (.str "is")) (rCons (rC (.str "from")) (rCons (rC (.str "to")) (rNil)))))) (rOp oEq (rCB cLen (rCons (rV 1) (rNil))) (rC (.int 1)))) (rAndV (rOp oEq (rOp oIx (rV 0) (rC (.int 0))) (rC (.str "in"))) (rOp oEq (rCB cLen (rCons (rV 1) (rNil))) (rC (.int 2))))))))))
theorem ln__law_is_plain : ∀ ds m Q PX, sp__law_is_plain ds m Q PX → ds.length = 1 := ln_is_plain
theorem cut_tail (x : D) (rest : List D) : cutD (x :: rest) (some 1) none = rest := by
  unfold cutD
  rw [HT.sIx_none]
  have e : HT.sIx (x :: rest).length 0 (some 1) = 1 := by rw [show (some (1 : Int)) = some ((1 : Nat) : Int) from rfl, HT.sIx_nat]; simp
  rw [e]
  simp
/-- [x for x in xs if not is_whole(x)] -/
theorem comp_strange {Ph : Mu → Prop} {δ : DSt} {j : Nat} {m : Mu} {P : List D → Mu → Prop} {xs : List D} (ph : Ph m) (hl : xs.length ≤ 100000) (hx : ∀ d ∈ xs, Thg d) (hj : j < δ.length) (h : P (xs.filter fun d => !isWhole d) m) : rComp Ph (gN j) (rNot (rTru (rCall sp_is_whole [] (rCons (rV j) (rNil))))) (rV j) δ P xs [] m := by
  refine comp_fm (fun d => !isWhole d) (fun d => d) (by omega) ph (fun d hd Q q => ?_) (fun d hd _ Q q => ?_) (by rw [List.map_id']; exact h)
  · show (match (δ.set j (some d))[j]? with | some (some d) => _ | _ => False)
    rw [List.getElem?_set_self hj]
    exact ⟨d, rfl, hx d hd, q⟩
  · show (match (δ.set j (some d))[j]? with | some (some d) => _ | _ => False)
    rw [List.getElem?_set_self hj]
    exact q
theorem strange_nil (xs : List D) : (xs.filter fun d => !isWhole d).isEmpty = xs.all isWhole := by
  rw [Bool.eq_iff_iff, List.isEmpty_iff, List.filter_eq_nil_iff, List.all_eq_true]
  simp
theorem any_strs (ts : List Str) (w : Str) : ((ts.map D.str).any fun z => deq z (.str w)) = decide (w ∈ ts) := by
  rw [Bool.eq_iff_iff, decide_eq_true_eq, any_deq (by rw [pur]) (fun d hd => by obtain ⟨t, _, rfl⟩ := List.mem_map.mp hd; rw [pur])]
  constructor
  · intro h; obtain ⟨t, ht, e⟩ := List.mem_map.mp h; cases e; exact ht
  · intro h; exact List.mem_map.mpr ⟨w, h, rfl⟩
theorem unl_id : ∀ xs : List D, (∀ d ∈ xs, pur d = true) → xs.Nodup → unl xs = xs := by
  intro xs
  induction xs using snoc_ind with
  | h0 => exact fun _ _ => rfl
  | h1 xs x ih =>
    intro hp hn
    have hp' : ∀ d ∈ xs, pur d = true := fun d hd => hp d (List.mem_append_left _ hd)
    rw [List.nodup_append] at hn
    have e := ih hp' hn.1
    rw [unl_snoc, e, if_neg]
    rw [any_deq (hp x (by simp)) hp']
    exact fun z => hn.2.2 x z x (by simp) rfl
theorem unl_eq {xs : List D} (h : ∀ d ∈ xs, pur d = true) : unl xs = xs ↔ xs.Nodup := ⟨fun e => by rw [← e]; exact (unl_facts xs h).2.1, unl_id xs h⟩
theorem pu__law_is_plain : ∀ ds m Q PX, sp__law_is_plain ds m Q PX → rd__law_is_plain (dEnds Q PX) (dstart ["_law_sight", "_law_rest", "_law_figure"] ds) m := by
  rintro ds m Q PX ⟨d, rfl, hd, h⟩
  revert h
  refine hd.cases_ (p := fun d => Q (.bl (plB d)) m → rd__law_is_plain (dEnds Q PX) (dstart ["_law_sight", "_law_rest", "_law_figure"] [d]) m) ?_ ?_ ?_ ?_ ?_ ?_ ?_
  all_goals (try (intros; walk_at "go"; assumption))
  intro xs hl hx h
  cases xs with
  | nil => walk_at "go"; exact h
  | cons x rest =>
    have hx0 := hx x List.mem_cons_self
    have hxr : ∀ d ∈ rest, thD 19 d := fun d z => hx d (List.mem_cons_of_mem _ z)
    have hl' : rest.length < 10000 := by simp at hl; omega
    walk_at "go"
    rw [atI0]
    walk_at "go"
    cases x with
    | str w =>
      walk_at "go"
      rw [cut_tail]
      walk_at "go"
      rw [atI0]
      walk_at "go"
      change Q (.bl (lkB w rest)) m at h
      have shr : shp (dat m (.lst rest)) := shpT (n := 20) ⟨by omega, hxr⟩
      by_cases wa : w = "any"
      · subst wa
        walk_at "go"
        first | refine ⟨shr, shpN, ?_⟩ | skip
        show Q (.bl (deq (.lst rest) (.lst []))) m
        rw [deq_lst_nil]
        exact h
      · rw [decide_eq_false wa]
        walk_at "go"
        rw [atI0]
        walk_at "go"
        by_cases w1 : w = "one"
        · subst w1
          rw [lkB_one] at h
          walk_at "go"
          rw [if_pos rfl]
          match rest, h, hxr, shr with
          | [], h, _, _ => exact h
          | x :: y :: r, h, _, _ =>
            have e : (!decide (((x :: y :: r).length : Int) = 1)) = true := by simp; omega
            rw [e]
            exact h
          | [x], h, hxr, _ =>
            have hx1 := hxr x List.mem_cons_self
            walk_at "go"
            cases x with
            | tup xs =>
              change Q (.bl (oneB xs)) m at h
              unfold oneB at h
              obtain ⟨hl2, hx2⟩ := hx1
              walk_at "go"
              cases h4 : decide ((4 : Int) < (xs.length : Nat)) with
              | true =>
                have := of_decide_eq_true h4
                rw [decide_eq_false (by omega : ¬ xs.length ≤ 4)] at h
                exact h
              | false =>
                have := of_decide_eq_false h4
                rw [decide_eq_true (by omega : xs.length ≤ 4), Bool.true_and] at h
                walk_at "go"
                refine comp_strange trivial (by omega) (fun d hd => thg_of (hx2 d hd)) (by exact (by decide : 2 < 3)) ?_
                have shs : shp (dat m (.lst (xs.filter fun d => !isWhole d))) := shpT (n := 20) ⟨Nat.le_trans (List.length_filter_le _ _) (by omega), fun d hd => thD_mono 18 19 d (by decide) (hx2 d (List.mem_filter.mp hd).1)⟩
                walk_at "go"
                first | refine ⟨shpN, ?_⟩ | skip
                rw [if_pos rfl]
                show (match !deq (.lst (xs.filter fun d => !isWhole d)) (.lst []) with | true => _ | false => _)
                rw [deq_lst_nil, strange_nil]
                cases hw : xs.all isWhole with
                | false => rw [hw] at h; exact h
                | true =>
                  rw [hw, Bool.true_and] at h
                  obtain ⟨ns, rfl⟩ := wholes hw
                  walk_at "go"
                  have hpi : ∀ d ∈ ns.map D.int, pur d = true := fun d hd => by obtain ⟨n, _, rfl⟩ := List.mem_map.mp hd; rfl
                  refine ⟨_, rfl, by omega, fun d hd => ⟨hpi d hd, by obtain ⟨n, _, rfl⟩ := List.mem_map.mp hd; trivial⟩, ?_⟩
                  obtain ⟨ks, ek, _, _, _⟩ := unl_ints ns
                  walk_at "go"
                  have e1 : ndB (ns.map .int) = decide (ks = ns) := by
                    rw [Bool.eq_iff_iff, ndB_iff, ← unl_eq hpi, ek, decide_eq_true_eq]
                    exact ⟨map_ints_inj, fun e => by rw [e]⟩
                  rw [e1] at h
                  rw [ek]
                  exact eqI (neg := false) h
            | non => exact h
            | bl b => exact h
            | int i => exact h
            | lst ds => exact h
            | str z => exact h
            | _ => cases hx1
        · rw [decide_eq_false w1]
          walk_at "go"
          refine comp_strange trivial (by omega) (fun d hd => thg_of (hxr d hd)) (by exact (by decide : 2 < 3)) ?_
          have shs : shp (dat m (.lst (rest.filter fun d => !isWhole d))) := shpT (n := 20) ⟨Nat.le_trans (List.length_filter_le _ _) (by omega), fun d hd => hxr d (List.mem_filter.mp hd).1⟩
          walk_at "go"
          first | refine ⟨shpN, ?_⟩ | skip
          rw [if_pos rfl]
          show (match !deq (.lst (rest.filter fun d => !isWhole d)) (.lst []) with | true => _ | false => _)
          rw [deq_lst_nil, strange_nil]
          cases hw : rest.all isWhole with
          | false =>
            have e1 : lkB w rest = false := by
              unfold lkB
              rw [if_neg wa, if_neg w1, hw]
              simp
            rw [e1] at h
            exact h
          | true =>
            have e1 : lkB w rest = (if w = "is" ∨ w = "from" ∨ w = "to" then decide (rest.length = 1) else if w = "in" then decide (rest.length = 2) else false) := by
              unfold lkB
              rw [if_neg wa, if_neg w1, hw]
              simp
            rw [e1] at h
            walk_at "go"
            rw [atI0]
            walk_at "go"
            have e2 : ([D.str "is", .str "from", .str "to"].any fun z => deq z (.str w)) = decide (w ∈ (["is", "from", "to"] : List Str)) := any_strs ["is", "from", "to"] w
            show (match D.bl ([D.str "is", .str "from", .str "to"].any fun z => deq z (.str w)) with | .bl true => _ | .bl false => _ | _ => _)
            rw [e2]
            have fin : (w = "in" → decide (rest.length = 2) = decide ((rest.length : Int) = 2)) := fun _ => by simp; omega
            by_cases hw3 : w = "is" ∨ w = "from" ∨ w = "to"
            · rw [if_pos hw3] at h
              rw [decide_eq_true (by simpa using hw3)]
              have hni : w ≠ "in" := by rcases hw3 with rfl | rfl | rfl <;> decide
              walk_at "go"
              cases hk : decide (((rest.length : Nat) : Int) = 1) with
              | true =>
                have := of_decide_eq_true hk
                rw [decide_eq_true (by omega)] at h
                exact h
              | false =>
                have := of_decide_eq_false hk
                rw [decide_eq_false (by omega)] at h
                walk_at "go"
                rw [atI0]
                walk_at "go"
                rw [decide_eq_false hni]
                exact h
            · rw [if_neg hw3] at h
              rw [decide_eq_false (by simpa using hw3)]
              walk_at "go"
              rw [atI0]
              walk_at "go"
              by_cases hni : w = "in"
              · rw [if_pos hni] at h
                rw [decide_eq_true hni]
                walk_at "go"
                cases hk : decide (((rest.length : Nat) : Int) = 2) with
                | true =>
                  have := of_decide_eq_true hk
                  rw [decide_eq_true (by omega)] at h
                  exact h
                | false =>
                  have := of_decide_eq_false hk
                  rw [decide_eq_false (by omega)] at h
                  exact h
              · rw [if_neg hni] at h
                rw [decide_eq_false hni]
                exact h
    | non => walk_at "go"; exact h
    | bl b => walk_at "go"; exact h
    | int i => walk_at "go"; exact h
    | lst ds => walk_at "go"; exact h
    | tup ds => walk_at "go"; exact h
    | _ => cases hx0
abbrev sp__law_is_look : SpD := sp_is_look
def rd__law_is_look : DS :=
    sSeq (sIf (rAnd (rTru (rCB cIsi (rCons (rV 0) (rCons (rC (.ty "tuple")) (rNil))))) (rAnd (rTst (rOp oEq (rCB cLen (rCons (rV 0) (rNil))) (rC (.int 2)))) (rTst (rOp oEq (rOp oIx (rV 0) (rC (.int 0))) (rC (.str "but")))))) (sRet (rCall sp__law_is_plain [] (rCons (rOp oIx (rV 0) (rC (.int 1))) (rNil)))) (sNext))
    (sRet (rCall sp__law_is_plain [] (rCons (rV 0) (rNil))))
theorem ln__law_is_look : ∀ ds m Q PX, sp__law_is_look ds m Q PX → ds.length = 1 := ln_is_look
theorem pu__law_is_look : ∀ ds m Q PX, sp__law_is_look ds m Q PX → rd__law_is_look (dEnds Q PX) (dstart ["_law_sight"] ds) m := by
  rintro ds m Q PX ⟨d, rfl, hd, h⟩
  have hd0 := hd
  revert h
  refine hd.cases_ (p := fun d => Thg d → Q (.bl (lookB d)) m → rd__law_is_look (dEnds Q PX) (dstart ["_law_sight"] [d]) m) ?_ ?_ ?_ ?_ ?_ ?_ ?_ hd0
  all_goals (try (intros; walk_at "go"; exact ⟨_, rfl, by assumption, by assumption⟩))
  intro xs hl hx hd0 h
  walk_at "go"
  cases h2 : decide (((xs.length : Nat) : Int) = 2) with
  | false =>
    have h2' := of_decide_eq_false h2
    rw [look_not (by omega)] at h
    exact ⟨_, rfl, hd0, h⟩
  | true =>
    have h2' := of_decide_eq_true h2
    match xs, h2', hx, hd0, h with
    | [x, y], _, hx, hd0, h =>
      have hx0 := hx x List.mem_cons_self
      have hy0 := hx y (by simp)
      rw [look_two] at h
      walk_at "go"
      cases x with
      | str w =>
        walk_at "go"
        by_cases hb : w = "but"
        · subst hb
          walk_at "go"
          exact ⟨y, rfl, thg_of hy0, h⟩
        · dsimp only at h
          rw [if_neg hb] at h
          rw [decide_eq_false hb]
          exact ⟨_, rfl, hd0, h⟩
      | non => exact ⟨_, rfl, hd0, h⟩
      | int i => exact ⟨_, rfl, hd0, h⟩
      | bl b => exact ⟨_, rfl, hd0, h⟩
      | lst ds =>
        walk_at "go"
        refine ⟨shpT hx0, shpT (n := 0) ⟨by decide, by decide⟩, ?_⟩
        rw [show deq (dat m (.lst ds)) (dat m (.str "but")) = false by show deq (.lst ds) (.str "but") = false; unfold deq; rw [py, py]; rfl]
        exact ⟨_, rfl, hd0, h⟩
      | tup ds =>
        walk_at "go"
        refine ⟨shpT hx0, shpT (n := 0) ⟨by decide, by decide⟩, ?_⟩
        rw [show deq (dat m (.tup ds)) (dat m (.str "but")) = false by show deq (.tup ds) (.str "but") = false; unfold deq; rw [py, py]; rfl]
        exact ⟨_, rfl, hd0, h⟩
      | _ => cases hx0
/-- looks are looks -/
theorem Lk.plB {l : Lk} (h : l.dep = 1) (h2 : l.few) (h3 : l.uniq) : DL.plB l.d = true := by
  cases l with
  | any => exact (lkB_num _ ("any", 0) (by decide)).trans rfl
  | is n => exact (lkB_num _ ("is", 1) (by decide)).trans rfl
  | frm n => exact (lkB_num _ ("from", 1) (by decide)).trans rfl
  | upto n => exact (lkB_num _ ("to", 1) (by decide)).trans rfl
  | inn a b => exact (lkB_num _ ("in", 2) (by decide)).trans rfl
  | one ns =>
    refine (lkB_one _).trans ?_
    show oneB (ns.map .int) = true
    unfold oneB
    have hn : ns.Nodup := h3
    rw [all_whole, nd_ints, List.length_map, decide_eq_true (show ns.length ≤ 4 from h2), decide_eq_true hn]
    rfl
  | but l => have := dep_pos l; simp [Lk.dep] at h; omega
theorem Lk.Good.look {b : Nat} {l : Lk} (h : l.Good b) : lookB l.d = true := by
  have hd := h.dp
  cases l with
  | but l =>
    have := dep_pos l
    have hd1 : l.dep = 1 := by simp only [Lk.dep] at hd; omega
    show (if ("but" : Str) = "but" then DL.plB l.d else lkB "but" [l.d]) = true
    rw [if_pos rfl]
    exact Lk.plB hd1 h.few h.un
  | any => exact Lk.plB (l := .any) rfl h.few h.un
  | is n => exact Lk.plB (l := .is n) rfl h.few h.un
  | frm n => exact Lk.plB (l := .frm n) rfl h.few h.un
  | upto n => exact Lk.plB (l := .upto n) rfl h.few h.un
  | inn x y => exact Lk.plB (l := .inn x y) rfl h.few h.un
  | one ns => exact Lk.plB (l := .one ns) rfl h.few h.un
theorem thD_txt (s : String) (n : Nat) (h : (Str.ofString s).length ≤ 100000 := by decide) : thD n (.str (Str.ofString s)) := by
  have := fit_txt s 0
  cases n <;> exact ⟨h, this⟩
theorem thD_int {n : Nat} {i : Int} : thD n (.int i) := by cases n <;> trivial
theorem thD_tup {n : Nat} {ds : List D} (hl : ds.length ≤ 10000) (h : ∀ d ∈ ds, thD n d) : thD (n + 1) (.tup ds) := ⟨hl, h⟩
theorem thD_lst {n : Nat} {ds : List D} (hl : ds.length ≤ 10000) (h : ∀ d ∈ ds, thD n d) : thD (n + 1) (.lst ds) := ⟨hl, h⟩
theorem thD_non {n : Nat} : thD n .non := by cases n <;> trivial
theorem thD_bl {n : Nat} {b : Bool} : thD n (.bl b) := by cases n <;> trivial
theorem Lk.th : ∀ (l : Lk), l.few → thD (l.dep + 1) l.d
  | .any, _ => ⟨by simp, fun d hd => by rw [List.mem_singleton.mp hd]; exact thD_txt _ _⟩
  | .is k, _ => ⟨by simp, fun d hd => by simp only [List.mem_cons, List.not_mem_nil, or_false] at hd; rcases hd with rfl | rfl <;> first | exact thD_txt _ _ | exact thD_int⟩
  | .frm k, _ => ⟨by simp, fun d hd => by simp only [List.mem_cons, List.not_mem_nil, or_false] at hd; rcases hd with rfl | rfl <;> first | exact thD_txt _ _ | exact thD_int⟩
  | .upto k, _ => ⟨by simp, fun d hd => by simp only [List.mem_cons, List.not_mem_nil, or_false] at hd; rcases hd with rfl | rfl <;> first | exact thD_txt _ _ | exact thD_int⟩
  | .inn a b, _ => ⟨by simp, fun d hd => by simp only [List.mem_cons, List.not_mem_nil, or_false] at hd; rcases hd with rfl | rfl | rfl <;> first | exact thD_txt _ _ | exact thD_int⟩
  | .one ns, hf => ⟨by simp, fun d hd => by
    simp only [List.mem_cons, List.not_mem_nil, or_false] at hd
    rcases hd with rfl | rfl
    · exact thD_txt _ _
    · exact ⟨by rw [List.length_map]; exact Nat.le_trans hf (by decide), fun d hd => by obtain ⟨k, _, rfl⟩ := List.mem_map.mp hd; exact thD_int⟩⟩
  | .but l, hf => ⟨by simp, fun d hd => by
    simp only [List.mem_cons, List.not_mem_nil, or_false] at hd
    rcases hd with rfl | rfl
    · exact thD_txt _ _
    · exact Lk.th l hf⟩
end DL

namespace DL
open PySem L2
local macro_rules | `(tactic| walk_at "dl") => `(tactic| ((conv => whnf); try dsimp only))
local macro_rules | `(tactic| walk_at "sd") => `(tactic| first | trivial | exact Nat.zero_le _ | assumption | decide | omega | exact len_line (by first | decide | omega | (simp; done) | (simp; omega)) | (simp; done) | (simp; omega) | exact ⟨by decide, by decide, by decide⟩ | exact .inl ⟨by decide, by decide⟩ | exact .inl ⟨by omega, by omega⟩ | exact wide_div (b := 64) (by decide) (by decide) (by decide) (by decide))
local macro_rules | `(tactic| walk_at "go") => `(tactic| ((conv => whnf); (try dsimp only); repeat ((with_reducible refine And.intro ?_ ?_); (focus (walk_at "sd")); (conv => whnf); (try dsimp only))))
local macro_rules | `(tactic| walk_at "th") => `(tactic| repeat' (first | assumption | exact thD_txt _ _ | exact thD_int | exact thD_non | exact thD_bl | (refine thD_mono _ _ _ ?_ (by assumption); decide) | refine List.forall_mem_cons.mpr (And.intro ?_ ?_) | exact List.forall_mem_nil _ | refine thD_tup (by simp) ?_ | refine thD_lst (by simp) ?_))
local macro_rules | `(tactic| walk_at "ln") => `(tactic| (intro ds m Q PX h; repeat (obtain ⟨_, h⟩ := h); subst_vars; rfl))
/-! ### what is told of a look that is checked -/
def sp__law_checked : SpD := fun ds m P _ => ∃ d, ds = [d] ∧ Thg d ∧ P (match lookB d with | true => .non | false => .str "refused") m
def rd__law_checked : DS :=
    sSeq (sSet 1 (rC (.str "other")))
    (sSeq (sTryA "TrialError" 2 (sSet 1 (rCall sp_check_look [] (rCons (rV 0) (rNil)))) (fun xa xc xd => sSeq (sSet 3 (rCB (cIsX xa xc xd) (rCons (rV 2) (rCons (rTup (rCons (rC (.glb "BadAsk")) (rCons (rC (.glb "BadPlan")) (rCons (rC (.glb "BadText")) (rCons (rC (.glb "BadWish")) (rNil)))))) (rNil)))))
    (sSet 1 (rOp oIx (rLst (rCons (rC (.str "odd")) (rCons (rC (.str "refused")) (rNil)))) (rCB cInt (rCons (rAndV (rCB (cIsX xa xc xd) (rCons (rV 2) (rCons (rC (.glb "BadLook")) (rNil)))) (rAndV (rCB (cIsX xa xc xd) (rCons (rV 2) (rCons (rC (.ty "ValueError")) (rNil)))) (rNotV (rV 3)))) (rNil)))))))
    (sRet (rV 1)))
theorem ln__law_checked : ∀ ds m Q PX, sp__law_checked ds m Q PX → ds.length = 1 := fun ds m Q PX h => by (repeat (obtain ⟨_, h⟩ := h)); subst_vars; rfl
theorem pu__law_checked : ∀ ds m Q PX, sp__law_checked ds m Q PX → rd__law_checked (dEnds Q PX) (dstart ["_law_thing", "_law_told", "e", "_law_others"] ds) m := by
  rintro ds m Q PX ⟨d, rfl, hd, h⟩
  walk_at "go"
  refine ⟨d, rfl, hd, ?_⟩
  cases hb : lookB d with
  | true => rw [hb] at h; exact h
  | false =>
    rw [hb] at h
    refine ⟨by decide, ?_⟩
    walk_at "dl"
    intro a C dd ha
    walk_at "go"
    exact h
theorem cut_mem {xs : List D} {lo hi : Option Int} {d : D} (h : d ∈ cutD xs lo hi) : d ∈ xs := List.mem_of_mem_drop (List.mem_of_mem_take h)
theorem cut_len (xs : List D) (lo hi : Option Int) : (cutD xs lo hi).length ≤ xs.length := by
  unfold cutD; rw [List.length_take, List.length_drop]; omega
theorem Lk.parts (l : Lk) (hf : l.few) (hd : l.dep ≤ 2) : ∃ (w : Str) (rest : List D), l.d = .tup (.str w :: rest) ∧ rest.length ≤ 2 ∧ ∀ d ∈ D.str w :: rest, thD 2 d := by
  have h : ∀ (ds : List D), l.d = .tup ds → ∀ d ∈ ds, thD 2 d := fun ds e d hm => by
    have := l.th hf
    rw [e] at this
    exact thD_mono _ 2 d hd (this.2 d hm)
  cases l with
  | any => exact ⟨_, _, rfl, by simp, h _ rfl⟩
  | is n => exact ⟨_, _, rfl, by simp, h _ rfl⟩
  | frm n => exact ⟨_, _, rfl, by simp, h _ rfl⟩
  | upto n => exact ⟨_, _, rfl, by simp, h _ rfl⟩
  | inn a b => exact ⟨_, _, rfl, by simp, h _ rfl⟩
  | one ns => exact ⟨_, _, rfl, by simp, h _ rfl⟩
  | but l => exact ⟨_, _, rfl, by simp, h _ rfl⟩
def sp__law_turned : SpD := fun ds m P _ => ∃ (w : Addr) (l : Lk), ds = [.adr w, l.d] ∧ l.few ∧ l.dep ≤ 2 ∧ Dr w 4 (fun d => thD 10 d) m P
def rd__law_turned : DS :=
    sSeq (sSet 2 (rCall sp__law_draw [] (rCons (rV 0) (rCons (rOp oAdd (rCB cLen (rCons (rV 1) (rNil))) (rC (.int 1))) (rNil)))))
    (sSeq (sSet 3 (rCall sp__law_one [] (rCons (rV 0) (rCons (rLst (rCons (rC (.str "any")) (rCons (rC (.str "is")) (rCons (rC (.str "one")) (rCons (rC (.str "but")) (rCons (rC (.str "not")) (rCons (rC (.str "")) (rCons (rC .non) (rCons (rC (.bl true)) (rCons (rC (.bl false)) (rCons (rC (.int 3)) (rCons (rC (.str "3")) (rCons (rTup (rCons (rC (.int 1)) (rCons (rC (.int 1)) (rNil)))) (rCons (rTup (rCons (rC (.int 1)) (rCons (rC (.bl true)) (rNil)))) (rCons (rLst (rCons (rC (.int 1)) (rNil))) (rNil)))))))))))))))) (rNil)))))
    (sSeq (sSet 3 (rCall sp__law_one [] (rCons (rV 0) (rCons (rLst (rCons (rV 3) (rCons (rV 3) (rCons (rTup (rCons (rC (.int 1)) (rCons (rC (.int 2)) (rCons (rC (.int 3)) (rCons (rC (.int 4)) (rCons (rC (.int 5)) (rNil))))))) (rCons (rTup (rNil)) (rCons (rTup (rCons (rC (.str "any")) (rNil))) (rCons (rTup (rCons (rC (.str "but")) (rCons (rTup (rCons (rC (.str "any")) (rNil))) (rNil)))) (rCons (rTup (rCons (rC .non) (rNil))) (rCons (rLst (rCons (rC (.str "any")) (rNil))) (rNil)))))))))) (rNil)))))
    (sSeq (sSet 4 (rLstM (rCons (rOp oAdd (rOp oAdd (rSl (rV 1) rNoP (rPart (rV 2))) (rTup (rCons (rV 3) (rNil)))) (rSl (rV 1) (rPart (rOp oAdd (rV 2) (rC (.int 1)))) rNoP)) (rCons (rOp oAdd (rOp oAdd (rSl (rV 1) rNoP (rPart (rV 2))) (rTup (rCons (rV 3) (rNil)))) (rSl (rV 1) (rPart (rV 2)) rNoP)) (rCons (rOp oAdd (rSl (rV 1) rNoP (rPart (rV 2))) (rSl (rV 1) (rPart (rOp oAdd (rV 2) (rC (.int 1)))) rNoP)) (rNil))))))
    (sSeq (sSet 4 (rOp oAddM (rV 4) (rLst (rCons (rCB cLst (rCons (rV 1) (rNil))) (rCons (rTup (rCons (rC (.str "but")) (rCons (rV 1) (rNil)))) (rCons (rTup (rCons (rC (.str "but")) (rCons (rTup (rCons (rC (.str "but")) (rCons (rV 1) (rNil)))) (rNil)))) (rCons (rOp oIx (rV 1) (rC (.int 0))) (rCons (rC .non) (rCons (rTup (rNil)) (rCons (rOp oAdd (rV 1) (rSl (rV 1) (rPart (rC (.int 1))) rNoP)) (rNil)))))))))))
    (sSeq (sExpr (rApp (rV 4) (rTup (rCons (rV 1) (rNil)))))
    (sRet (rCall sp__law_one [] (rCons (rV 0) (rCons (rV 4) (rNil))))))))))
theorem ln__law_turned : ∀ ds m Q PX, sp__law_turned ds m Q PX → ds.length = 2 := fun ds m Q PX h => by (repeat (obtain ⟨_, h⟩ := h)); subst_vars; rfl
theorem thD_nil {n : Nat} : thD (n + 1) (.tup []) := ⟨by simp, fun _ z => by cases z⟩
theorem thD_app {n : Nat} {xs ys : List D} (h1 : ∀ d ∈ xs, thD n d) (h2 : ∀ d ∈ ys, thD n d) (hl : xs.length + ys.length ≤ 10000) : thD (n + 1) (.tup (xs ++ ys)) := ⟨by rw [List.length_append]; exact hl, fun d hd => (List.mem_append.mp hd).elim (h1 d) (h2 d)⟩
theorem pu__law_turned : ∀ ds m Q PX, sp__law_turned ds m Q PX → rd__law_turned (dEnds Q PX) (dstart ["_law_well_here", "_law_sight", "_law_at", "_law_odd", "_law_some"] ds) m := by
  rintro ds m Q PX ⟨w, l, rfl, hf, hd, h⟩
  obtain ⟨wd, rest, e, hl, ht⟩ := l.parts hf hd
  rw [e]
  have big : (2 : Nat) ^ 200 > 1000 := by decide
  walk_at "go"
  refine h.num (by decide) (by simp; omega) (by simp; omega) fun at_ m1 a0 a1 kp1 h => ?_
  walk_at "go"
  refine ⟨w, _, _, rfl, .inl rfl, by simp, by simp, h.sub (by decide) fun odd m2 ho kp2 h => ?_⟩
  have ho1 : thD 3 odd := by
    refine (?_ : ∀ d ∈ _, thD 3 d) odd ho
    walk_at "th"
  clear ho
  walk_at "go"
  refine ⟨w, _, _, rfl, .inl rfl, by simp, by simp, h.sub (by decide) fun odd2 m3 ho kp3 h => ?_⟩
  have ho2 : thD 4 odd2 := by
    refine (?_ : ∀ d ∈ _, thD 4 d) odd2 ho
    walk_at "th"
  clear ho
  have hcl : ∀ lo hi, (cutD (.str wd :: rest) lo hi).length ≤ 3 := fun lo hi => Nat.le_trans (cut_len _ _ _) (by simp; omega)
  have hct : ∀ lo hi, ∀ d ∈ cutD (.str wd :: rest) lo hi, thD 4 d := fun lo hi d hd => thD_mono 2 4 d (by decide) (ht d (cut_mem hd))
  have s1 := hcl none (some at_)
  have s2 := hcl (some (at_ + 1)) none
  have s3 := hcl (some at_) none
  have s4 := hcl (some 1) none
  have hone : ∀ d ∈ [odd2], thD 4 d := by walk_at "th"
  have hnq : ∀ {q}, m3 q = none → q ≠ w := fun {q} hq z => by
    obtain ⟨k, wl, _⟩ := h
    obtain ⟨a, b, c, e, _⟩ := wl.ex
    rw [← z, hq] at e; cases e
  walk_at "go"
  intro q hq
  walk_at "go"
  rw [atI0]
  walk_at "go"
  rw [asL_adr mset_same]
  walk_at "go"
  intro q2 hq2
  have h2w : q2 ≠ w := by
    by_cases z : q2 = q
    · rw [z]; exact hnq hq
    · rw [mset_ne z] at hq2; exact hnq hq2
  generalize hM : mset (mset m3 q _) q2 (.lst _) = M
  have hMq := congrFun hM q2
  rw [mset_same] at hMq
  have kpM : Kp [] m3 M := by rw [← hM]; exact (kp_new hq).trans (kp_new hq2)
  walk_at "go"
  refine ⟨⟨_, hMq.symm⟩, ?_⟩
  walk_at "go"
  rw [← hMq]
  walk_at "go"
  refine ⟨w, _, _, rfl, .inr ⟨q2, rfl, h2w, mset_same⟩, by simp, by simp, ?_⟩
  have h2q : q2 ≠ q := fun z => by rw [z, mset_same] at hq2; cases hq2
  have h2n : m3 q2 = none := by rw [mset_ne h2q] at hq2; exact hq2
  refine (h.new fun a o _ e => ?_).imp (fun d hd => ?_) fun d m' _ _ p => p
  · rw [mset_ne (fun z => by rw [z, h2n] at e; cases e)]
    exact kpM a o (by simp) e
  · have l1 := thD_app (hct none (some at_)) hone (by simp; omega)
    refine (?_ : ∀ d ∈ _, thD 10 d) d hd
    have hsig : thD 3 (.tup (.str wd :: rest)) := ⟨by simp; omega, ht⟩
    have hw0 := ht (.str wd) List.mem_cons_self
    have x1 : thD 5 (.tup (cutD (.str wd :: rest) none (some at_) ++ [odd2] ++ cutD (.str wd :: rest) (some (at_ + 1)) none)) := thD_app (fun d hd => (List.mem_append.mp hd).elim (hct _ _ d) (hone d)) (hct _ _) (by simp; omega)
    have x2 : thD 5 (.tup (cutD (.str wd :: rest) none (some at_) ++ [odd2] ++ cutD (.str wd :: rest) (some at_) none)) := thD_app (fun d hd => (List.mem_append.mp hd).elim (hct _ _ d) (hone d)) (hct _ _) (by simp; omega)
    have x3 : thD 5 (.tup (cutD (.str wd :: rest) none (some at_) ++ cutD (.str wd :: rest) (some (at_ + 1)) none)) := thD_app (hct _ _) (hct _ _) (by omega)
    have x4 : thD 5 (.tup (.str wd :: rest ++ cutD (.str wd :: rest) (some 1) none)) := thD_app (fun d hd => thD_mono 2 4 d (by decide) (ht d hd)) (hct _ _) (by simp; omega)
    have x5 : thD 3 (.lst (.str wd :: rest)) := ⟨by simp; omega, ht⟩
    walk_at "th"
def sp__law_numbers_v2 : Nat → SpD
  | 0 => spNo
  | k + 1 => fun ds m P _ => ∃ l : Lk, ds = [l.d] ∧ l.dep ≤ k + 1 ∧ l.dep ≤ 10 ∧ l.few ∧ ∀ ks : List Int, ks.length ≤ 20 → P (.lst (ks.map .int)) m
def rd__law_numbers_v2 (self : SpD) : DS :=
    sSeq (sSet 1 (rLc (iAny (rCB cLst (rCons (rSl (rV 0) (rPart (rC (.int 1))) rNoP) (rNil)))) [4] (gN 4) (rTru (rCall sp__law_is_whole [] (rCons (rV 4) (rNil)))) (rV 4)))
    (sSeq (sIf (rTst (rOp oEq (rOp oIx (rV 0) (rC (.int 0))) (rC (.str "one")))) (sSet 1 (rCB cLst (rCons (rOp oIx (rV 0) (rC (.int 1))) (rNil)))) (sNext))
    (sSeq (sIf (rTst (rOp oEq (rOp oIx (rV 0) (rC (.int 0))) (rC (.str "but")))) (sRet (rCall self [] (rCons (rOp oIx (rV 0) (rC (.int 1))) (rNil)))) (sNext))
    (sSeq (sSet 2 (rLst (rCons (rC (.int 0)) (rNil))))
    (sSeq (sFor (iAny (rV 1)) (gN 3) (sSet 2 (rOp oAdd (rV 2) (rLst (rCons (rOp oSub (rV 3) (rC (.int 1))) (rCons (rV 3) (rCons (rOp oAdd (rV 3) (rC (.int 1))) (rNil))))))))
    (sRet (rV 2))))))
theorem ln__law_numbers_v2 : ∀ kk ds m Q PX, sp__law_numbers_v2 kk ds m Q PX → ds.length = 1
  | 0, _, _, _, _, h => h.elim
  | kk + 1, ds, m, Q, PX, h => by (repeat (obtain ⟨_, h⟩ := h)); subst_vars; rfl
theorem nums_tail {m : Mu} {Q : DK} {PX : DX} {d0 : D} {b1 b3 b4 : Option D} {ns : List Int} (hl : ns.length ≤ 4) (h : ∀ ks : List Int, ks.length ≤ 20 → Q (.lst (ks.map .int)) m) :
    sLoop (fun _ => True) (gN 3) (sSet 2 (rOp oAdd (rV 2) (rLst (rCons (rOp oSub (rV 3) (rC (.int 1))) (rCons (rV 3) (rCons (rOp oAdd (rV 3) (rC (.int 1))) (rNil))))))) { nx := sRet (rV 2) (dEnds Q PX), rt := (dEnds Q PX).rt, bk := (dEnds Q PX).bk, ct := (dEnds Q PX).ct, xx := (dEnds Q PX).xx } (ns.map .int) [some d0, b1, some (.lst [.int 0]), b3, b4] m := by
  refine loop_inv (fun i δ m' => m' = m ∧ ∃ (ks : List Int) (b3 : Option D), δ = [some d0, b1, some (.lst (ks.map .int)), b3, b4] ∧ ks.length = 1 + 3 * i) (fun i d δ m' e hh => ?_) (fun δ m' hh => ?_) ⟨rfl, [0], _, rfl, rfl⟩
  · obtain ⟨rfl, ks, b3, rfl, hk⟩ := hh
    obtain ⟨n, _, rfl⟩ := List.mem_map.mp (List.mem_of_getElem? e)
    have hi := (List.getElem?_eq_some_iff.mp e).1
    rw [List.length_map] at hi
    refine ⟨trivial, fun Nx k1 => ?_⟩
    walk_at "go"
    exact k1 _ _ ⟨rfl, ks ++ [n - 1, n, n + 1], _, by simp; rfl, by simp; omega⟩
  · obtain ⟨rfl, ks, b3, rfl, hk⟩ := hh
    refine ⟨trivial, h ks ?_⟩
    rw [hk, List.length_map]; omega
theorem comp_wholes {Ph : Mu → Prop} {δ : DSt} {j : Nat} {m : Mu} {P : List D → Mu → Prop} {xs : List D} (ph : Ph m) (hl : xs.length ≤ 100000) (hx : ∀ d ∈ xs, Thg d) (hj : j < δ.length) (h : P (xs.filter isWhole) m) : rComp Ph (gN j) (rTru (rCall sp_is_whole [] (rCons (rV j) (rNil)))) (rV j) δ P xs [] m := by
  refine comp_fm isWhole (fun d => d) (by omega) ph (fun d hd Q q => ?_) (fun d hd _ Q q => ?_) (by rw [List.map_id']; exact h)
  · show (match (δ.set j (some d))[j]? with | some (some d) => _ | _ => False)
    rw [List.getElem?_set_self hj]
    exact ⟨d, rfl, hx d hd, q⟩
  · show (match (δ.set j (some d))[j]? with | some (some d) => _ | _ => False)
    rw [List.getElem?_set_self hj]
    exact q
theorem pu__law_numbers_v2 : ∀ kk ds m Q PX, sp__law_numbers_v2 (kk + 1) ds m Q PX → rd__law_numbers_v2 (sp__law_numbers_v2 kk) (dEnds Q PX) (dstart ["_law_sight", "_law_some", "_law_found", "_law_one_here", "_law_part"] ds) m := by
  rintro kk ds m Q PX ⟨l, rfl, hd, h10, hf, h⟩
  have thi : ∀ n : Int, Thg (.int n) := fun n => .inl trivial
  cases l with
  | any => walk_at "go"; exact comp_wholes (xs := []) trivial (by simp) (fun _ z => by cases z) (by exact (by decide : 4 < 5)) (by walk_at "go"; exact nums_tail (ns := []) (by simp) h)
  | is n => walk_at "go"; exact comp_wholes (xs := [.int n]) trivial (by simp) (fun d z => by rw [List.mem_singleton.mp z]; exact thi n) (by exact (by decide : 4 < 5)) (by walk_at "go"; exact nums_tail (ns := [n]) (by simp) h)
  | frm n => walk_at "go"; exact comp_wholes (xs := [.int n]) trivial (by simp) (fun d z => by rw [List.mem_singleton.mp z]; exact thi n) (by exact (by decide : 4 < 5)) (by walk_at "go"; exact nums_tail (ns := [n]) (by simp) h)
  | upto n => walk_at "go"; exact comp_wholes (xs := [.int n]) trivial (by simp) (fun d z => by rw [List.mem_singleton.mp z]; exact thi n) (by exact (by decide : 4 < 5)) (by walk_at "go"; exact nums_tail (ns := [n]) (by simp) h)
  | inn a b => walk_at "go"; exact comp_wholes (xs := [.int a, .int b]) trivial (by simp) (fun d z => by simp only [List.mem_cons, List.not_mem_nil, or_false] at z; rcases z with rfl | rfl <;> exact thi _) (by exact (by decide : 4 < 5)) (by walk_at "go"; exact nums_tail (ns := [a, b]) (by simp) h)
  | one ns =>
    have ht : Thg (.tup (ns.map .int)) := thg_of (n := 1) ⟨by rw [List.length_map]; exact Nat.le_trans hf (by decide), fun d hd => by obtain ⟨k, _, rfl⟩ := List.mem_map.mp hd; exact thD_int⟩
    walk_at "go"
    exact comp_wholes (xs := [.tup (ns.map .int)]) trivial (by simp) (fun d z => by rw [List.mem_singleton.mp z]; exact ht) (by exact (by decide : 4 < 5)) (by walk_at "go"; exact nums_tail (ns := ns) hf h)
  | but l =>
    have hdp : l.dep ≤ kk := by have : l.dep + 1 ≤ kk + 1 := hd; omega
    have := dep_pos l
    have h9 : l.dep ≤ 10 := by have : l.dep + 1 ≤ 10 := h10; omega
    cases kk with
    | zero => omega
    | succ k =>
      have ht : Thg l.d := .inl (thD_mono _ 20 _ (by omega) (l.th hf))
      walk_at "go"
      exact comp_wholes (xs := [l.d]) trivial (by simp) (fun d z => by rw [List.mem_singleton.mp z]; exact ht) (by exact (by decide : 4 < 5)) (by walk_at "go"; exact ⟨l, rfl, hdp, h9, hf, h⟩)
end DL

namespace DL
open PySem L2
local macro_rules | `(tactic| walk_at "dl") => `(tactic| ((conv => whnf); try dsimp only))
local macro_rules | `(tactic| walk_at "sd") => `(tactic| first | trivial | exact Nat.zero_le _ | assumption | decide | omega | exact len_line (by first | decide | omega | (simp; done) | (simp; omega)) | (simp; done) | (simp; omega) | exact ⟨by decide, by decide, by decide⟩ | exact .inl ⟨by decide, by decide⟩ | exact .inl ⟨by omega, by omega⟩ | exact wide_div (b := 64) (by decide) (by decide) (by decide) (by decide))
local macro_rules | `(tactic| walk_at "go") => `(tactic| ((conv => whnf); (try dsimp only); repeat ((with_reducible refine And.intro ?_ ?_); (focus (walk_at "sd")); (conv => whnf); (try dsimp only))))
local macro_rules | `(tactic| walk_at "th") => `(tactic| repeat' (first | assumption | exact thD_txt _ _ | exact thD_int | exact thD_non | exact thD_bl | (refine thD_mono _ _ _ ?_ (by assumption); decide) | refine List.forall_mem_cons.mpr (And.intro ?_ ?_) | exact List.forall_mem_nil _ | refine thD_tup (by simp) ?_ | refine thD_lst (by simp) ?_))
local macro_rules | `(tactic| walk_at "ln") => `(tactic| (intro ds m Q PX h; repeat (obtain ⟨_, h⟩ := h); subst_vars; rfl))
theorem cells {c0 : Int} {ns : List Int} {lo hi : Option Int} : ∀ d ∈ [D.int c0] ++ cutD (ns.map .int) lo hi, ∃ c, d = .int c := by
  intro d hd
  rcases List.mem_append.mp hd with hd | hd
  · exact ⟨c0, List.mem_singleton.mp hd⟩
  · unfold cutD at hd
    obtain ⟨c, _, rfl⟩ := List.mem_map.mp (List.mem_of_mem_drop (List.mem_of_mem_take hd))
    exact ⟨c, rfl⟩
theorem cut_le (ns : List Int) (lo hi : Option Int) : (cutD (ns.map .int) lo hi).length ≤ ns.length := by
  unfold cutD
  rw [List.length_take, List.length_drop, List.length_map]
  omega
end DL

namespace DL
open PySem L2
local macro_rules | `(tactic| walk_at "dl") => `(tactic| ((conv => whnf); try dsimp only))
local macro_rules | `(tactic| walk_at "sd") => `(tactic| first | trivial | exact Nat.zero_le _ | assumption | decide | omega | exact len_line (by first | decide | omega | (simp; done) | (simp; omega)) | (simp; done) | (simp; omega) | exact ⟨by decide, by decide, by decide⟩ | exact .inl ⟨by decide, by decide⟩ | exact .inl ⟨by omega, by omega⟩ | exact wide_div (b := 64) (by decide) (by decide) (by decide) (by decide))
local macro_rules | `(tactic| walk_at "go") => `(tactic| ((conv => whnf); (try dsimp only); repeat ((with_reducible refine And.intro ?_ ?_); (focus (walk_at "sd")); (conv => whnf); (try dsimp only))))
local macro_rules | `(tactic| walk_at "th") => `(tactic| repeat' (first | assumption | exact thD_txt _ _ | exact thD_int | exact thD_non | exact thD_bl | (refine thD_mono _ _ _ ?_ (by assumption); decide) | refine List.forall_mem_cons.mpr (And.intro ?_ ?_) | exact List.forall_mem_nil _ | refine thD_tup (by simp) ?_ | refine thD_lst (by simp) ?_))
local macro_rules | `(tactic| walk_at "ln") => `(tactic| (intro ds m Q PX h; repeat (obtain ⟨_, h⟩ := h); subst_vars; rfl))
/-! ### names -/
def low (c : Nat) : Bool := decide (97 ≤ c) && decide (c ≤ 122)
def nmB (x : Str) : Bool := decide (1 ≤ x.length) && (decide (x.length ≤ 8) && x.cps.toList.all low)
def nmD : D → Bool
  | .str x => nmB x
  | _ => false
theorem in_low (c : Nat) : inStr ⟨#[c]⟩ "abcdefghijklmnopqrstuvwxyz" = low c := by
  show decide (c ∈ (Str.ofString "abcdefghijklmnopqrstuvwxyz").cps.toList) = _
  have e : (Str.ofString "abcdefghijklmnopqrstuvwxyz").cps.toList = (List.range 26).map (· + 97) := by decide +kernel
  rw [e, Bool.eq_iff_iff, decide_eq_true_eq]
  unfold low
  rw [Bool.and_eq_true, decide_eq_true_eq, decide_eq_true_eq, List.mem_map]
  constructor
  · rintro ⟨k, hk, rfl⟩
    have := List.mem_range.mp hk
    omega
  · rintro ⟨h1, h2⟩
    exact ⟨c - 97, List.mem_range.mpr (by omega), by omega⟩
theorem signs_len (x : Str) : (signs x).length = x.length := by unfold signs; rw [List.length_map, Array.length_toList]; rfl
def lowD : D → Bool
  | .str x => inStr x "abcdefghijklmnopqrstuvwxyz"
  | _ => false
theorem signs_low (x : Str) : (signs x).all lowD = x.cps.toList.all low := by
  unfold signs
  rw [List.all_map]
  congr 1
  funext c
  exact in_low c
def sp_is_name : SpD := fun ds m P _ => ∃ d, ds = [d] ∧ Thg d ∧ P (.bl (nmD d)) m
def rd_is_name : DS :=
    sSeq (sIf (rOr (rNot (rTru (rCB cIsi (rCons (rV 0) (rCons (rC (.ty "str")) (rNil)))))) (rNot (rTst (rChain oLe oLe (rC (.int 1)) (rCB cLen (rCons (rV 0) (rNil))) (rC (.int 8)))))) (sRet (rC (.bl false))) (sNext))
    (sRet (rCB cAll (rCons (rLc (iAny (rV 0)) [1] (gN 1) (qYes) (rOp (oInN false) (rV 1) (rC (.str "abcdefghijklmnopqrstuvwxyz")))) (rNil))))
theorem ln_is_name : ∀ ds m Q PX, sp_is_name ds m Q PX → ds.length = 1 := fun ds m Q PX h => by (repeat (obtain ⟨_, h⟩ := h)); subst_vars; rfl
theorem pu_is_name : ∀ ds m Q PX, sp_is_name ds m Q PX → rd_is_name (dEnds Q PX) (dstart ["thing", "sign"] ds) m := by
  rintro ds m Q PX ⟨d, rfl, hd, h⟩
  revert h
  refine hd.cases_ (p := fun d => Q (.bl (nmD d)) m → rd_is_name (dEnds Q PX) (dstart ["thing", "sign"] [d]) m) ?_ ?_ ?_ ?_ ?_ ?_ ?_
  all_goals (try (intros; walk_at "go"; assumption))
  intro x hl hx h
  change Q (.bl (nmB x)) m at h
  unfold nmB at h
  walk_at "go"
  cases h1 : decide ((1 : Int) ≤ (x.length : Nat)) with
  | false =>
    have := of_decide_eq_false h1
    rw [decide_eq_false (by omega : ¬ 1 ≤ x.length)] at h
    exact h
  | true =>
    have := of_decide_eq_true h1
    rw [decide_eq_true (by omega : 1 ≤ x.length), Bool.true_and] at h
    walk_at "go"
    cases h2 : decide (((x.length : Nat) : Int) ≤ 8) with
    | false =>
      have := of_decide_eq_false h2
      rw [decide_eq_false (by omega : ¬ x.length ≤ 8)] at h
      exact h
    | true =>
      have := of_decide_eq_true h2
      rw [decide_eq_true (by omega : x.length ≤ 8), Bool.true_and] at h
      walk_at "go"
      refine comp_map (fun d => .bl (lowD d)) (by rw [signs_len]; omega) trivial (fun d hd Q q => ?_) ?_
      · obtain ⟨c, _, rfl⟩ := List.mem_map.mp hd
        walk_at "go"
        exact q
      · walk_at "dl"
        rw [show (signs x).map (fun d => D.bl (lowD d)) = ((signs x).map lowD).map D.bl from by rw [List.map_map]; rfl, boolsD_map]
        dsimp only
        rw [all_id, signs_low]
        exact h
abbrev sp__law_is_name : SpD := sp_is_name
def rd__law_is_name : DS :=
    sSeq (sIf (rNot (rTru (rCB cIsi (rCons (rV 0) (rCons (rC (.ty "str")) (rNil)))))) (sRet (rC (.bl false))) (sNext))
    (sSeq (sSet 1 (rLc (iAny (rV 0)) [2] (gN 2) (rTst (rOp (oInN true) (rV 2) (rC (.str "abcdefghijklmnopqrstuvwxyz")))) (rV 2)))
    (sRet (rAndV (rOp oEq (rV 1) (rLst (rNil))) (rAndV (rOp oLe (rC (.int 1)) (rCB cLen (rCons (rV 0) (rNil)))) (rOp oLe (rCB cLen (rCons (rV 0) (rNil))) (rC (.int 8)))))))
theorem ln__law_is_name : ∀ ds m Q PX, sp__law_is_name ds m Q PX → ds.length = 1 := fun ds m Q PX h => by (repeat (obtain ⟨_, h⟩ := h)); subst_vars; rfl
theorem pur_signs (x : Str) : pur (.lst ((signs x).filter fun d => !lowD d)) = true := by
  rw [pur]
  exact purL_all fun d hd => by
    obtain ⟨c, _, rfl⟩ := List.mem_map.mp (List.mem_filter.mp hd).1
    rfl
theorem low_none (x : Str) : ((signs x).filter fun d => !lowD d).isEmpty = x.cps.toList.all low := by
  rw [← signs_low, Bool.eq_iff_iff]
  simp [List.isEmpty_iff, List.filter_eq_nil_iff]
theorem pu__law_is_name : ∀ ds m Q PX, sp__law_is_name ds m Q PX → rd__law_is_name (dEnds Q PX) (dstart ["_law_thing", "_law_strange", "_law_sign"] ds) m := by
  rintro ds m Q PX ⟨d, rfl, hd, h⟩
  revert h
  refine hd.cases_ (p := fun d => Q (.bl (nmD d)) m → rd__law_is_name (dEnds Q PX) (dstart ["_law_thing", "_law_strange", "_law_sign"] [d]) m) ?_ ?_ ?_ ?_ ?_ ?_ ?_
  all_goals (try (intros; walk_at "go"; assumption))
  intro x hl hx h
  change Q (.bl (nmB x)) m at h
  unfold nmB at h
  walk_at "go"
  refine comp_fm (fun d => !lowD d) (fun d => d) (by rw [signs_len]; omega) trivial (fun d hd Q q => ?_) (fun d hd _ Q q => ?_) ?_
  · obtain ⟨c, _, rfl⟩ := List.mem_map.mp hd
    walk_at "go"
    exact q
  · obtain ⟨c, _, rfl⟩ := List.mem_map.mp hd
    walk_at "go"
    exact q
  rw [List.map_id']
  walk_at "go"
  have hp := pur_signs x
  have hf : ∀ d ∈ (signs x).filter fun d => !lowD d, thD 0 d := fun d hd => by
    obtain ⟨c, hc, rfl⟩ := List.mem_map.mp (List.mem_filter.mp hd).1
    exact ⟨by simp [Str.length], fun c' h' => by
      have : c' = c := by simpa using h'
      rw [this]; exact hx c hc⟩
  refine ⟨?_, ?_, ?_⟩
  · rw [dat_pur hp]
    exact shp_of (n := 1) fun d hd => thD_fit 0 d (hf d hd)
  · exact shpN
  rw [dat_pur hp, dat_pur (show pur (.lst []) = true from rfl), deq_lst_nil, low_none]
  cases hal : x.cps.toList.all low with
  | false => rw [hal, Bool.and_false, Bool.and_false] at h; exact h
  | true =>
    rw [hal, Bool.and_true] at h
    walk_at "go"
    cases h1 : decide ((1 : Int) ≤ (x.length : Nat)) with
    | false =>
      have := of_decide_eq_false h1
      rw [decide_eq_false (by omega : ¬ 1 ≤ x.length)] at h
      exact h
    | true =>
      have := of_decide_eq_true h1
      rw [decide_eq_true (by omega : 1 ≤ x.length), Bool.true_and] at h
      walk_at "go"
      rw [show decide (((x.length : Nat) : Int) ≤ 8) = decide (x.length ≤ 8) from by rw [Bool.eq_iff_iff, decide_eq_true_eq, decide_eq_true_eq]; omega]
      exact h
/-! ### asks -/
def thsB : D → Bool
  | .tup ts => decide (ts.length ≤ 2) && ts.all isWhole
  | _ => false
def askB : D → Bool
  | .tup [a, b, c] => nmD a && (nmD b && thsB c)
  | _ => false
theorem ask_no : ∀ {xs : List D}, xs.length ≠ 3 → askB (.tup xs) = false
  | [], _ => rfl
  | [_], _ => rfl
  | [_, _], _ => rfl
  | [_, _, _], h => (h rfl).elim
  | _ :: _ :: _ :: _ :: _, _ => rfl
def sp_is_ask : SpD := fun ds m P _ => ∃ d, ds = [d] ∧ Thg d ∧ P (.bl (askB d)) m
def rd_is_ask : DS :=
    sSeq (sIf (rOr (rNot (rTru (rCB cIsi (rCons (rV 0) (rCons (rC (.ty "tuple")) (rNil)))))) (rOr (rTst (rOp oNe (rCB cLen (rCons (rV 0) (rNil))) (rC (.int 3)))) (rNot (rTru (rCB cIsi (rCons (rOp oIx (rV 0) (rC (.int 2))) (rCons (rC (.ty "tuple")) (rNil)))))))) (sRet (rC (.bl false))) (sNext))
    (sSeq (sIf (rOr (rNot (rTru (rCall sp_is_name [] (rCons (rOp oIx (rV 0) (rC (.int 0))) (rNil))))) (rOr (rNot (rTru (rCall sp_is_name [] (rCons (rOp oIx (rV 0) (rC (.int 1))) (rNil))))) (rTst (rOp oGt (rCB cLen (rCons (rOp oIx (rV 0) (rC (.int 2))) (rNil))) (rC (.int 2)))))) (sRet (rC (.bl false))) (sNext))
    (sRet (rCB cAll (rCons (rLc (iAny (rOp oIx (rV 0) (rC (.int 2)))) [1] (gN 1) (qYes) (rCall sp_is_whole [] (rCons (rV 1) (rNil)))) (rNil)))))
theorem ln_is_ask : ∀ ds m Q PX, sp_is_ask ds m Q PX → ds.length = 1 := fun ds m Q PX h => by (repeat (obtain ⟨_, h⟩ := h)); subst_vars; rfl
theorem pu_is_ask : ∀ ds m Q PX, sp_is_ask ds m Q PX → rd_is_ask (dEnds Q PX) (dstart ["ask", "thing"] ds) m := by
  rintro ds m Q PX ⟨d, rfl, hd, h⟩
  revert h
  refine hd.cases_ (p := fun d => Q (.bl (askB d)) m → rd_is_ask (dEnds Q PX) (dstart ["ask", "thing"] [d]) m) ?_ ?_ ?_ ?_ ?_ ?_ ?_
  all_goals (try (intros; walk_at "go"; assumption))
  intro xs hl hx h
  walk_at "go"
  cases h3 : decide (((xs.length : Nat) : Int) = 3) with
  | false =>
    have := of_decide_eq_false h3
    rw [ask_no (by omega)] at h
    exact h
  | true =>
    have := of_decide_eq_true h3
    match xs, this, hx, h with
    | [a, b, c], _, hx, h =>
      have ha := hx a List.mem_cons_self
      have hb := hx b (by simp)
      have hc := hx c (by simp)
      change Q (.bl (nmD a && (nmD b && thsB c))) m at h
      have no : (∀ ts, c ≠ .tup ts) → Q (.bl false) m := fun z => by
        cases c with
        | tup ts => exact (z ts rfl).elim
        | _ => simpa [thsB] using h
      walk_at "go"
      cases c with
      | tup ts =>
        walk_at "go"
        refine ⟨a, rfl, thg_of ha, ?_⟩
        cases hna : nmD a with
        | false => rw [hna] at h; exact h
        | true =>
          rw [hna, Bool.true_and] at h
          walk_at "go"
          refine ⟨b, rfl, thg_of hb, ?_⟩
          cases hnb : nmD b with
          | false => rw [hnb] at h; exact h
          | true =>
            rw [hnb, Bool.true_and] at h
            change Q (.bl (decide (ts.length ≤ 2) && ts.all isWhole)) m at h
            have hts := hc.1
            walk_at "go"
            cases h4 : decide ((2 : Int) < (ts.length : Nat)) with
            | true =>
              have := of_decide_eq_true h4
              rw [decide_eq_false (by omega : ¬ ts.length ≤ 2)] at h
              exact h
            | false =>
              have := of_decide_eq_false h4
              rw [decide_eq_true (by omega : ts.length ≤ 2), Bool.true_and] at h
              walk_at "go"
              refine comp_whole trivial (by omega) (fun d hd => thg_of (hc.2 d hd)) (by exact (by decide : 1 < 2)) ?_
              walk_at "dl"
              rw [boolsD_map]
              dsimp only
              rw [all_id]
              exact h
      | non => exact no fun _ z => by cases z
      | bl b => exact no fun _ z => by cases z
      | int i => exact no fun _ z => by cases z
      | str i => exact no fun _ z => by cases z
      | lst ds => exact no fun _ z => by cases z
      | _ => cases hc
def sp_check_ask : SpD := fun ds m P PX => ∃ d, ds = [d] ∧ Thg d ∧ (match askB d with | true => P .non m | false => PX "BadAsk" [("why", .str "no ask")] m)
def rd_check_ask : DS :=
    sIf (rNot (rTru (rCall sp_is_ask [] (rCons (rV 0) (rNil))))) (sRaise "BadAsk" (rCons (rC (.str "no ask")) (rNil))) (sNext)
theorem ln_check_ask : ∀ ds m Q PX, sp_check_ask ds m Q PX → ds.length = 1 := fun ds m Q PX h => by (repeat (obtain ⟨_, h⟩ := h)); subst_vars; rfl
theorem pu_check_ask : ∀ ds m Q PX, sp_check_ask ds m Q PX → rd_check_ask (dEnds Q PX) (dstart ["ask"] ds) m := by
  rintro ds m Q PX ⟨d, rfl, hd, h⟩
  walk_at "go"
  refine ⟨d, rfl, hd, ?_⟩
  cases hb : askB d with
  | true => rw [hb] at h; exact h
  | false => rw [hb] at h; exact h
abbrev sp__law_is_ask : SpD := sp_is_ask
def rd__law_is_ask : DS :=
    sSeq (sIf (rOr (rNot (rTru (rCB cIsi (rCons (rV 0) (rCons (rC (.ty "tuple")) (rNil)))))) (rOr (rTst (rOp oNe (rCB cLen (rCons (rV 0) (rNil))) (rC (.int 3)))) (rOr (rNot (rTru (rCall sp__law_is_name [] (rCons (rOp oIx (rV 0) (rC (.int 0))) (rNil))))) (rNot (rTru (rCall sp__law_is_name [] (rCons (rOp oIx (rV 0) (rC (.int 1))) (rNil)))))))) (sRet (rC (.bl false))) (sNext))
    (sSeq (sIf (rOr (rNot (rTru (rCB cIsi (rCons (rOp oIx (rV 0) (rC (.int 2))) (rCons (rC (.ty "tuple")) (rNil)))))) (rTst (rOp oGt (rCB cLen (rCons (rOp oIx (rV 0) (rC (.int 2))) (rNil))) (rC (.int 2))))) (sRet (rC (.bl false))) (sNext))
    (sRet (rOp oEq (rLc (iAny (rOp oIx (rV 0) (rC (.int 2)))) [1] (gN 1) (rOr (rTru (rCB cIsi (rCons (rV 1) (rCons (rC (.ty "bool")) (rNil))))) (rNot (rTru (rCB cIsi (rCons (rV 1) (rCons (rC (.ty "int")) (rNil))))))) (rV 1)) (rLst (rNil)))))
theorem ln__law_is_ask : ∀ ds m Q PX, sp__law_is_ask ds m Q PX → ds.length = 1 := fun ds m Q PX h => by (repeat (obtain ⟨_, h⟩ := h)); subst_vars; rfl
theorem pu__law_is_ask : ∀ ds m Q PX, sp__law_is_ask ds m Q PX → rd__law_is_ask (dEnds Q PX) (dstart ["_law_thing", "_law_one_here"] ds) m := by
  rintro ds m Q PX ⟨d, rfl, hd, h⟩
  revert h
  refine hd.cases_ (p := fun d => Q (.bl (askB d)) m → rd__law_is_ask (dEnds Q PX) (dstart ["_law_thing", "_law_one_here"] [d]) m) ?_ ?_ ?_ ?_ ?_ ?_ ?_
  all_goals (try (intros; walk_at "go"; assumption))
  intro xs hl hx h
  walk_at "go"
  cases h3 : decide (((xs.length : Nat) : Int) = 3) with
  | false =>
    have := of_decide_eq_false h3
    rw [ask_no (by omega)] at h
    exact h
  | true =>
    have := of_decide_eq_true h3
    match xs, this, hx, h with
    | [a, b, c], _, hx, h =>
      have ha := hx a List.mem_cons_self
      have hb := hx b (by simp)
      have hc := hx c (by simp)
      change Q (.bl (nmD a && (nmD b && thsB c))) m at h
      walk_at "go"
      refine ⟨a, rfl, thg_of ha, ?_⟩
      cases hna : nmD a with
      | false => rw [hna] at h; exact h
      | true =>
        rw [hna, Bool.true_and] at h
        walk_at "go"
        refine ⟨b, rfl, thg_of hb, ?_⟩
        cases hnb : nmD b with
        | false => rw [hnb] at h; exact h
        | true =>
          rw [hnb, Bool.true_and] at h
          walk_at "go"
          cases c with
          | tup ts =>
            change Q (.bl (decide (ts.length ≤ 2) && ts.all isWhole)) m at h
            have hts := hc.1
            walk_at "go"
            cases h4 : decide ((2 : Int) < (ts.length : Nat)) with
            | true =>
              have := of_decide_eq_true h4
              rw [decide_eq_false (by omega : ¬ ts.length ≤ 2)] at h
              exact h
            | false =>
              have := of_decide_eq_false h4
              rw [decide_eq_true (by omega : ts.length ≤ 2), Bool.true_and] at h
              walk_at "go"
              refine comp_fm (fun d => !isWhole d) (fun d => d) (by omega) trivial (fun d hd Q q => ?_) (fun d hd _ Q q => ?_) ?_
              · have hd' := hc.2 d hd
                cases d <;> first | (walk_at "go"; exact q) | cases hd'
              · walk_at "go"
                exact q
              rw [List.map_id']
              walk_at "go"
              have hf : ∀ d ∈ ts.filter fun d => !isWhole d, thD 18 d := fun d hd => hc.2 d (List.mem_filter.mp hd).1
              refine ⟨shpT (n := 20) ⟨Nat.le_trans (List.length_filter_le _ _) (by omega), fun d hd => thD_mono 18 19 d (by decide) (hf d hd)⟩, shpN, ?_⟩
              show (dEnds Q PX).rt (.bl (deq (.lst (ts.filter fun d => !isWhole d)) (.lst []))) m
              rw [deq_lst_nil, strange_nil]
              exact h
          | non => exact h
          | bl b => exact h
          | int i => exact h
          | str i => exact h
          | lst ds => exact h
          | _ => cases hc
end DL

namespace DL
open PySem L2
local macro_rules | `(tactic| walk_at "dl") => `(tactic| ((conv => whnf); try dsimp only))
local macro_rules | `(tactic| walk_at "sd") => `(tactic| first | trivial | exact Nat.zero_le _ | assumption | decide | omega | exact len_line (by first | decide | omega | (simp; done) | (simp; omega)) | (simp; done) | (simp; omega) | exact ⟨by decide, by decide, by decide⟩ | exact .inl ⟨by decide, by decide⟩ | exact .inl ⟨by omega, by omega⟩ | exact wide_div (b := 64) (by decide) (by decide) (by decide) (by decide))
local macro_rules | `(tactic| walk_at "go") => `(tactic| ((conv => whnf); (try dsimp only); repeat ((with_reducible refine And.intro ?_ ?_); (focus (walk_at "sd")); (conv => whnf); (try dsimp only))))
local macro_rules | `(tactic| walk_at "th") => `(tactic| repeat' (first | assumption | exact thD_txt _ _ | exact thD_int | exact thD_non | exact thD_bl | (refine thD_mono _ _ _ ?_ (by assumption); decide) | refine List.forall_mem_cons.mpr (And.intro ?_ ?_) | exact List.forall_mem_nil _ | refine thD_tup (by simp) ?_ | refine thD_lst (by simp) ?_))
local macro_rules | `(tactic| walk_at "ln") => `(tactic| (intro ds m Q PX h; repeat (obtain ⟨_, h⟩ := h); subst_vars; rfl))
theorem mset_mset {m : Mu} {a : Addr} {o p : MO} : mset (mset m a o) a p = mset m a p := by
  funext b; unfold mset; split <;> rfl
theorem mdel_mset {m : Mu} {a : Addr} {o : MO} (h : m a = none) : mdel (mset m a o) a = m := by
  funext b; unfold mdel mset
  by_cases z : b = a
  · rw [if_pos z, z, h]
  · rw [if_neg z, if_neg z]
theorem mdel_id {m : Mu} {a : Addr} (h : m a = none) : mdel m a = m := by
  funext b; unfold mdel
  by_cases z : b = a
  · rw [if_pos z, z, h]
  · rw [if_neg z]
section
variable {Ph : Mu → Prop} {rg : DG} {re : DE} {δ : DSt} {P : List D → Mu → Prop}
theorem comp_on {α : Type} {m : Mu} (ps : List α) (g f : α → D) (hn : ps.length ≤ 16777216) (ph : Ph m) (he : ∀ x ∈ ps, ∀ Q : DK, Q (f x) m → rg (g x) δ m fun δ' m' => re δ' m' Q noX) (h : P (ps.map f) m) : rComp Ph rg qYes re δ P (ps.map g) [] m := by
  refine comp_inv (fun i acc m' => m' = m ∧ acc = (ps.take i).map f) (fun i acc m' h => ?_) (by rw [List.length_map]; exact hn) (fun i d acc m' e h => ?_) (fun acc m' h => ?_) ⟨rfl, by simp⟩
  · rw [h.2, List.length_map, List.length_take]; omega
  · obtain ⟨rfl, rfl⟩ := h
    rw [List.getElem?_map] at e
    cases ei : ps[i]? with
    | none => rw [ei] at e; cases e
    | some x =>
      rw [ei] at e
      cases e
      refine ⟨ph, fun Kt Kf h1 h2 => ?_⟩
      refine he x (List.mem_of_getElem? ei) _ (h1 _ _ ⟨rfl, ?_⟩)
      rw [List.take_add_one, ei, List.map_append]
      rfl
  · obtain ⟨rfl, rfl⟩ := h
    refine ⟨ph, ?_⟩
    rw [List.length_map, List.take_length]
    exact h
end
theorem zip_looks : ∀ (ls : List Lk) (ts : List Int), zipD (ls.map Lk.d) (ts.map .int) = (ls.zip ts).map fun p => .tup [p.1.d, .int p.2]
  | [], ts => by simp [zipD]
  | _ :: _, [] => by simp [zipD]
  | l :: ls, t :: ts => by simp [zipD, zip_looks ls ts]
/-! ### what is asked, what is wished -/
noncomputable def looksB : D → Bool
  | .non => true
  | .tup xs => decide (xs.length ≤ 2) && xs.all lookB
  | _ => false
def sp_are_looks : SpD := fun ds m P _ => ∃ d, ds = [d] ∧ Thg d ∧ P (.bl (looksB d)) m
def rd_are_looks : DS :=
    sSeq (sIf (rTst (rOp (oIsN false) (rV 0) (rC .non))) (sRet (rC (.bl true))) (sNext))
    (sRet (rAndV (rCB cIsi (rCons (rV 0) (rCons (rC (.ty "tuple")) (rNil)))) (rAndV (rOp oLe (rCB cLen (rCons (rV 0) (rNil))) (rC (.int 2))) (rCB cAll (rCons (rLc (iAny (rV 0)) [1] (gN 1) (qYes) (rCall sp_is_look [] (rCons (rV 1) (rNil)))) (rNil))))))
theorem ln_are_looks : ∀ ds m Q PX, sp_are_looks ds m Q PX → ds.length = 1 := fun ds m Q PX h => by (repeat (obtain ⟨_, h⟩ := h)); subst_vars; rfl
theorem pu_are_looks : ∀ ds m Q PX, sp_are_looks ds m Q PX → rd_are_looks (dEnds Q PX) (dstart ["looks", "look"] ds) m := by
  rintro ds m Q PX ⟨d, rfl, hd, h⟩
  revert h
  refine hd.cases_ (p := fun d => Q (.bl (looksB d)) m → rd_are_looks (dEnds Q PX) (dstart ["looks", "look"] [d]) m) ?_ ?_ ?_ ?_ ?_ ?_ ?_
  all_goals (try (intros; walk_at "go"; assumption))
  intro xs hl hx h
  change Q (.bl (decide (xs.length ≤ 2) && xs.all lookB)) m at h
  walk_at "go"
  cases h4 : decide (((xs.length : Nat) : Int) ≤ 2) with
  | false =>
    have := of_decide_eq_false h4
    rw [decide_eq_false (by omega : ¬ xs.length ≤ 2)] at h
    exact h
  | true =>
    have := of_decide_eq_true h4
    rw [decide_eq_true (by omega : xs.length ≤ 2), Bool.true_and] at h
    walk_at "go"
    refine comp_map (fun d => .bl (lookB d)) (by omega) trivial (fun d hd Q q => ?_) ?_
    · exact ⟨d, rfl, thg_of (hx d hd), q⟩
    · walk_at "dl"
      rw [show xs.map (fun d => D.bl (lookB d)) = (xs.map lookB).map D.bl from by rw [List.map_map]; rfl, boolsD_map]
      dsimp only
      rw [all_id]
      exact h
def oS : Option Str → D
  | none => .non
  | some x => .str x
def oN : Option Int → D
  | none => .non
  | some x => .int x
def oL : Option (List Lk) → D
  | none => .non
  | some ls => .tup (ls.map Lk.d)
def oneOf (deed : Option Str) (b : Str) : Bool := match deed with
  | none => true
  | some x => decide (b = x)
def seesB (looks : Option (List Lk)) (ts : List Int) : Bool := match looks with
  | none => true
  | some ls => decide (ls.length = ts.length) && (ls.zip ts).all fun p => p.1.fits p.2
def forB (part : Str) (deed : Option Str) (looks : Option (List Lk)) (a b : Str) (ts : List Int) : Bool := decide (a = part) && (oneOf deed b && seesB looks ts)
def askD (a b : Str) (ts : List Int) : D := .tup [.str a, .str b, .tup (ts.map .int)]
def okLs (looks : Option (List Lk)) : Prop := ∀ ls, looks = some ls → ls.length ≤ 2 ∧ ∀ l ∈ ls, l.dep ≤ 2
def sp_is_for : SpD := fun ds m P _ => ∃ (part : Str) (deed : Option Str) (looks : Option (List Lk)) (a b : Str) (ts : List Int), ds = [.str part, oS deed, oL looks, askD a b ts] ∧ okLs looks ∧ ts.length ≤ 100 ∧ P (.bl (forB part deed looks a b ts)) m
def rd_is_for : DS :=
    sSeq (sIf (rOr (rTst (rOp oNe (rOp oIx (rV 3) (rC (.int 0))) (rV 0))) (rAnd (rTst (rOp (oIsN true) (rV 1) (rC .non))) (rTst (rOp oNe (rOp oIx (rV 3) (rC (.int 1))) (rV 1))))) (sRet (rC (.bl false))) (sNext))
    (sSeq (sIf (rTst (rOp (oIsN false) (rV 2) (rC .non))) (sRet (rC (.bl true))) (sNext))
    (sRet (rAndV (rOp oEq (rCB cLen (rCons (rV 2) (rNil))) (rCB cLen (rCons (rOp oIx (rV 3) (rC (.int 2))) (rNil)))) (rCB cAll (rCons (rLc (iZipD (rCons (rV 2) (rCons (rOp oIx (rV 3) (rC (.int 2))) (rNil)))) [4, 5] (gT [4, 5]) (qYes) (rCall (sp_fits 2) [] (rCons (rV 4) (rCons (rV 5) (rNil))))) (rNil))))))
theorem ln_is_for : ∀ ds m Q PX, sp_is_for ds m Q PX → ds.length = 4 := fun ds m Q PX h => by (repeat (obtain ⟨_, h⟩ := h)); subst_vars; rfl
theorem pu_is_for : ∀ ds m Q PX, sp_is_for ds m Q PX → rd_is_for (dEnds Q PX) (dstart ["part", "deed", "looks", "ask", "look", "thing"] ds) m := by
  rintro ds m Q PX ⟨part, deed, looks, a, b, ts, rfl, hls, hts, h⟩
  walk_at "go"
  unfold forB at h
  by_cases h1 : a = part
  · rw [decide_eq_true h1, Bool.true_and] at h
    rw [decide_eq_true h1]
    have rest : ∀ h : Q (.bl (seesB looks ts)) m, sSeq (sIf (rTst (rOp (oIsN false) (rV 2) (rC .non))) (sRet (rC (.bl true))) (sNext)) (sRet (rAndV (rOp oEq (rCB cLen (rCons (rV 2) (rNil))) (rCB cLen (rCons (rOp oIx (rV 3) (rC (.int 2))) (rNil)))) (rCB cAll (rCons (rLc (iZipD (rCons (rV 2) (rCons (rOp oIx (rV 3) (rC (.int 2))) (rNil)))) [4, 5] (gT [4, 5]) (qYes) (rCall (sp_fits 2) [] (rCons (rV 4) (rCons (rV 5) (rNil))))) (rNil))))) (dEnds Q PX) [some (.str part), some (oS deed), some (oL looks), some (askD a b ts), none, none] m := by
      intro h
      cases looks with
      | none => exact h
      | some ls =>
        obtain ⟨hl2, hld⟩ := hls ls rfl
        change Q (.bl (decide (ls.length = ts.length) && (ls.zip ts).all fun p => p.1.fits p.2)) m at h
        walk_at "go"
        rw [List.length_map, List.length_map]
        by_cases hl : ls.length = ts.length
        · rw [decide_eq_true hl, Bool.true_and] at h
          rw [decide_eq_true (by omega : (ls.length : Int) = (ts.length : Nat))]
          walk_at "go"
          rw [zip_looks]
          refine comp_on (ls.zip ts) _ (fun p => .bl (p.1.fits p.2)) (by rw [List.length_zip]; omega) trivial (fun p hp Q q => ?_) ?_
          · refine ⟨rfl, ?_⟩
            exact ⟨p.1, p.2, rfl, hld _ (List.of_mem_zip hp).1, q⟩
          · walk_at "dl"
            rw [show (ls.zip ts).map (fun p => D.bl (p.1.fits p.2)) = ((ls.zip ts).map fun p => p.1.fits p.2).map D.bl from by rw [List.map_map]; rfl, boolsD_map]
            dsimp only
            rw [all_id]
            exact h
        · rw [decide_eq_false hl] at h
          rw [decide_eq_false (by omega : ¬ (ls.length : Int) = (ts.length : Nat))]
          exact h
    cases deed with
    | none => exact rest h
    | some x =>
      change Q (.bl (decide (b = x) && seesB looks ts)) m at h
      walk_at "go"
      by_cases h2 : b = x
      · rw [decide_eq_true h2, Bool.true_and] at h
        rw [decide_eq_true h2]
        exact rest h
      · rw [decide_eq_false h2] at h
        rw [decide_eq_false h2]
        exact h
  · rw [decide_eq_false h1] at h
    rw [decide_eq_false h1]
    exact h
def cntB (d : D) (lo : Int) : Bool := match d with
  | .int k => decide (lo ≤ k) && decide (k ≤ 4)
  | _ => false
def sp_is_count : SpD := fun ds m P _ => ∃ (d : D) (lo : Int), ds = [d, .int lo] ∧ Thg d ∧ P (.bl (cntB d lo)) m
def rd_is_count : DS :=
    sRet (rAndV (rCall sp_is_whole [] (rCons (rV 0) (rNil))) (rChain oLe oLe (rV 1) (rV 0) (rC (.int 4))))
theorem ln_is_count : ∀ ds m Q PX, sp_is_count ds m Q PX → ds.length = 2 := fun ds m Q PX h => by (repeat (obtain ⟨_, h⟩ := h)); subst_vars; rfl
theorem pu_is_count : ∀ ds m Q PX, sp_is_count ds m Q PX → rd_is_count (dEnds Q PX) (dstart ["thing", "least"] ds) m := by
  rintro ds m Q PX ⟨d, lo, rfl, hd, h⟩
  revert h
  refine hd.cases_ (p := fun d => Thg d → Q (.bl (cntB d lo)) m → rd_is_count (dEnds Q PX) (dstart ["thing", "least"] [d, .int lo]) m) ?_ ?_ ?_ ?_ ?_ ?_ ?_ hd
  case refine_3 =>
    intro k hk h
    walk_at "go"
    refine ⟨_, rfl, hk, ?_⟩
    walk_at "go"
    change Q (.bl (decide (lo ≤ k) && decide (k ≤ 4))) m at h
    cases h1 : decide (lo ≤ k) <;> (rw [h1] at h; exact h)
  all_goals (intros; walk_at "go"; refine ⟨_, rfl, by assumption, ?_⟩; walk_at "go"; assumption)
/-! ### a wish -/
noncomputable def cntsB (le mo : D) : Bool := match le with
  | .int k => cntB (.int k) 0 && (isNone mo || cntB mo k)
  | _ => false
def wFs (p d l n le mo : D) : List (Str × D) := [("part", p), ("deed", d), ("looks", l), ("name", n), ("least", le), ("most", mo)]
def wOut (b1 b2 b3 : Bool) (A : Prop) (B : Str → Prop) : Prop := match b1, b2, b3 with
  | true, true, true => A
  | false, _, _ => B "no name"
  | true, false, _ => B "no looks"
  | true, true, false => B "no counts"
def sp_Wish___init__ : SpD := fun ds m P PX => ∃ (q : Addr) (p d l n le mo : D), ds = [.adr q, p, d, l, n, le, mo] ∧ m q = some (.ins "Wish" []) ∧ Thg p ∧ Thg d ∧ Thg l ∧ Thg n ∧ Thg le ∧ Thg mo ∧
  wOut (nmD p && ((isNone d || nmD d) && nmD n)) (looksB l) (cntsB le mo) (P .non (mset m q (.ins "Wish" (wFs p d l n le mo)))) (fun y => PX "BadWish" [("why", .str y)] m)
def rd_Wish___init__ : DS :=
    sSeq (sIf (rOr (rNot (rTru (rCall sp_is_name [] (rCons (rV 1) (rNil))))) (rOr (rAnd (rTst (rOp (oIsN true) (rV 2) (rC .non))) (rNot (rTru (rCall sp_is_name [] (rCons (rV 2) (rNil)))))) (rNot (rTru (rCall sp_is_name [] (rCons (rV 4) (rNil))))))) (sRaise "BadWish" (rCons (rC (.str "no name")) (rNil))) (sNext))
    (sSeq (sIf (rNot (rTru (rCall sp_are_looks [] (rCons (rV 3) (rNil))))) (sRaise "BadWish" (rCons (rC (.str "no looks")) (rNil))) (sNext))
    (sSeq (sIf (rOr (rNot (rTru (rCall sp_is_count [] (rCons (rV 5) (rCons (rC (.int 0)) (rNil)))))) (rAnd (rTst (rOp (oIsN true) (rV 6) (rC .non))) (rNot (rTru (rCall sp_is_count [] (rCons (rV 6) (rCons (rV 5) (rNil)))))))) (sRaise "BadWish" (rCons (rC (.str "no counts")) (rNil))) (sNext))
    (sSeq (sAsgM (gTupD 3 (gConsD (gFld "Wish" "part" (rV 0)) (gConsD (gFld "Wish" "deed" (rV 0)) (gConsD (gFld "Wish" "looks" (rV 0)) (gNilD))))) (rTup (rCons (rV 1) (rCons (rV 2) (rCons (rV 3) (rNil))))))
    (sAsgM (gTupD 3 (gConsD (gFld "Wish" "name" (rV 0)) (gConsD (gFld "Wish" "least" (rV 0)) (gConsD (gFld "Wish" "most" (rV 0)) (gNilD))))) (rTup (rCons (rV 4) (rCons (rV 5) (rCons (rV 6) (rNil)))))))))
theorem ln_Wish___init__ : ∀ ds m Q PX, sp_Wish___init__ ds m Q PX → ds.length = 7 := fun ds m Q PX h => by (repeat (obtain ⟨_, h⟩ := h)); subst_vars; rfl
def wTail : DS := sSeq (sAsgM (gTupD 3 (gConsD (gFld "Wish" "part" (rV 0)) (gConsD (gFld "Wish" "deed" (rV 0)) (gConsD (gFld "Wish" "looks" (rV 0)) (gNilD))))) (rTup (rCons (rV 1) (rCons (rV 2) (rCons (rV 3) (rNil))))))
    (sAsgM (gTupD 3 (gConsD (gFld "Wish" "name" (rV 0)) (gConsD (gFld "Wish" "least" (rV 0)) (gConsD (gFld "Wish" "most" (rV 0)) (gNilD))))) (rTup (rCons (rV 4) (rCons (rV 5) (rCons (rV 6) (rNil))))))
def wMid : DS := sSeq (sIf (rNot (rTru (rCall sp_are_looks [] (rCons (rV 3) (rNil))))) (sRaise "BadWish" (rCons (rC (.str "no looks")) (rNil))) (sNext))
    (sSeq (sIf (rOr (rNot (rTru (rCall sp_is_count [] (rCons (rV 5) (rCons (rC (.int 0)) (rNil)))))) (rAnd (rTst (rOp (oIsN true) (rV 6) (rC .non))) (rNot (rTru (rCall sp_is_count [] (rCons (rV 6) (rCons (rV 5) (rNil)))))))) (sRaise "BadWish" (rCons (rC (.str "no counts")) (rNil))) (sNext))
    (sSeq (sAsgM (gTupD 3 (gConsD (gFld "Wish" "part" (rV 0)) (gConsD (gFld "Wish" "deed" (rV 0)) (gConsD (gFld "Wish" "looks" (rV 0)) (gNilD))))) (rTup (rCons (rV 1) (rCons (rV 2) (rCons (rV 3) (rNil))))))
    (sAsgM (gTupD 3 (gConsD (gFld "Wish" "name" (rV 0)) (gConsD (gFld "Wish" "least" (rV 0)) (gConsD (gFld "Wish" "most" (rV 0)) (gNilD))))) (rTup (rCons (rV 4) (rCons (rV 5) (rCons (rV 6) (rNil))))))))
theorem pu_Wish___init__ : ∀ ds m Q PX, sp_Wish___init__ ds m Q PX → rd_Wish___init__ (dEnds Q PX) (dstart ["self", "part", "deed", "looks", "name", "least", "most"] ds) m := by
  rintro ds m Q PX ⟨q, p, d, l, n, le, mo, rfl, hq, hp, hd, hl, hn, hle, hmo, h⟩
  walk_at "go"
  refine ⟨p, rfl, hp, ?_⟩
  cases e1 : nmD p with
  | false => rw [e1] at h; exact h
  | true =>
    rw [e1, Bool.true_and] at h
    have t2 : ∀ h : wOut true (looksB l) (cntsB le mo) (Q .non (mset m q (.ins "Wish" (wFs p d l n le mo)))) (fun y => PX "BadWish" [("why", .str y)] m),
      wMid (dEnds Q PX) [some (.adr q), some p, some d, some l, some n, some le, some mo] m := by
      intro h
      walk_at "go"
      refine ⟨l, rfl, hl, ?_⟩
      cases e4 : looksB l with
      | false => rw [e4] at h; exact h
      | true =>
        rw [e4] at h
        have t3 : ∀ h : Q .non (mset m q (.ins "Wish" (wFs p d l n le mo))), wTail (dEnds Q PX) [some (.adr q), some p, some d, some l, some n, some le, some mo] m := by
          intro h
          walk_at "go"
          rw [hq]
          dsimp only
          refine ⟨rfl, by decide, ?_⟩
          walk_at "go"
          have pl : ∀ {f : Str} {v : D} {fs : List (Str × D)} {k : Nat}, fs.length ≤ k → (putFd f v fs).length ≤ k + 1 := fun hk => Nat.le_trans (putFd_len _ _ _) (by omega)
          have p1 : ∀ {fs : List (Str × D)}, fs.length ≤ 5 → fs.length < 900 := fun hk => by omega
          rw [mset_same]; dsimp only; refine ⟨rfl, p1 (Nat.le_trans (pl (Nat.le_refl _)) (by decide)), ?_⟩; rw [mset_mset]; walk_at "go"
          rw [mset_same]; dsimp only; refine ⟨rfl, p1 (Nat.le_trans (pl (pl (Nat.le_refl _))) (by decide)), ?_⟩; rw [mset_mset]; walk_at "go"
          rw [mset_same]; dsimp only; refine ⟨rfl, p1 (Nat.le_trans (pl (pl (pl (Nat.le_refl _)))) (by decide)), ?_⟩; rw [mset_mset]; walk_at "go"
          rw [mset_same]; dsimp only; refine ⟨rfl, p1 (Nat.le_trans (pl (pl (pl (pl (Nat.le_refl _))))) (by decide)), ?_⟩; rw [mset_mset]; walk_at "go"
          rw [mset_same]; dsimp only; refine ⟨rfl, p1 (Nat.le_trans (pl (pl (pl (pl (pl (Nat.le_refl _)))))) (by decide)), ?_⟩; rw [mset_mset]; walk_at "go"
          exact h
        walk_at "go"
        refine ⟨le, 0, rfl, hle, ?_⟩
        have no : (∀ k, le ≠ .int k) → PX "BadWish" [("why", .str "no counts")] m := fun z => by
          rw [show cntsB le mo = false from by cases le with | int k => exact (z k rfl).elim | _ => rfl] at h
          exact h
        by_cases hk : ∃ k, le = .int k
        · obtain ⟨k, rfl⟩ := hk
          change wOut true true (cntB (.int k) 0 && (isNone mo || cntB mo k)) _ _ at h
          cases e5 : cntB (.int k) 0 with
          | false => rw [e5] at h; exact h
          | true =>
            rw [e5, Bool.true_and] at h
            walk_at "go"
            cases e6 : isNone mo with
            | true => rw [e6] at h; exact t3 h
            | false =>
              rw [e6, Bool.false_or] at h
              walk_at "go"
              refine ⟨mo, k, rfl, hmo, ?_⟩
              cases e7 : cntB mo k with
              | false => rw [e7] at h; exact h
              | true => rw [e7] at h; exact t3 h
        · rw [show cntB le 0 = false from by cases le with | int k => exact (hk ⟨k, rfl⟩).elim | _ => rfl]
          exact no fun k z => hk ⟨k, z⟩
    walk_at "go"
    cases e2 : isNone d with
    | true =>
      rw [e2, Bool.true_or, Bool.true_and] at h
      walk_at "go"
      refine ⟨n, rfl, hn, ?_⟩
      cases e3 : nmD n with
      | false => rw [e3] at h; exact h
      | true => rw [e3] at h; exact t2 h
    | false =>
      rw [e2, Bool.false_or] at h
      walk_at "go"
      refine ⟨d, rfl, hd, ?_⟩
      cases e3 : nmD d with
      | false => rw [e3] at h; exact h
      | true =>
        rw [e3, Bool.true_and] at h
        walk_at "go"
        refine ⟨n, rfl, hn, ?_⟩
        cases e3 : nmD n with
        | false => rw [e3] at h; exact h
        | true => rw [e3] at h; exact t2 h
end DL

/-! # what may change becomes data -/
namespace DL
open PySem L2
theorem Ok.sealO {K : PySem.W.Frag} {F H0 H : Hp} {m : Mu} {q : Addr} {o : MO} {u : HO} (ok : Ok K F H0 m H) (h : m q = some o) (hq : H q = some u) : Same H0 (upd H0 q u) ∧ Ok K F (upd H0 q u) (mdel m q) H := by
  have h0 := (ok.cell q _ h).1
  have sn := same_new (o := u) h0
  refine ⟨sn, ⟨fun b u z => ?_, fun b u z => ?_, fun b u z => ?_⟩⟩
  · by_cases hb : b = q
    · subst hb; rw [upd_same] at z; cases z; exact hq
    · rw [upd_ne hb] at z; exact ok.same b u z
  · unfold mdel at z
    by_cases hb : b = q
    · rw [if_pos hb] at z; cases z
    · rw [if_neg hb] at z
      obtain ⟨c1, c2⟩ := ok.cell b u z
      exact ⟨by rw [upd_ne hb]; exact c1, c2.mono sn rfl⟩
  · obtain ⟨e1, e2, e3⟩ := ok.fr b u z
    have hb : b ≠ q := fun z => by rw [z, h] at e3; cases e3
    exact ⟨e1, by rw [upd_ne hb]; exact e2, by unfold mdel; rw [if_neg hb]; exact e3⟩
/-- a value, told as data -/
def rSeal (ra : DE) : DE := fun δ m P PX => ra δ m (fun x m1 => match x with
  | .adr q => match m1 q with
    | some (.lst ds) => P (.lst ds) (mdel m1 q)
    | some (.dct ds) => P (.dct ds) (mdel m1 q)
    | some (.ins n fs) => P (.ins n fs) (mdel m1 q)
    | _ => False
  | x => P x m1) PX
section
variable {X : Cx} {W : WX} {a : Expr} {ra : DE}
theorem pd_seal (ha : PE X a (lE X.K W ra)) : PE X a (lE X.K W (rSeal ra)) := by
  refine PE.imp ha fun σ H Q h => ?_
  obtain ⟨F, H0, m, δ, P, PX, ok, rs, h, g, gx⟩ := h
  refine ⟨F, H0, m, δ, _, PX, ok, rs, h, fun x H1 H01 m1 d s1 ok1 r1 h1 => ?_, gx⟩
  dsimp only at h1
  split at h1
  · cases r1
    rename_i q
    split at h1
    · rename_i ds e
      obtain ⟨vs, hq, rv⟩ := (ok1.cell q _ e).2
      obtain ⟨s2, ok2⟩ := ok1.sealO e hq
      exact g _ _ _ _ _ (s1.trans s2) ok2 (.lst (.inl (.inl upd_same)) (rv.mono s2)) h1
    · rename_i ds e
      obtain ⟨vs, hq, e2, rv⟩ := (ok1.cell q _ e).2
      obtain ⟨s2, ok2⟩ := ok1.sealO e hq
      exact g _ _ _ _ _ (s1.trans s2) ok2 (.dct upd_same e2 (rv.mono s2)) h1
    · rename_i n fs e
      obtain ⟨H0', s2, ok2, r2⟩ := ok1.seal e
      exact g _ _ _ _ _ (s1.trans s2) ok2 r2 h1
    · exact h1.elim
  · exact g _ _ _ _ _ s1 ok1 r1 h1
end
end DL

namespace DL
open PySem L2
local macro_rules | `(tactic| walk_at "dl") => `(tactic| ((conv => whnf); try dsimp only))
local macro_rules | `(tactic| walk_at "sd") => `(tactic| first | trivial | exact Nat.zero_le _ | assumption | decide | omega | exact len_line (by first | decide | omega | (simp; done) | (simp; omega)) | (simp; done) | (simp; omega) | exact ⟨by decide, by decide, by decide⟩ | exact .inl ⟨by decide, by decide⟩ | exact .inl ⟨by omega, by omega⟩ | exact wide_div (b := 64) (by decide) (by decide) (by decide) (by decide))
local macro_rules | `(tactic| walk_at "go") => `(tactic| ((conv => whnf); (try dsimp only); repeat ((with_reducible refine And.intro ?_ ?_); (focus (walk_at "sd")); (conv => whnf); (try dsimp only))))
local macro_rules | `(tactic| walk_at "th") => `(tactic| repeat' (first | assumption | exact thD_txt _ _ | exact thD_int | exact thD_non | exact thD_bl | (refine thD_mono _ _ _ ?_ (by assumption); decide) | refine List.forall_mem_cons.mpr (And.intro ?_ ?_) | exact List.forall_mem_nil _ | refine thD_tup (by simp) ?_ | refine thD_lst (by simp) ?_))
local macro_rules | `(tactic| walk_at "ln") => `(tactic| (intro ds m Q PX h; repeat (obtain ⟨_, h⟩ := h); subst_vars; rfl))
structure Ws where
  part : Str
  deed : Option Str
  looks : Option (List Lk)
  name : Str
  least : Int
  most : Option Int
def Ws.d (w : Ws) : D := .ins "Wish" (wFs (.str w.part) (oS w.deed) (oL w.looks) (.str w.name) (.int w.least) (oN w.most))
def Ws.sees (w : Ws) (a b : Str) (ts : List Int) : Bool := forB w.part w.deed w.looks a b ts
def sp_Wish_is_fit : SpD := fun ds m P _ => ∃ (w : Ws) (a b : Str) (ts : List Int), ds = [w.d, askD a b ts] ∧ okLs w.looks ∧ ts.length ≤ 100 ∧ P (.bl (w.sees a b ts)) m
def rd_Wish_is_fit : DS :=
    sRet (rCall sp_is_for [] (rCons (rFld "Wish" "part" (rV 0)) (rCons (rFld "Wish" "deed" (rV 0)) (rCons (rFld "Wish" "looks" (rV 0)) (rCons (rV 1) (rNil))))))
theorem ln_Wish_is_fit : ∀ ds m Q PX, sp_Wish_is_fit ds m Q PX → ds.length = 2 := fun ds m Q PX h => by (repeat (obtain ⟨_, h⟩ := h)); subst_vars; rfl
theorem pu_Wish_is_fit : ∀ ds m Q PX, sp_Wish_is_fit ds m Q PX → rd_Wish_is_fit (dEnds Q PX) (dstart ["self", "ask"] ds) m := by
  rintro ds m Q PX ⟨w, a, b, ts, rfl, hl, ht, h⟩
  walk_at "go"
  exact ⟨w.part, w.deed, w.looks, a, b, ts, rfl, hl, ht, h⟩
theorem ask_of {d : D} (h : askB d = true) : ∃ a b ts, d = askD a b ts ∧ nmB a = true ∧ nmB b = true ∧ ts.length ≤ 2 := by
  unfold askB at h
  split at h
  · rename_i a b c
    simp only [Bool.and_eq_true] at h
    obtain ⟨h1, h2, h3⟩ := h
    cases a with
    | str a =>
      cases b with
      | str b =>
        cases c with
        | tup ts =>
          change (decide (ts.length ≤ 2) && ts.all isWhole) = true at h3
          rw [Bool.and_eq_true, decide_eq_true_eq] at h3
          obtain ⟨ns, rfl⟩ := wholes h3.2
          exact ⟨a, b, ns, rfl, h1, h2, by simpa using h3.1⟩
        | _ => cases h3
      | _ => cases h2
    | _ => cases h1
  · cases h
theorem ask_is {a b : Str} {ts : List Int} (h1 : nmB a = true) (h2 : nmB b = true) (h3 : ts.length ≤ 2) : askB (askD a b ts) = true := by
  show (nmB a && (nmB b && (decide ((ts.map D.int).length ≤ 2) && (ts.map D.int).all isWhole))) = true
  rw [h1, h2, all_whole, List.length_map, decide_eq_true h3]; rfl
def sp_Wish_fits : SpD := fun ds m P PX => ∃ (w : Ws) (x : D), ds = [w.d, x] ∧ okLs w.looks ∧ Thg x ∧ (askB x = false → PX "BadAsk" [("why", .str "no ask")] m) ∧ (∀ a b ts, x = askD a b ts → askB x = true → P (.bl (w.sees a b ts)) m)
def rd_Wish_fits : DS :=
    sSeq (sExpr (rCall sp_check_ask [] (rCons (rV 1) (rNil))))
    (sRet (rMet "Wish" "is_fit" sp_Wish_is_fit 1 0 (gI [0, 1]) (rV 0) (rCons (rV 1) (rNil)) (rNil)))
theorem ln_Wish_fits : ∀ ds m Q PX, sp_Wish_fits ds m Q PX → ds.length = 2 := fun ds m Q PX h => by (repeat (obtain ⟨_, h⟩ := h)); subst_vars; rfl
theorem pu_Wish_fits : ∀ ds m Q PX, sp_Wish_fits ds m Q PX → rd_Wish_fits (dEnds Q PX) (dstart ["self", "ask"] ds) m := by
  rintro ds m Q PX ⟨w, x, rfl, hl, hx, h1, h2⟩
  walk_at "go"
  refine ⟨x, rfl, hx, ?_⟩
  cases e : askB x with
  | false => exact h1 e
  | true =>
    obtain ⟨a, b, ts, rfl, _, _, ht⟩ := ask_of e
    walk_at "go"
    exact ⟨w, a, b, ts, rfl, hl, by omega, h2 a b ts rfl e⟩
def sp__law_checked_v2 : SpD := fun ds m P _ => ∃ d, ds = [d] ∧ Thg d ∧ P (match askB d with | true => .non | false => .str "refused") m
def rd__law_checked_v2 : DS :=
    sSeq (sSet 1 (rC (.str "other")))
    (sSeq (sTryA "TrialError" 2 (sSet 1 (rCall sp_check_ask [] (rCons (rV 0) (rNil)))) (fun xa xc xd => sSeq (sSet 3 (rCB (cIsX xa xc xd) (rCons (rV 2) (rCons (rTup (rCons (rC (.glb "BadLook")) (rCons (rC (.glb "BadPlan")) (rCons (rC (.glb "BadText")) (rCons (rC (.glb "BadWish")) (rNil)))))) (rNil)))))
    (sSet 1 (rOp oIx (rLst (rCons (rC (.str "odd")) (rCons (rC (.str "refused")) (rNil)))) (rCB cInt (rCons (rAndV (rCB (cIsX xa xc xd) (rCons (rV 2) (rCons (rC (.glb "BadAsk")) (rNil)))) (rAndV (rCB (cIsX xa xc xd) (rCons (rV 2) (rCons (rC (.ty "ValueError")) (rNil)))) (rNotV (rV 3)))) (rNil)))))))
    (sRet (rV 1)))
theorem ln__law_checked_v2 : ∀ ds m Q PX, sp__law_checked_v2 ds m Q PX → ds.length = 1 := fun ds m Q PX h => by (repeat (obtain ⟨_, h⟩ := h)); subst_vars; rfl
theorem pu__law_checked_v2 : ∀ ds m Q PX, sp__law_checked_v2 ds m Q PX → rd__law_checked_v2 (dEnds Q PX) (dstart ["_law_thing", "_law_told", "e", "_law_others"] ds) m := by
  rintro ds m Q PX ⟨d, rfl, hd, h⟩
  walk_at "go"
  refine ⟨d, rfl, hd, ?_⟩
  cases hb : askB d with
  | true => rw [hb] at h; exact h
  | false =>
    rw [hb] at h
    refine ⟨by decide, ?_⟩
    walk_at "dl"
    intro a C dd ha
    walk_at "go"
    exact h
def sp__law_fitted : SpD := fun ds m P _ => ∃ (w : Ws) (x : D), ds = [w.d, x] ∧ okLs w.looks ∧ Thg x ∧ (askB x = false → P (.str "refused") m) ∧ (∀ a b ts, x = askD a b ts → askB x = true → P (.bl (w.sees a b ts)) m)
def rd__law_fitted : DS :=
    sSeq (sSet 2 (rC (.str "other")))
    (sSeq (sTryO "BadAsk" (sSet 2 (rMet "Wish" "fits" sp_Wish_fits 1 0 (gI [0, 1]) (rV 0) (rCons (rV 1) (rNil)) (rNil))) (fun xa xc xd => sSet 2 (rC (.str "refused"))))
    (sRet (rV 2)))
theorem ln__law_fitted : ∀ ds m Q PX, sp__law_fitted ds m Q PX → ds.length = 2 := fun ds m Q PX h => by (repeat (obtain ⟨_, h⟩ := h)); subst_vars; rfl
theorem pu__law_fitted : ∀ ds m Q PX, sp__law_fitted ds m Q PX → rd__law_fitted (dEnds Q PX) (dstart ["_law_wish", "_law_thing", "_law_told"] ds) m := by
  rintro ds m Q PX ⟨w, x, rfl, hl, hx, h1, h2⟩
  walk_at "go"
  refine ⟨w, x, rfl, hl, hx, fun e => ?_, fun a b ts e1 e2 => h2 a b ts e1 e2⟩
  refine ⟨by decide, ?_⟩
  walk_at "dl"
  intro a C dd ha
  walk_at "go"
  exact h1 e
end DL

namespace DL
open PySem L2
local macro_rules | `(tactic| walk_at "dl") => `(tactic| ((conv => whnf); try dsimp only))
local macro_rules | `(tactic| walk_at "sd") => `(tactic| first | trivial | exact Nat.zero_le _ | assumption | decide | omega | exact len_line (by first | decide | omega | (simp; done) | (simp; omega)) | (simp; done) | (simp; omega) | exact ⟨by decide, by decide, by decide⟩ | exact .inl ⟨by decide, by decide⟩ | exact .inl ⟨by omega, by omega⟩ | exact wide_div (b := 64) (by decide) (by decide) (by decide) (by decide))
local macro_rules | `(tactic| walk_at "go") => `(tactic| ((conv => whnf); (try dsimp only); repeat ((with_reducible refine And.intro ?_ ?_); (focus (walk_at "sd")); (conv => whnf); (try dsimp only))))
local macro_rules | `(tactic| walk_at "th") => `(tactic| repeat' (first | assumption | exact thD_txt _ _ | exact thD_int | exact thD_non | exact thD_bl | (refine thD_mono _ _ _ ?_ (by assumption); decide) | refine List.forall_mem_cons.mpr (And.intro ?_ ?_) | exact List.forall_mem_nil _ | refine thD_tup (by simp) ?_ | refine thD_lst (by simp) ?_))
local macro_rules | `(tactic| walk_at "ln") => `(tactic| (intro ds m Q PX h; repeat (obtain ⟨_, h⟩ := h); subst_vars; rfl))
def abc : Str := "abcdefghijklmnopqrstuvwxyz"
theorem at_abc {c : Int} (h0 : 0 ≤ c) (h1 : c < 26) : atI (Str.ofString "abcdefghijklmnopqrstuvwxyz").cps.toList c = some (97 + c.toNat) := by
  have e : (Str.ofString "abcdefghijklmnopqrstuvwxyz").cps.toList = (List.range 26).map (97 + ·) := by decide +kernel
  obtain ⟨x, e1, e2⟩ := atI_some (xs := (Str.ofString "abcdefghijklmnopqrstuvwxyz").cps.toList) h0 (by rw [e, List.length_map, List.length_range]; exact h1)
  rw [e1, ← e2, e, List.getElem?_map, List.getElem?_range (by omega)]
  rfl
theorem low_at {c : Nat} (h : c < 26) : low (97 + c) = true := by
  unfold low; rw [Bool.and_eq_true, decide_eq_true_eq, decide_eq_true_eq]; omega
theorem len_app1 (x : Str) (c : Nat) : (x ++ (⟨#[c]⟩ : Str)).length = x.length + 1 := by rw [PySem.Str.length_append]; rfl
theorem low_app1 {x : Str} {c : Nat} (h : x.cps.toList.all low = true) (hc : low c = true) : (x ++ (⟨#[c]⟩ : Str)).cps.toList.all low = true := by
  rw [cps_app, List.all_append, h, Bool.true_and]
  show [c].all low = true
  simp [hc]
def isNms (n : Nat) (d : D) : Prop := ∃ xs : List Str, d = .lst (xs.map .str) ∧ xs.length = n ∧ (∀ x ∈ xs, nmB x = true) ∧ xs.Nodup
def sp__law_names : SpD := fun ds m P _ => ∃ (w : Addr) (n : Nat), ds = [.adr w, .int n] ∧ n ≤ 26 ∧ Dr w (1 + 8 * n) (isNms n) m P
def rd__law_names : DS :=
    sSeq (sSet 2 (rC (.str "abcdefghijklmnopqrstuvwxyz")))
    (sSeq (sSet 3 (rCall sp__law_draw [] (rCons (rV 0) (rCons (rC (.int 26)) (rNil)))))
    (sSeq (sSet 4 (rLstM (rNil)))
    (sSeq (sFor (iRange (rCons (rV 1) (rNil))) (gN 5) (sSeq (sSet 6 (rC (.str "")))
    (sSeq (sFor (iRange (rCons (rCall sp__law_draw [] (rCons (rV 0) (rCons (rC (.int 8)) (rNil)))) (rNil))) (gN 7) (sSet 6 (rOp oAdd (rV 6) (rOp oIx (rV 2) (rCall sp__law_draw [] (rCons (rV 0) (rCons (rC (.int 26)) (rNil))))))))
    (sExpr (rApp (rV 4) (rOp oAdd (rV 6) (rOp oIx (rV 2) (rOp oMod (rCB cInt (rCons (rOp oAdd (rV 3) (rOp oMul (rC (.int 3)) (rV 5))) (rNil))) (rC (.int 26))))))))))
    (sRet (rSeal (rV 4))))))
theorem ln__law_names : ∀ ds m Q PX, sp__law_names ds m Q PX → ds.length = 2 := fun ds m Q PX h => by (repeat (obtain ⟨_, h⟩ := h)); subst_vars; rfl
theorem rg_get {n : Nat} {lo : Int} {i : Nat} {d : D} (h : (rangeD lo n)[i]? = some d) : i < n ∧ d = .int (lo + i) := by
  unfold rangeD at h
  rw [List.getElem?_map] at h
  by_cases hi : i < n
  · rw [List.getElem?_range hi] at h; cases h; exact ⟨hi, rfl⟩
  · rw [List.getElem?_eq_none (by rw [List.length_range]; omega)] at h; cases h
theorem rg_len (lo : Int) (n : Nat) : (rangeD lo n).length = n := by unfold rangeD; rw [List.length_map, List.length_range]
def lastIs (f i : Nat) (x : Str) : Prop := x.cps.toList.getLast? = some (97 + (f + 3 * i) % 26)
theorem last_nodup {f : Nat} {xs : List Str} (hl : xs.length ≤ 26) (h : ∀ i x, xs[i]? = some x → lastIs f i x) : xs.Nodup := by
  rw [nodup_get]
  intro i x ei hm
  obtain ⟨j, hj⟩ := List.getElem?_of_mem hm
  have hji := (List.getElem?_eq_some_iff.mp hj).1
  have hii := (List.getElem?_eq_some_iff.mp ei).1
  rw [List.length_take] at hji
  rw [List.getElem?_take_of_lt (by omega)] at hj
  have e1 := h i x ei
  have e2 := h j x hj
  unfold lastIs at e1 e2
  rw [e1] at e2
  have := Option.some.inj e2
  omega
theorem pu__law_names : ∀ ds m Q PX, sp__law_names ds m Q PX → rd__law_names (dEnds Q PX) (dstart ["_law_well_here", "_law_many", "_law_letters", "_law_first", "_law_found", "_law_k", "_law_who", "_law_j"] ds) m := by
  rintro ds m Q PX ⟨w, n, rfl, hn, k, wl, hk, h⟩
  obtain ⟨N, hN⟩ : ∃ N : Int, N = (n : Nat) := ⟨_, rfl⟩
  rw [← hN]
  walk_at "go"
  refine ⟨w, 26, rfl, by decide, by decide, k, wl, by omega, fun d m1 hd kp1 w1 => ?_⟩
  obtain ⟨f, f0, f1, rfl⟩ := hd
  walk_at "go"
  intro q hq
  have hqw : q ≠ w := fun z => w1.some (by rw [← z]; exact hq)
  walk_at "go"
  refine loop_inv (fun i δ m' => ∃ (xs : List Str) (a5 a6 a7 : Option D), δ = [some (.adr w), some (.int N), some (.str (Str.ofString "abcdefghijklmnopqrstuvwxyz")), some (.int f), some (.adr q), a5, a6, a7] ∧ m' q = some (.lst (xs.map .str)) ∧ xs.length = i ∧ (∀ x ∈ xs, nmB x = true) ∧ (∀ j x, xs[j]? = some x → lastIs f.toNat j x) ∧ Wl m' w (k + 1 + 8 * i) ∧ Kp [w] m m') (fun i d δ m' e hh => ?_) (fun δ m' hh => ?_) ⟨[], _, _, _, rfl, mset_same, rfl, fun _ z => (List.not_mem_nil z).elim, fun j x z => (by simp at z), ?_, ?_⟩
  · obtain ⟨xs, a5, a6, a7, rfl, hmq, hl, hnm, hla, wi, kpi⟩ := hh
    obtain ⟨hi, rfl⟩ := rg_get e
    have hi' : i < n := by omega
    refine ⟨trivial, fun Nx k1 => ?_⟩
    walk_at "go"
    refine ⟨w, 8, rfl, by decide, by decide, _, wi, by omega, fun d m2 hd kp2 w2 => ?_⟩
    obtain ⟨r, r0, r1, rfl⟩ := hd
    walk_at "go"
    refine loop_inv (fun j δ m'' => ∃ (who : Str) (a7 : Option D), δ = [some (.adr w), some (.int N), some (.str (Str.ofString "abcdefghijklmnopqrstuvwxyz")), some (.int f), some (.adr q), some (.int (0 + i)), some (.str who), a7] ∧ who.cps.toList.all low = true ∧ who.length = j ∧ Wl m'' w (k + 1 + 8 * i + 1 + j) ∧ Kp [w] m2 m'') (fun j d δ m'' e hh => ?_) (fun δ m'' hh => ?_) ⟨_, _, rfl, rfl, rfl, w2, Kp.refl _ _⟩
    · obtain ⟨who, a7, rfl, hlo, hle, wj, kpj⟩ := hh
      obtain ⟨hj, rfl⟩ := rg_get e
      have hj' : j < 7 := by omega
      refine ⟨trivial, fun Nx k1 => ?_⟩
      walk_at "go"
      refine ⟨w, 26, rfl, by decide, by decide, _, wj, by omega, fun d m3 hd kp3 w3 => ?_⟩
      obtain ⟨c, c0, c1, rfl⟩ := hd
      have hs : ({ cps := #[97 + c.toNat] } : Str).length = 1 := rfl
      walk_at "go"
      rw [at_abc c0 c1]
      walk_at "go"
      refine k1 _ _ ⟨_, _, rfl, low_app1 hlo (low_at (by omega)), by rw [len_app1, hle], w3, kpj.trans kp3⟩
    · obtain ⟨who, a7, rfl, hlo, hle, wj, kpj⟩ := hh
      rw [rg_len] at hle wj
      have hm2 : m'' q = some (.lst (xs.map .str)) := kpj q _ (by simp [hqw]) (kp2 q _ (by simp [hqw]) hmq)
      refine ⟨trivial, ?_⟩
      walk_at "go"
      refine ⟨⟨_, hm2⟩, ?_⟩
      walk_at "go"
      have hmd : 0 ≤ (f + 3 * (0 + (i : Int))) % 26 ∧ (f + 3 * (0 + (i : Int))) % 26 < 26 := by omega
      have hs : ({ cps := #[97 + ((f + 3 * (0 + (i : Int))) % 26).toNat] } : Str).length = 1 := rfl
      have hl7 : who.length ≤ 7 := by omega
      rw [at_abc hmd.1 hmd.2]
      walk_at "go"
      rw [hm2]
      dsimp only
      refine ⟨len_line (by rw [List.length_map]; omega), ?_⟩
      have hlow := low_app1 hlo (low_at (c := ((f + 3 * (0 + (i : Int))) % 26).toNat) (by omega))
      refine k1 _ _ ⟨xs ++ [who ++ (⟨#[97 + ((f + 3 * (0 + (i : Int))) % 26).toNat]⟩ : Str)], _, _, _, rfl, ?_, by simp [hl], fun x hx => ?_, fun j x hx => ?_, ?_, ?_⟩
      · rw [mset_same]; simp
      · rcases List.mem_append.mp hx with hx | hx
        · exact hnm x hx
        · rw [List.mem_singleton.mp hx]
          unfold nmB
          rw [len_app1, hlow, decide_eq_true (by omega : 1 ≤ who.length + 1), decide_eq_true (by omega : who.length + 1 ≤ 8)]; rfl
      · by_cases hj : j < xs.length
        · rw [List.getElem?_append_left hj] at hx
          exact hla j x hx
        · rw [List.getElem?_append_right (by omega)] at hx
          have hj0 : j - xs.length = 0 := by
            have := (List.getElem?_eq_some_iff.mp hx).1
            simp at this; omega
          rw [hj0] at hx
          cases hx
          unfold lastIs
          rw [cps_app, List.getLast?_append]
          show some (97 + ((f + 3 * (0 + (i : Int))) % 26).toNat) = _
          congr 2
          omega
      · obtain ⟨a, b, c, e, z⟩ := (wj.mono (show _ ≤ k + 1 + 8 * (i + 1) by omega)).ex
        exact ⟨a, b, c, by rw [mset_ne hqw.symm]; exact e, z⟩
      · intro a o ha hao
        have hne : a ≠ q := fun z => by
          have := kp1 a o ha hao
          rw [z, hq] at this; cases this
        rw [mset_ne hne]
        exact kpj a o ha (kp2 a o ha (kpi a o ha hao))
  · obtain ⟨xs, a5, a6, a7, rfl, hmq, hl, hnm, hla, wi, kpi⟩ := hh
    rw [rg_len] at hl wi
    refine ⟨trivial, ?_⟩
    walk_at "go"
    rw [hmq]
    dsimp only
    refine h _ _ ⟨xs, rfl, by omega, hnm, last_nodup (by omega) hla⟩ (fun a o ha hao => ?_) ?_
    · have hne : a ≠ q := fun z => by
        have := kp1 a o ha hao
        rw [z, hq] at this; cases this
      unfold mdel
      rw [if_neg hne]
      exact kpi a o ha hao
    · obtain ⟨a, b, c, e, z⟩ := (wi.mono (show _ ≤ k + (1 + 8 * n) by omega)).ex
      exact ⟨a, b, c, by unfold mdel; rw [if_neg hqw.symm]; exact e, z⟩
  · obtain ⟨a, b, c, e, z⟩ := w1.ex
    exact ⟨a, b, c, by rw [mset_ne hqw.symm]; exact e, z⟩
  · exact kp1.trans (kp_new hq)
end DL

/-! # a tuple times an int -/
namespace DL
open PySem L2 PySem.Spec PyProof.Rows
theorem tuple_mul0 (l : Addr) (n : Nat) (dd : Option Addr) (sl : Array (Option Value)) (x : Int) (u : Tok) (c0 : (decide (x < -(2 ^ 63)) || decide (x ≥ 2 ^ 63)) = false) :
    Meets (Builtin.«tuple.__mul__» ⟨[.ref l, .int x u], []⟩) (fun _ R s => s.heap.get? l = some { cls := .type "tuple", dict := dd, data := .seq #[] n, slots := sl } ∧ R (.ok (.ret (Value.ref l))) s) :=
  .of_wp fun prog w A R s h => by
    obtain ⟨hp, g, d, tk, os⟩ := s
    obtain ⟨hl, h⟩ := h
    have f1 := AutoSeq1.idx_int
    wp_walk using wpAny_loadPart' hl
    refine wpAny_ite_false (decide_eq_false (by rw [c0]; exact Bool.false_ne_true)) ?_
    wp_walk using wpAny_loadPart' hl
    exact ⟨_, rfl, h⟩
def rRep0 (K : PySem.W.Frag) : R2 := fun x y H Q => ∃ l k, x = .ref l ∧ y = .int k ∧ SqT K H l [] ∧ 0 ≤ k ∧ k ≤ 1000 ∧ Q (.ref l) H
section
variable {X : Cx} {W : WX} {a b : Expr} {ra rb : DE} {pos : Pos}
theorem op_rep0 : OpR X (binaryOp .Mult) (rRep0 X.K) := by
  intro pins s σ H x y v u Q I rx ry h
  obtain ⟨l, k, rfl, rfl, hT, h1, h2, q⟩ := h
  cases rx
  obtain ⟨t, rfl⟩ := ry
  obtain ⟨its, r, ⟨⟨cls, dd, data, sl⟩, ho, hc, n, hd⟩, hs⟩ := I.tuple hT
  simp only at hc hd
  subst hc hd
  cases r
  have c0 : (decide (k < -(2 ^ 63)) || decide (k ≥ 2 ^ 63)) = false := by
    rw [decide_eq_false (by omega), decide_eq_false (by omega)] <;> rfl
  refine wpAny_binaryOp_repeat_ref (T := "tuple") (U := "int") (by decide) ⟨_, ho, rfl⟩ (fun s' => typeIs_int s' k t) noFill_tuple_mul F.fills_int_mul F.slot_int_rmul repeat_tuple F.slot_int_index.lookup
    (call_meets F.slot_int_rmul (typeIs_int s k t) F.entry_int_rmul (F.args_int_rmul_2 _ _) (int_rmul_tuple k t l _ n dd sl)
      ⟨ho, rfl, ⟨_, ho, rfl⟩, call_meets F.slot_tuple_mul ⟨_, ho, rfl⟩ F.entry_tuple_mul (F.args_tuple_mul_2 _ _) (tuple_mul0 l n dd sl k t c0) ⟨ho, ?_⟩⟩)
  exact ⟨V.ref l, H, I, rfl, q⟩
theorem RpL.rep {K : PySem.W.Frag} {H : Hp} {vs : List V} {ds : List D} (r : RpL K H vs ds) : ∀ n : Nat, RpL K H (List.replicate n vs).flatten (List.replicate n ds).flatten
  | 0 => .nil
  | n + 1 => by
    rw [List.replicate_succ, List.replicate_succ, List.flatten_cons, List.flatten_cons]
    exact r.append (RpL.rep r n)
def oMulT : DO := fun x y m P => match x, y with
  | .tup ds, .int k => (2 ≤ k ∧ k ≤ 1000 ∧ ds.length ≤ 1000) ∧ P (.tup (List.replicate k.toNat ds).flatten) m
  | _, _ => False
theorem flat_nil {α : Type} : ∀ n : Nat, (List.replicate n ([] : List α)).flatten = []
  | 0 => rfl
  | n + 1 => by rw [List.replicate_succ, List.flatten_cons, flat_nil n]; rfl
theorem mulT_ok : OpD X.K (fun x y H Q => rRepT X.K x y H Q ∨ rRep0 X.K x y H Q) oMulT := by
  intro F H0 m H x y dx dy P Q ok rx ry h g
  unfold oMulT at h
  split at h
  · rename_i ds k
    obtain ⟨⟨h1, h2, h3⟩, h⟩ := h
    obtain ⟨p, vs, rfl, q1, r1⟩ := tup_rp ok rx
    cases ry
    by_cases e : vs = []
    · subst e
      have h4 := r1.length
      have : ds = [] := List.eq_nil_of_length_eq_zero h4.symm
      subst this
      rw [flat_nil] at h
      exact .inr ⟨p, k, rfl, rfl, q1, by omega, h2, g.id ok rx h⟩
    · exact .inl ⟨p, k, vs, rfl, rfl, q1, e, h1, h2, by rw [r1.length]; exact h3, fun z hz => g.tup ok hz (r1.rep _) h⟩
  · exact h.elim
theorem pd_mulT (ha : PE X a (lE X.K W ra)) (hb : PE X b (lE X.K W rb)) : PE X (.BinOp a .Mult b pos) (lE X.K W (rOp oMulT ra rb)) := pd_op (op_repT.or op_rep0) mulT_ok ha hb
end
end DL

namespace DL
open PySem L2
local macro_rules | `(tactic| walk_at "dl") => `(tactic| ((conv => whnf); try dsimp only))
local macro_rules | `(tactic| walk_at "sd") => `(tactic| first | trivial | exact Nat.zero_le _ | assumption | decide | omega | exact len_line (by first | decide | omega | (simp; done) | (simp; omega)) | (simp; done) | (simp; omega) | exact ⟨by decide, by decide, by decide⟩ | exact .inl ⟨by decide, by decide⟩ | exact .inl ⟨by omega, by omega⟩ | exact wide_div (b := 64) (by decide) (by decide) (by decide) (by decide))
local macro_rules | `(tactic| walk_at "go") => `(tactic| ((conv => whnf); (try dsimp only); repeat ((with_reducible refine And.intro ?_ ?_); (focus (walk_at "sd")); (conv => whnf); (try dsimp only))))
local macro_rules | `(tactic| walk_at "th") => `(tactic| repeat' (first | assumption | exact thD_txt _ _ | exact thD_int | exact thD_non | exact thD_bl | (refine thD_mono _ _ _ ?_ (by assumption); decide) | refine List.forall_mem_cons.mpr (And.intro ?_ ?_) | exact List.forall_mem_nil _ | refine thD_tup (by simp) ?_ | refine thD_lst (by simp) ?_))
local macro_rules | `(tactic| walk_at "ln") => `(tactic| (intro ds m Q PX h; repeat (obtain ⟨_, h⟩ := h); subst_vars; rfl))
theorem nm_len {x : Str} (h : nmB x = true) : 1 ≤ x.length ∧ x.length ≤ 8 ∧ x.cps.toList.all low = true := by
  unfold nmB at h
  rw [Bool.and_eq_true, Bool.and_eq_true, decide_eq_true_eq, decide_eq_true_eq] at h
  exact ⟨h.1, h.2.1, h.2.2⟩
theorem nm_low {x : Str} (h : x.cps.toList.all low = true) : ∀ c ∈ x.cps.toList, c < 1114112 := fun c hc => by
  have := List.all_eq_true.mp h c hc
  unfold low at this
  rw [Bool.and_eq_true, decide_eq_true_eq, decide_eq_true_eq] at this
  omega
theorem thD_nm {n : Nat} {x : Str} (h : nmB x = true) : thD n (.str x) := by
  obtain ⟨_, h2, h3⟩ := nm_len h
  cases n <;> exact ⟨by omega, nm_low h3⟩
theorem thD_ints {n : Nat} {ts : List Int} (h : ts.length ≤ 10000) : thD (n + 1) (.tup (ts.map .int)) := ⟨by rw [List.length_map]; exact h, fun d hd => by obtain ⟨k, _, rfl⟩ := List.mem_map.mp hd; exact thD_int⟩
theorem Thg.of_mem {d : D} {xs : List D} (hd : d ∈ xs) (h : ∀ x ∈ xs, Thg x) : Thg d := h d hd
def sp__law_odd : SpD := fun ds m P _ => ∃ (w : Addr) (a b : Str) (ts : List Int), ds = [.adr w, askD a b ts] ∧ nmB a = true ∧ nmB b = true ∧ ts.length ≤ 2 ∧ Dr w 3 (fun d => Thg d) m P
def rd__law_odd : DS :=
    sSeq (sTup [5, 6, 7] (rV 1))
    (sSeq (sSet 2 (rCall sp__law_one [] (rCons (rV 0) (rCons (rLst (rCons (rC .non) (rCons (rC (.str "")) (rCons (rC (.str "Ab")) (rCons (rC (.str "a b")) (rCons (rC (.str "abcdefghi")) (rCons (rC (.str "a1")) (rCons (rC (.int 0)) (rCons (rC (.bl true)) (rCons (rTup (rCons (rC (.str "a")) (rNil))) (rCons (rLst (rCons (rC (.str "a")) (rNil))) (rCons (rC (.str "a\n")) (rCons (rOp oAdd (rV 5) (rC (.str "z"))) (rNil)))))))))))))) (rNil)))))
    (sSeq (sSet 3 (rCall sp__law_one [] (rCons (rV 0) (rCons (rLst (rCons (rC .non) (rCons (rC (.bl true)) (rCons (rC (.bl false)) (rCons (rC (.str "1")) (rCons (rTup (rCons (rC (.int 1)) (rNil))) (rCons (rLst (rCons (rC (.int 1)) (rNil))) (rCons (rC (.int 7)) (rCons (rNeg (rC (.int 7))) (rNil)))))))))) (rNil)))))
    (sSeq (sSet 4 (rLst (rCons (rTup (rCons (rV 2) (rCons (rV 6) (rCons (rV 7) (rNil))))) (rCons (rTup (rCons (rV 5) (rCons (rV 2) (rCons (rV 7) (rNil))))) (rCons (rTup (rCons (rV 5) (rCons (rV 6) (rCons (rV 2) (rNil))))) (rCons (rTup (rCons (rV 5) (rCons (rV 6) (rCons (rCB cLst (rCons (rV 7) (rNil))) (rNil))))) (rCons (rTup (rCons (rV 5) (rCons (rV 6) (rNil)))) (rNil))))))))
    (sSeq (sSet 4 (rOp oAdd (rV 4) (rLst (rCons (rOp oAdd (rV 1) (rTup (rCons (rTup (rNil)) (rNil)))) (rCons (rCB cLst (rCons (rV 1) (rNil))) (rCons (rTup (rCons (rV 5) (rCons (rV 6) (rCons (rOp oAdd (rV 7) (rTup (rCons (rV 3) (rNil)))) (rNil))))) (rCons (rTup (rCons (rV 5) (rCons (rV 6) (rCons (rOp oAdd (rTup (rCons (rV 3) (rNil))) (rV 7)) (rNil))))) (rCons (rC .non) (rCons (rTup (rNil)) (rNil))))))))))
    (sSeq (sSet 4 (rOp oAdd (rV 4) (rLst (rCons (rTup (rCons (rV 5) (rCons (rV 6) (rCons (rOp oMulT (rV 7) (rC (.int 2))) (rNil))))) (rCons (rOp oAdd (rTup (rCons (rV 5) (rCons (rV 6) (rNil)))) (rV 7)) (rCons (rTup (rCons (rV 6) (rCons (rV 5) (rCons (rV 7) (rNil))))) (rCons (rC (.str "ask")) (rCons (rTup (rCons (rV 7) (rCons (rV 6) (rCons (rV 5) (rNil))))) (rNil)))))))))
    (sSeq (sSet 4 (rOp oAdd (rV 4) (rLst (rCons (rTup (rCons (rV 5) (rCons (rV 6) (rCons (rTup (rCons (rV 3) (rNil))) (rNil))))) (rCons (rDct0) (rCons (rTup (rCons (rV 5) (rCons (rV 6) (rCons (rSl (rV 7) rNoP (rPart (rC (.int 1)))) (rNil))))) (rNil)))))))
    (sRet (rCall sp__law_one [] (rCons (rV 0) (rCons (rV 4) (rNil)))))))))))
theorem ln__law_odd : ∀ ds m Q PX, sp__law_odd ds m Q PX → ds.length = 2 := fun ds m Q PX h => by (repeat (obtain ⟨_, h⟩ := h)); subst_vars; rfl
theorem pu__law_odd : ∀ ds m Q PX, sp__law_odd ds m Q PX → rd__law_odd (dEnds Q PX) (dstart ["_law_well_here", "_law_call", "_law_odd_here", "_law_thing", "_law_some", "_law_part", "_law_deed", "_law_things"] ds) m := by
  rintro ds m Q PX ⟨w, a, b, ts, rfl, ha, hb, ht, h⟩
  have la := (nm_len ha).2.1
  have lb := (nm_len hb).2.1
  have lz : (Str.ofString "z").length = 1 := rfl
  walk_at "go"
  have haz : thD 0 (.str (a ++ Str.ofString "z")) := ⟨by rw [PySem.Str.length_append, lz]; omega, fun c hc => by
    rw [cps_app] at hc
    rcases List.mem_append.mp hc with hc | hc
    · exact nm_low (nm_len ha).2.2 c hc
    · exact (thD_txt "z" 0).2 c hc⟩
  have ta : thD 0 (.str a) := thD_nm ha
  have tb : thD 0 (.str b) := thD_nm hb
  have tt : thD 1 (.tup (ts.map .int)) := thD_ints (by omega)
  refine ⟨w, _, _, rfl, .inl rfl, by simp, by simp, h.sub (by decide) fun odd m2 ho kp2 h => ?_⟩
  have ho1 : thD 3 odd := by
    refine (?_ : ∀ d ∈ _, thD 3 d) odd ho
    walk_at "th"
  clear ho
  walk_at "go"
  refine ⟨w, _, _, rfl, .inl rfl, by simp, by simp, h.sub (by decide) fun odd2 m3 ho kp3 h => ?_⟩
  have ho2 : thD 3 odd2 := by
    refine (?_ : ∀ d ∈ _, thD 3 d) odd2 ho
    walk_at "th"
  clear ho
  walk_at "go"
  refine ⟨w, _, _, rfl, .inl rfl, by simp, by simp, h.imp (fun d hd => ?_) fun d m' _ _ p => p⟩
  have ti : ∀ {n : Nat}, ∀ d ∈ ts.map D.int, thD n d := fun {n} d hd => by obtain ⟨k, _, rfl⟩ := List.mem_map.mp hd; exact thD_int
  have lm : (ts.map D.int).length = ts.length := List.length_map _
  have hone : ∀ d ∈ [odd2], thD 3 d := by walk_at "th"
  have hab : ∀ d ∈ [D.str a, D.str b], thD 3 d := by walk_at "th"
  have x1 : thD 4 (.tup (ts.map .int ++ [odd2])) := thD_app ti hone (by simp; omega)
  have x2 : thD 4 (.tup ([odd2] ++ ts.map .int)) := thD_app hone ti (by simp; omega)
  have x3 : thD 4 (.tup (List.replicate (Int.toNat 2) (ts.map D.int)).flatten) := ⟨by rw [List.length_flatten, List.map_replicate, lm]; show ts.length + (ts.length + 0) ≤ 10000; omega, fun d hd => by
    obtain ⟨l, hl, hd⟩ := List.mem_flatten.mp hd
    rw [List.eq_of_mem_replicate hl] at hd
    exact ti d hd⟩
  have x4 : thD 4 (.tup ([.str a, .str b] ++ ts.map .int)) := thD_app hab ti (by simp; omega)
  have x5 : thD 4 (.tup (cutD (ts.map .int) none (some 1))) := ⟨Nat.le_trans (cut_len _ _ _) (by omega), fun d hd => ti d (cut_mem hd)⟩
  have x6 : thD 4 (.lst (ts.map .int)) := ⟨by omega, ti⟩
  refine (?_ : ∀ d ∈ _, Thg d) d hd
  repeat' (first | refine List.forall_mem_append.mpr (And.intro ?_ ?_) | refine List.forall_mem_cons.mpr (And.intro ?_ ?_) | exact List.forall_mem_nil _)
  all_goals first | exact .inr ⟨_, rfl⟩ | (refine thg_of (n := 12) ?_; walk_at "th")
end DL

namespace DL
open PySem L2
local macro_rules | `(tactic| walk_at "dl") => `(tactic| ((conv => whnf); try dsimp only))
local macro_rules | `(tactic| walk_at "sd") => `(tactic| first | trivial | exact Nat.zero_le _ | assumption | decide | omega | exact len_line (by first | decide | omega | (simp; done) | (simp; omega)) | (simp; done) | (simp; omega) | exact ⟨by decide, by decide, by decide⟩ | exact .inl ⟨by decide, by decide⟩ | exact .inl ⟨by omega, by omega⟩ | exact wide_div (b := 64) (by decide) (by decide) (by decide) (by decide))
local macro_rules | `(tactic| walk_at "go") => `(tactic| ((conv => whnf); (try dsimp only); repeat ((with_reducible refine And.intro ?_ ?_); (focus (walk_at "sd")); (conv => whnf); (try dsimp only))))
local macro_rules | `(tactic| walk_at "th") => `(tactic| repeat' (first | assumption | exact thD_txt _ _ | exact thD_int | exact thD_non | exact thD_bl | (refine thD_mono _ _ _ ?_ (by assumption); decide) | refine List.forall_mem_cons.mpr (And.intro ?_ ?_) | exact List.forall_mem_nil _ | refine thD_tup (by simp) ?_ | refine thD_lst (by simp) ?_))
local macro_rules | `(tactic| walk_at "ln") => `(tactic| (intro ds m Q PX h; repeat (obtain ⟨_, h⟩ := h); subst_vars; rfl))
/-! ### wishes, good ones -/
structure Ws.Pre (W : Ws) : Prop where
  part : nmB W.part = true
  deed : ∀ x, W.deed = some x → nmB x = true
  looks : ∀ ls, W.looks = some ls → ls.length ≤ 2 ∧ ∀ l ∈ ls, l.Good 142
  name : nmB W.name = true
  least : 0 ≤ W.least ∧ W.least ≤ 4
  most : ∀ h, W.most = some h → 0 ≤ h ∧ h ≤ 4
structure Ws.Ok (W : Ws) : Prop extends W.Pre where
  cnt : ∀ h, W.most = some h → W.least ≤ h
def Ws.row (W : Ws) : D := .tup [.str W.part, oS W.deed, oL W.looks, .str W.name, .int W.least, oN W.most]
theorem thD_oS {n : Nat} {x : Option Str} (h : ∀ y, x = some y → nmB y = true) : thD n (oS x) := by
  cases x with
  | none => exact thD_non
  | some y => exact thD_nm (h y rfl)
theorem thD_oN {n : Nat} {x : Option Int} : thD n (oN x) := by
  cases x with
  | none => exact thD_non
  | some y => exact thD_int
theorem Lk.Good.th {b : Nat} {l : Lk} (h : l.Good b) : thD 3 l.d := thD_mono _ 3 _ (by have := h.dp; omega) (l.th h.few)
theorem thD_oL {x : Option (List Lk)} (h : ∀ ls, x = some ls → ls.length ≤ 2 ∧ ∀ l ∈ ls, l.Good 142) : thD 4 (oL x) := by
  cases x with
  | none => exact thD_non
  | some ls =>
    obtain ⟨h1, h2⟩ := h ls rfl
    exact ⟨by rw [List.length_map]; omega, fun d hd => by
      obtain ⟨l, hl, rfl⟩ := List.mem_map.mp hd
      exact (h2 l hl).th⟩
theorem Ws.Pre.nm {W : Ws} (h : W.Pre) : (nmD (.str W.part) && ((isNone (oS W.deed) || nmD (oS W.deed)) && nmD (.str W.name))) = true := by
  show (nmB W.part && ((isNone (oS W.deed) || nmD (oS W.deed)) && nmB W.name)) = true
  rw [h.part, h.name, Bool.true_and, Bool.and_true]
  cases e : W.deed with
  | none => rfl
  | some x => exact h.deed x e
theorem looks_ok {x : Option (List Lk)} (h : ∀ ls, x = some ls → ls.length ≤ 2 ∧ ∀ l ∈ ls, l.Good 142) : looksB (oL x) = true := by
  cases x with
  | none => rfl
  | some ls =>
    obtain ⟨h1, h2⟩ := h ls rfl
    show (decide ((ls.map Lk.d).length ≤ 2) && (ls.map Lk.d).all lookB) = true
    rw [List.length_map, decide_eq_true h1, Bool.true_and, List.all_eq_true]
    intro d hd
    obtain ⟨l, hl, rfl⟩ := List.mem_map.mp hd
    exact (h2 l hl).look
theorem Ws.Ok.cnts {W : Ws} (h : W.Ok) : cntsB (.int W.least) (oN W.most) = true := by
  have h1 := h.least
  have h0 : cntB (.int W.least) 0 = true := by
    show (decide (0 ≤ W.least) && decide (W.least ≤ 4)) = true
    rw [decide_eq_true h1.1, decide_eq_true h1.2]; rfl
  show (cntB (.int W.least) 0 && (isNone (oN W.most) || cntB (oN W.most) W.least)) = true
  rw [h0, Bool.true_and]
  cases e : W.most with
  | none => rfl
  | some k =>
    show (false || (decide (W.least ≤ k) && decide (k ≤ 4))) = true
    rw [decide_eq_true (h.cnt k e), decide_eq_true (h.most k e).2]; rfl
theorem Ws.Pre.okLs {W : Ws} (h : W.Pre) : okLs W.looks := fun ls e => ⟨(h.looks ls e).1, fun l hl => ((h.looks ls e).2 l hl).dp⟩
theorem mk_wish {m : Mu} {q : Addr} {P : DK} {PX : DX} {a b c e f g : D} (hq : m q = none) (h1 : Thg a) (h2 : Thg b) (h3 : Thg c) (h4 : Thg e) (h5 : Thg f) (h6 : Thg g)
    (h : wOut (nmD a && ((isNone b || nmD b) && nmD e)) (looksB c) (cntsB f g) (P (.ins "Wish" (wFs a b c e f g)) m) (fun y => PX "BadWish" [("why", .str y)] m)) :
    sp_Wish___init__ [.adr q, a, b, c, e, f, g] (mset m q (.ins "Wish" [])) (fun v m3 => v = .non ∧ ∃ fs, m3 q = some (.ins "Wish" fs) ∧ P (.ins "Wish" fs) (mdel m3 q)) (fun c fs m3 => PX c fs (mdel m3 q)) := by
  refine ⟨q, a, b, c, e, f, g, rfl, mset_same, h1, h2, h3, h4, h5, h6, ?_⟩
  rw [mset_mset]
  dsimp only
  rw [mdel_mset hq, mdel_mset hq]
  cases e1 : nmD a && ((isNone b || nmD b) && nmD e) <;> cases e2 : looksB c <;> cases e3 : cntsB f g <;> (rw [e1, e2, e3] at h; first | exact h | exact ⟨rfl, _, mset_same, h⟩)
def Ws.cap (W : Ws) : Int := match W.most with
  | none => if 1 > W.least then 1 else W.least
  | some h => h
def sp_Wish_cap : SpD := fun ds m P _ => ∃ W : Ws, ds = [W.d] ∧ P (.int W.cap) m
def rd_Wish_cap : DS :=
    sSeq (sIf (rTst (rOp (oIsN false) (rFld "Wish" "most" (rV 0)) (rC .non))) (sRet (rCB cMax (rCons (rFld "Wish" "least" (rV 0)) (rCons (rC (.int 1)) (rNil))))) (sNext))
    (sRet (rFld "Wish" "most" (rV 0)))
theorem ln_Wish_cap : ∀ ds m Q PX, sp_Wish_cap ds m Q PX → ds.length = 1 := fun ds m Q PX h => by (repeat (obtain ⟨_, h⟩ := h)); subst_vars; rfl
theorem pu_Wish_cap : ∀ ds m Q PX, sp_Wish_cap ds m Q PX → rd_Wish_cap (dEnds Q PX) (dstart ["self"] ds) m := by
  rintro ds m Q PX ⟨⟨p, d, l, n, le, mo⟩, rfl, h⟩
  cases mo with
  | none =>
    exact h
  | some k => exact h
theorem valD_none {kvs : List (Key × D)} {k : Key} (h : k ∉ kvs.map (·.1)) : valD kvs k = none := by
  induction kvs with
  | nil => exact valD_nil
  | cons p r ih =>
    rw [List.map_cons, List.mem_cons, not_or] at h
    rw [valD_neg (fun e => h.1 e.symm)]
    exact ih h.2
theorem merge_nd : ∀ (ps acc : List (Key × D)), ((acc ++ ps).map (·.1)).Nodup → mergeD acc ps = acc ++ ps
  | [], acc, _ => by simp [mergeD]
  | p :: ps, acc, h => by
    have h1 : putD acc p.1 p.2 = acc ++ [p] := putD_new (valD_none fun z => by
      rw [List.map_append, List.map_cons, List.nodup_append] at h
      exact h.2.2 p.1 z p.1 List.mem_cons_self rfl)
    show mergeD (putD acc p.1 p.2) ps = _
    rw [h1, merge_nd ps (acc ++ [p]) (by simpa using h)]
    simp
def wDct (a b c : D) : D := .dct [(.inr "parts", a), (.inr "deeds", b), (.inr "mids", c)]
theorem kne1 : ¬ (Sum.inr (Str.ofString "parts") : Key) = .inr (Str.ofString "deeds") := by decide
theorem kne2 : ¬ (Sum.inr (Str.ofString "parts") : Key) = .inr (Str.ofString "mids") := by decide
theorem kne3 : ¬ (Sum.inr (Str.ofString "deeds") : Key) = .inr (Str.ofString "mids") := by decide
theorem wd_parts (a b c : D) : valD [((.inr "parts" : Key), a), (.inr "deeds", b), (.inr "mids", c)] (.inr "parts") = some a := valD_pos rfl
theorem wd_deeds (a b c : D) : valD [((.inr "parts" : Key), a), (.inr "deeds", b), (.inr "mids", c)] (.inr "deeds") = some b := by rw [valD_neg kne1]; exact valD_pos rfl
theorem wd_mids (a b c : D) : valD [((.inr "parts" : Key), a), (.inr "deeds", b), (.inr "mids", c)] (.inr "mids") = some c := by rw [valD_neg kne2, valD_neg kne3]; exact valD_pos rfl
def isWorld (d : D) : Prop := ∃ (ps ds : List Str) (ms : List Int), d = wDct (.lst (ps.map .str)) (.lst (ds.map .str)) (.lst (ms.map .int)) ∧ (0 < ps.length ∧ ps.length ≤ 2) ∧ (0 < ds.length ∧ ds.length ≤ 3) ∧ (∀ x ∈ ps ++ ds, nmB x = true) ∧ (ps ++ ds).Nodup ∧ ms.length = 3 ∧ ∀ n ∈ ms, Bd 140 n
def sp__law_world : SpD := fun ds m P _ => ∃ w : Addr, ds = [.adr w] ∧ Dr w 53 isWorld m P
def rd__law_world : DS :=
    sSeq (sSet 1 (rCall sp__law_names [] (rCons (rV 0) (rCons (rC (.int 5)) (rNil)))))
    (sSeq (sSet 2 (rSl (rV 1) rNoP (rPart (rOp oAdd (rC (.int 1)) (rCall sp__law_draw [] (rCons (rV 0) (rCons (rC (.int 2)) (rNil))))))))
    (sRet (rDctN [(rC (.str "parts"), rV 2), (rC (.str "deeds"), rSl (rV 1) (rPart (rC (.int 2))) (rPart (rOp oAdd (rC (.int 3)) (rCall sp__law_draw [] (rCons (rV 0) (rCons (rC (.int 3)) (rNil))))))), (rC (.str "mids"), rCall sp__law_mids [] (rCons (rV 0) (rNil)))])))
theorem ln__law_world : ∀ ds m Q PX, sp__law_world ds m Q PX → ds.length = 1 := fun ds m Q PX h => by (repeat (obtain ⟨_, h⟩ := h)); subst_vars; rfl
theorem pu__law_world : ∀ ds m Q PX, sp__law_world ds m Q PX → rd__law_world (dEnds Q PX) (dstart ["_law_well_here", "_law_names_here", "_law_parts"] ds) m := by
  rintro ds m Q PX ⟨w, rfl, h⟩
  walk_at "go"
  refine ⟨w, 5, rfl, by decide, h.sub (by decide) fun d m1 hd kp1 h => ?_⟩
  obtain ⟨xs, rfl, hl, hnm, hnd⟩ := hd
  match xs, hl, hnm, hnd with
  | [x0, x1, x2, x3, x4], _, hnm, hnd =>
  walk_at "go"
  refine h.num (by decide) (by decide) (by decide) fun r m2 r0 r1 kp2 h => ?_
  obtain ⟨ps, hps, hp1, hp2⟩ : ∃ ps : List Str, cutD (List.map D.str [x0, x1, x2, x3, x4]) none (some (1 + r)) = ps.map D.str ∧ (0 < ps.length ∧ ps.length ≤ 2) ∧ ps.Sublist [x0, x1] := by
    obtain rfl | rfl : r = 0 ∨ r = 1 := by omega
    · exact ⟨[x0], rfl, ⟨by simp, by simp⟩, by simp⟩
    · exact ⟨[x0, x1], rfl, ⟨by simp, by simp⟩, by simp⟩
  walk_at "go"
  refine h.num (by decide) (by decide) (by decide) fun s m3 s0 s1 kp3 h => ?_
  obtain ⟨es, hes, he1, he2⟩ : ∃ ps : List Str, cutD (List.map D.str [x0, x1, x2, x3, x4]) (some 2) (some (3 + s)) = ps.map D.str ∧ (0 < ps.length ∧ ps.length ≤ 3) ∧ ps.Sublist [x2, x3, x4] := by
    obtain rfl | rfl | rfl : s = 0 ∨ s = 1 ∨ s = 2 := by omega
    · exact ⟨[x2], rfl, ⟨by simp, by simp⟩, by simp⟩
    · exact ⟨[x2, x3], rfl, ⟨by simp, by simp⟩, by simp⟩
    · exact ⟨[x2, x3, x4], rfl, ⟨by simp, by simp⟩, by simp⟩
  walk_at "go"
  refine ⟨w, rfl, h.sub (by decide) fun d m4 hd kp4 h => ?_⟩
  obtain ⟨ms, rfl, hml, hmb⟩ := hd
  walk_at "go"
  rw [hps, hes]
  refine h.done ⟨ps, es, ms, congrArg D.dct (merge_nd _ [] (by show [(.inr "parts" : Key), .inr "deeds", .inr "mids"].Nodup; decide)), hp1, he1, fun x hx => hnm x ?_, List.Sublist.nodup (hp2.append he2) hnd, hml, hmb⟩
  exact (hp2.append he2).subset hx
def okC (lo : Int) (hi : Option Int) : Prop := (0 ≤ lo ∧ lo ≤ 4) ∧ ∀ h, hi = some h → lo ≤ h ∧ h ≤ 4
def sp__law_counts : SpD := fun ds m P _ => ∃ w : Addr, ds = [.adr w] ∧ Dr w 3 (fun d => ∃ lo hi, d = .tup [.int lo, oN hi] ∧ okC lo hi) m P
def rd__law_counts : DS :=
    sSeq (sSet 1 (rCall sp__law_draw [] (rCons (rV 0) (rCons (rC (.int 3)) (rNil)))))
    (sSeq (sSet 2 (rLst (rCons (rTup (rCons (rC (.int 1)) (rCons (rC (.int 1)) (rNil)))) (rCons (rTup (rCons (rC (.int 1)) (rCons (rC (.int 1)) (rNil)))) (rCons (rTup (rCons (rC (.int 0)) (rCons (rC (.int 1)) (rNil)))) (rCons (rTup (rCons (rC (.int 1)) (rCons (rC .non) (rNil)))) (rCons (rTup (rCons (rC (.int 0)) (rCons (rC (.int 0)) (rNil)))) (rCons (rTup (rCons (rV 1) (rCons (rOp oAdd (rV 1) (rCall sp__law_draw [] (rCons (rV 0) (rCons (rC (.int 3)) (rNil))))) (rNil)))) (rCons (rTup (rCons (rV 1) (rCons (rC .non) (rNil)))) (rCons (rTup (rCons (rC (.int 2)) (rCons (rC (.int 4)) (rNil)))) (rNil)))))))))))
    (sRet (rCall sp__law_one [] (rCons (rV 0) (rCons (rV 2) (rNil))))))
theorem ln__law_counts : ∀ ds m Q PX, sp__law_counts ds m Q PX → ds.length = 1 := fun ds m Q PX h => by (repeat (obtain ⟨_, h⟩ := h)); subst_vars; rfl
theorem pu__law_counts : ∀ ds m Q PX, sp__law_counts ds m Q PX → rd__law_counts (dEnds Q PX) (dstart ["_law_well_here", "_law_low", "_law_some"] ds) m := by
  rintro ds m Q PX ⟨w, rfl, h⟩
  walk_at "go"
  refine h.num (by decide) (by decide) (by decide) fun r m1 r0 r1 kp1 h => ?_
  walk_at "go"
  refine h.num (by decide) (by decide) (by decide) fun s m2 s0 s1 kp2 h => ?_
  walk_at "go"
  refine ⟨w, _, _, rfl, .inl rfl, by simp, by simp, h.imp (fun d hd => ?_) fun d m' _ _ p => p⟩
  refine (?_ : ∀ d ∈ _, ∃ lo hi, d = D.tup [.int lo, oN hi] ∧ okC lo hi) d hd
  have c : ∀ (lo hi : Int), 0 ≤ lo → lo ≤ hi → hi ≤ 4 → ∃ l h, D.tup [.int lo, .int hi] = D.tup [.int l, oN h] ∧ okC l h := fun lo hi h0 h1 h2 => ⟨lo, some hi, rfl, ⟨h0, by omega⟩, fun k e => by cases e; exact ⟨h1, h2⟩⟩
  have c2 : ∀ (lo : Int), 0 ≤ lo → lo ≤ 4 → ∃ l h, D.tup [.int lo, .non] = D.tup [.int l, oN h] ∧ okC l h := fun lo h0 h1 => ⟨lo, none, rfl, ⟨h0, h1⟩, fun k e => by cases e⟩
  repeat' (first | refine List.forall_mem_cons.mpr (And.intro ?_ ?_) | exact List.forall_mem_nil _)
  all_goals first | exact c _ _ (by omega) (by omega) (by omega) | exact c2 _ (by omega) (by omega)
def sp__law_wish_row : SpD := fun ds m P _ => ∃ (w : Addr) (wd : D) (who : Str), ds = [.adr w, wd, .str who] ∧ isWorld wd ∧ nmB who = true ∧ Dr w 48 (fun d => ∃ W : Ws, d = W.row ∧ W.Ok) m P
def rd__law_wish_row : DS :=
    sSeq (sSet 3 (rOp oIx (rLst (rCons (rC .non) (rCons (rCall sp__law_one [] (rCons (rV 0) (rCons (rOp oDGet (rV 1) (rC (.str "deeds"))) (rNil)))) (rNil)))) (rCB cInt (rCons (rOp oGt (rCall sp__law_draw [] (rCons (rV 0) (rCons (rC (.int 4)) (rNil)))) (rC (.int 0))) (rNil)))))
    (sSeq (sSet 4 (rOp oIx (rLst (rCons (rC (.int 1)) (rCons (rC (.int 1)) (rCons (rC (.int 1)) (rCons (rC (.int 0)) (rCons (rC (.int 2)) (rNil))))))) (rCall sp__law_draw [] (rCons (rV 0) (rCons (rC (.int 5)) (rNil))))))
    (sSeq (sSet 5 (rCB cTup (rCons (rLc (iRange (rCons (rV 4) (rNil))) [8] (gN 8) (qYes) (rCall sp__law_look [] (rCons (rV 0) (rCons (rOp oDGet (rV 1) (rC (.str "mids"))) (rNil))))) (rNil))))
    (sSeq (sSet 5 (rOp oIx (rLst (rCons (rV 5) (rCons (rV 5) (rCons (rV 5) (rCons (rC .non) (rNil)))))) (rCall sp__law_draw [] (rCons (rV 0) (rCons (rC (.int 4)) (rNil))))))
    (sSeq (sTup [6, 7] (rCall sp__law_counts [] (rCons (rV 0) (rNil))))
    (sRet (rTup (rCons (rCall sp__law_one [] (rCons (rV 0) (rCons (rOp oDGet (rV 1) (rC (.str "parts"))) (rNil)))) (rCons (rV 3) (rCons (rV 5) (rCons (rV 2) (rCons (rV 6) (rCons (rV 7) (rNil)))))))))))))
theorem ln__law_wish_row : ∀ ds m Q PX, sp__law_wish_row ds m Q PX → ds.length = 3 := fun ds m Q PX h => by (repeat (obtain ⟨_, h⟩ := h)); subst_vars; rfl
theorem pu__law_wish_row : ∀ ds m Q PX, sp__law_wish_row ds m Q PX → rd__law_wish_row (dEnds Q PX) (dstart ["_law_well_here", "_law_world_here", "_law_who", "_law_act", "_law_many", "_law_sights", "_law_low", "_law_high", "_law_k"] ds) m := by
  rintro ds m Q PX ⟨w, wd, who, rfl, ⟨ps, es, ms, rfl, hp, he, hnm, hnd, hml, hmb⟩, hwho, h⟩
  walk_at "go"
  rw [wd_deeds]
  walk_at "go"
  refine ⟨w, _, _, rfl, .inl rfl, by simp; omega, by simp; omega, h.sub (by decide) fun d m1 hd kp1 h => ?_⟩
  obtain ⟨ed, hed, rfl⟩ := List.mem_map.mp hd
  clear hd
  have hed2 := hnm ed (List.mem_append_right _ hed)
  walk_at "go"
  refine h.num (by decide) (by decide) (by decide) fun r m2 r0 r1 kp2 h => ?_
  walk_at "go"
  obtain ⟨act, hact, hact2⟩ : ∃ act : Option Str, atI [D.non, .str ed] (if decide (0 < r) = true then 1 else 0) = some (oS act) ∧ ∀ x, act = some x → nmB x = true := by
    cases decide (0 < r) with
    | true => exact ⟨some ed, rfl, fun x e => by cases e; exact hed2⟩
    | false => exact ⟨none, rfl, fun x e => by cases e⟩
  rw [hact]
  walk_at "go"
  refine h.num (by decide) (by decide) (by decide) fun s m3 s0 s1 kp3 h => ?_
  walk_at "go"
  obtain ⟨many, hmany, hm0, hm2⟩ : ∃ many : Int, atI [D.int 1, .int 1, .int 1, .int 0, .int 2] s = some (.int many) ∧ 0 ≤ many ∧ many ≤ 2 := by
    obtain rfl | rfl | rfl | rfl | rfl : s = 0 ∨ s = 1 ∨ s = 2 ∨ s = 3 ∨ s = 4 := by omega
    all_goals first | exact ⟨1, rfl, by decide, by decide⟩ | exact ⟨0, rfl, by decide, by decide⟩ | exact ⟨2, rfl, by decide, by decide⟩
  rw [hmany]
  walk_at "go"
  obtain ⟨k, wl, hk, h⟩ := h
  refine comp_inv (fun i acc m' => Wl m' w (k + 20 * i) ∧ Kp [w] m3 m' ∧ ∃ ls : List Lk, acc = ls.map Lk.d ∧ ls.length = i ∧ ∀ l ∈ ls, l.Good 142) (fun i acc m' hh => ?_) (by rw [rg_len]; omega) (fun i d acc m' e hh => ?_) (fun acc m4 hh => ?_) ⟨wl, Kp.refl _ _, [], rfl, rfl, fun _ z => by cases z⟩
  · obtain ⟨_, _, ls, rfl, hl, _⟩ := hh
    rw [List.length_map, hl]; exact Nat.le_refl _
  · obtain ⟨wi, kpi, ls, rfl, hl, hg⟩ := hh
    obtain ⟨hi, rfl⟩ := rg_get e
    refine ⟨trivial, fun Kt Kf k1 _ => ?_⟩
    walk_at "go"
    rw [wd_mids]
    refine ⟨w, ms, rfl, by omega, by omega, hmb, _, wi, by omega, fun d m5 hd kp5 w5 => ?_⟩
    obtain ⟨l, gl, rfl⟩ := hd
    refine k1 _ _ ⟨by rw [show k + 20 * (i + 1) = k + 20 * i + 20 by omega]; exact w5, kpi.trans kp5, ls ++ [l], by simp, by simp [hl], fun z hz => ?_⟩
    rcases List.mem_append.mp hz with hz | hz
    · exact hg z hz
    · rw [List.mem_singleton.mp hz]; exact gl
  obtain ⟨w4, kp4, ls, rfl, hl, hg⟩ := hh
  rw [rg_len] at hl w4
  refine ⟨trivial, ?_⟩
  have hl2 : ls.length ≤ 2 := by omega
  have h : Dr w 5 (fun d => ∃ W : Ws, d = W.row ∧ W.Ok) m4 Q := ⟨k + 20 * many.toNat, w4, by omega, fun d m' hd kp w' => h d m' hd (kp4.trans kp) (w'.mono (by omega))⟩
  walk_at "go"
  refine h.num (by decide) (by decide) (by decide) fun t m5 t0 t1 kp5 h => ?_
  walk_at "go"
  obtain ⟨looks, hlooks, hlk⟩ : ∃ looks : Option (List Lk), atI [D.tup (ls.map Lk.d), D.tup (ls.map Lk.d), D.tup (ls.map Lk.d), D.non] t = some (oL looks) ∧ ∀ ks, looks = some ks → ks.length ≤ 2 ∧ ∀ l ∈ ks, l.Good 142 := by
    have g : ∀ ks, some ls = some ks → ks.length ≤ 2 ∧ ∀ l ∈ ks, l.Good 142 := fun ks e => by cases e; exact ⟨hl2, hg⟩
    obtain rfl | rfl | rfl | rfl : t = 0 ∨ t = 1 ∨ t = 2 ∨ t = 3 := by omega
    all_goals first | exact ⟨some ls, rfl, g⟩ | exact ⟨none, rfl, fun _ e => by cases e⟩
  rw [hlooks]
  walk_at "go"
  refine ⟨w, rfl, h.sub (by decide) fun d m6 hd kp6 h => ?_⟩
  obtain ⟨lo, hi, rfl, hc1, hc2⟩ := hd
  walk_at "go"
  rw [wd_parts]
  walk_at "go"
  refine ⟨w, _, _, rfl, .inl rfl, by simp; omega, by simp; omega, h.sub (by decide) fun d m7 hd kp7 h => ?_⟩
  obtain ⟨part, hpart, rfl⟩ := List.mem_map.mp hd
  clear hd
  walk_at "go"
  exact h.done ⟨⟨part, act, looks, who, lo, hi⟩, rfl, ⟨hnm part (List.mem_append_left _ hpart), hact2, hlk, hwho, hc1, fun h e => ⟨by have := hc2 h e; omega, (hc2 h e).2⟩⟩, fun h e => (hc2 h e).1⟩
end DL

/-! # a list times an int; the other way round -/
namespace DL
open PySem L2 PySem.Spec PyProof.Rows
section
variable {X : Cx} {W : WX} {a b : Expr} {ra rb : DE} {pos : Pos}
def rRepQ (K : PySem.W.Frag) : R2 := fun x y H Q => ∃ l k xs, x = .ref l ∧ y = .int k ∧ SqL K H l xs ∧ 0 ≤ k ∧ k ≤ 1000 ∧ xs.length ≤ 1000 ∧ ∀ p, H p = none → Q (.ref p) (upd H p (.lst (List.replicate k.toNat xs).flatten))
theorem op_repQ : OpR X (binaryOp .Mult) (rRepQ X.K) := by
  intro pins s σ H x y v u Q I rx ry h
  obtain ⟨l, k, xs, rfl, rfl, hH, h1, h2, hz, q⟩ := h
  cases rx
  obtain ⟨t, rfl⟩ := ry
  obtain ⟨its, r, ⟨o, n, e, hc, hd, hs⟩, _⟩ := I.list hH
  have hl := r.length
  obtain ⟨oc, od, dt, sl⟩ := o
  simp only at hc hd hs
  subst hc hd hs
  have hsz : its.toArray.size * k.toNat ≤ 1000000 := by
    rw [List.size_toArray, ← hl]
    exact Nat.le_trans (Nat.mul_le_mul hz (by omega : k.toNat ≤ 1000)) (by decide)
  have hcap : ¬ its.toArray.size * k.toNat > (2 ^ 63 - 1) / 8 := by omega
  have hlong : ¬ Builtin.List.listTooLong (its.toArray.size * k.toNat) = true := by
    rw [notLongL (Nat.le_trans hsz (by decide))]
    exact Bool.false_ne_true
  refine wpAny_binaryOp_repeat_ref (T := "list") (U := "int") (by decide) ⟨_, e, rfl⟩ (fun s' => typeIs_int s' k t) noFill_list_mul F.fills_int_mul F.slot_int_rmul repeat_list F.slot_int_index.lookup
    (call_meets F.slot_int_rmul (typeIs_int s k t) F.entry_int_rmul (F.args_int_rmul_2 _ _) (lm_int_rmul_list_any k t l its.toArray n _ _)
      ⟨e, rfl, ⟨_, e, rfl⟩, call_meets F.slot_list_mul ⟨_, e, rfl⟩ F.entry_list_mul (F.args_list_mul_2 _ _) (lm_list_mul_any l its.toArray n _ _ k t (by simp [Builtin.List.listFitsIndex]; omega) hcap hlong) ⟨e, ?_⟩⟩)
  rw [listMul_foldl_if]
  exact ⟨.ref _, _, I.lnew (t' := s.toks) (r.rep k.toNat) (by rw [PyProof.Rows.lm_len_rep_flat, Nat.mul_comm, hl]; rw [List.size_toArray] at hsz; exact Nat.le_trans hsz (by decide)), rfl, q _ I.fresh⟩
def oMulQ : DO := fun x y m P => match y with
  | .int k => match x with
    | .tup ds => (2 ≤ k ∧ k ≤ 1000 ∧ ds.length ≤ 1000) ∧ P (.tup (List.replicate k.toNat ds).flatten) m
    | x => match asL m x with
      | some ds => (0 ≤ k ∧ k ≤ 1000 ∧ ds.length ≤ 1000) ∧ P (.lst (List.replicate k.toNat ds).flatten) m
      | none => False
  | _ => False
theorem mulQ_ok : OpD X.K (fun x y H Q => (rRepT X.K x y H Q ∨ rRep0 X.K x y H Q) ∨ rRepQ X.K x y H Q) oMulQ := by
  intro F H0 m H x y dx dy P Q ok rx ry h g
  unfold oMulQ at h
  split at h
  · split at h
    · exact .inl (mulT_ok F H0 m H x y _ _ P Q ok rx ry h g)
    · split at h
      · rename_i ds e
        obtain ⟨⟨h1, h2, h3⟩, h⟩ := h
        obtain ⟨p, vs, rfl, q1, r1⟩ := asL_rp ok rx e
        cases ry
        exact .inr ⟨p, _, vs, rfl, rfl, q1, h1, h2, by rw [r1.length]; exact h3, fun z hz => g.lst ok hz (r1.rep _) h⟩
      · exact h.elim
  · exact h.elim
theorem pd_mulQ (ha : PE X a (lE X.K W ra)) (hb : PE X b (lE X.K W rb)) : PE X (.BinOp a .Mult b pos) (lE X.K W (rOp oMulQ ra rb)) := pd_op ((op_repT.or op_rep0).or op_repQ) mulQ_ok ha hb
end
/-! ### t[::-1] -/
section
variable {prog : Program} {w : World} {A : Around} {E : Value → Shared → Prop} {s : Shared}
theorem sliceApplied_rev {sl : Addr} {vl vu vs : Value} {n : Nat} {Q : Int × Int × Nat → Shared → Prop} (hs : s.heap.IsSliceOf sl vl vu vs) (pl : IsPart vl none) (pu : IsPart vu none) (ps : IsPart vs (some (-1)))
    (h : Q (((n : Nat) : Int) - 1, -1, n) s) : wpAny (model prog w) A (Builtin.Slice.sliceApplied (.ref sl) (pure (n : Int))) Q E s := by
  obtain ⟨os, hos, hcs, hds⟩ := id hs
  unfold Builtin.Slice.sliceApplied Builtin.Slice.sliceFields
  refine wpAny_bind (wpAny_bind (wpAny_field hos hds (x := vl) rfl (wpAny_bind (wpAny_field hos hds (x := vu) rfl (wpAny_bind (wpAny_field hos hds (x := vs) rfl (wpAny_pure ?_)))))))
  refine wpAny_bind (HT.slicePart_ ps ?_)
  show wpAny _ _ (if ((-1 : Int) == 0) = true then _ else _) _ _ s
  rw [if_neg (by decide)]
  refine wpAny_bind (HT.slicePart_ pl (wpAny_bind (HT.slicePart_ pu (wpAny_bind (wpAny_pure ?_)))))
  show wpAny _ _ (match Builtin.Slice.sliceAdjust none none (-1) (n : Int) with | (lo, hi) => pure (lo, (-1 : Int), Builtin.Slice.slicePlaces lo hi (-1))) _ _ s
  show wpAny _ _ (pure (((n : Nat) : Int) - 1, (-1 : Int), Builtin.Slice.slicePlaces (((n : Nat) : Int) - 1) (-1) (-1))) _ _ s
  have e : Builtin.Slice.slicePlaces (((n : Nat) : Int) - 1) (-1) (-1) = n := by
    unfold Builtin.Slice.slicePlaces
    rw [if_neg (by decide)]
    by_cases h0 : n = 0
    · subst h0; rfl
    · rw [if_pos (by omega)]
      have : ((n : Int) - 1 - -1 - 1) / (- -1) = (n : Int) - 1 := by
        rw [show (- -1 : Int) = 1 from rfl, Int.ediv_one]; omega
      rw [this]; omega
  rw [e]
  exact wpAny_pure h
theorem pick_rev (xs : Array Value) : ((List.range xs.size).filterMap fun (m : Nat) => xs[(((xs.size : Nat) : Int) - 1 + (m : Int) * -1).toNat]?).toArray = xs.toList.reverse.toArray := by
  congr 1
  have e : ((List.range xs.size).filterMap fun (m : Nat) => xs[(((xs.size : Nat) : Int) - 1 + (m : Int) * -1).toNat]?) = ((List.range xs.size).map fun k => xs.size - 1 - k).filterMap (xs[·]?) := by
    rw [List.filterMap_map]
    have gen : ∀ (l : List Nat), (∀ m ∈ l, m < xs.size) → (l.filterMap fun (m : Nat) => xs[(((xs.size : Nat) : Int) - 1 + (m : Int) * -1).toNat]?) = l.filterMap ((xs[·]?) ∘ fun k => xs.size - 1 - k) := by
      intro l hl
      induction l with
      | nil => rfl
      | cons m l ih =>
        have hm := hl m List.mem_cons_self
        have e2 : (((xs.size : Nat) : Int) - 1 + (m : Int) * -1).toNat = xs.size - 1 - m := by omega
        rw [List.filterMap_cons, List.filterMap_cons, ih fun k hk => hl k (List.mem_cons_of_mem _ hk), e2]
        rfl
    exact gen _ fun m hm => List.mem_range.mp hm
  rw [e, PySem.W.krv_range, List.filterMap_reverse, PySem.W.krv_all]
theorem getItem_tuple_rev {t sl : Addr} {items : Array Value} {vl vu vs : Value} {Q : Value → Shared → Prop} (ht : IsTup s.heap t items) (hs : s.heap.IsSliceOf sl vl vu vs) (pl : IsPart vl none) (pu : IsPart vu none) (ps : IsPart vs (some (-1)))
    (h : Q (.ref s.heap.objs.size) { s with heap := s.heap.push { cls := .type "tuple", data := .seq items.toList.reverse.toArray } })
    (hsz : items.size ≤ sizeLine) : wpAny (model prog w) A (getItem (.ref t) (.ref sl)) Q E s := by
  have htake : sizeOk (.seq items.toList.reverse.toArray) := by
    show items.toList.reverse.toArray.size ≤ sizeLine
    rw [List.size_toArray, List.length_reverse, Array.length_toList]
    exact hsz
  obtain ⟨os, hos, hcs, hds⟩ := id hs
  have hTs : s.TypeIs (.ref sl) "slice" := ⟨os, hos, hcs⟩
  unfold getItem
  try with_reducible refine wpAny_holding ?_
  first | refine wpAny_bind (wpAny_pure ?_) | skip
  refine wpAny_bind (wpAny_sequenceKey ht.typeIs (by decide) ?_)
  refine wpAny_bind (wpAny_callSpecial?_slot (name := Str.ofString "__getitem__") ht.typeIs PyProof.Rows.slot_tuple_getitem
    (wpAny_call_entry PyProof.Rows.slot_tuple_getitem ht.typeIs entry_tuple_getitem ?_ (args_tuple_getitem _ _)))
  show wpAny _ _ (Builtin.Tuple.tupleItemsOf (.ref t) >>= _) _ _ s
  refine wpAny_bind (tupleItemsOf_ ht ?_)
  refine wpAny_bind (wpAny_typeOf hTs ?_)
  rw [if_pos (by decide)]
  refine wpAny_bind (sliceApplied_rev hs pl pu ps ?_)
  have hno : ¬ ((((items.size : Nat) : Int) - 1 == 0 && (-1 : Int) == 1 && items.size == items.size) = true) := by
    intro q
    rw [Bool.and_eq_true, Bool.and_eq_true] at q
    exact absurd (eq_of_beq q.1.2) (by decide)
  show wpAny _ _ (if (((items.size : Nat) : Int) - 1 == 0 && (-1 : Int) == 1 && items.size == items.size) = true then _ else _) _ _ s
  rw [if_neg hno, pick_rev]
  first
    | exact wpAny_bind (m := Builtin.Tuple.tupleExact _) (wpAny_newObj_type (wpAny_pure ⟨_, rfl, wpAny_pure h⟩) htake)
    | exact wpAny_bind (m := Builtin.Tuple.tupleExact _) (wpAny_newObj_type (wpAny_bind (wpAny_pure (wpAny_pure ⟨_, rfl, wpAny_pure h⟩))) htake)
    | exact wpAny_bind (wpAny_bind (m := Builtin.Tuple.tupleExact _) (wpAny_newObj_type (wpAny_pure (wpAny_pure ⟨_, rfl, wpAny_pure h⟩)) htake))
    | exact wpAny_bind (wpAny_bind (m := Builtin.Tuple.tupleExact _) (wpAny_newObj_type (wpAny_pure ⟨_, rfl, wpAny_pure h⟩) htake))
end
section
variable {X : Cx} {W : WX} {a : Expr} {ra : DE}
def tRevA (K : PySem.W.Frag) (te : TE) : TE := fun σ H Q => te σ H fun x H1 => ∃ a xs, x = .ref a ∧ ((SqL K H1 a xs ∧ ∀ p, H1 p = none → Q (.ref p) (upd H1 p (.lst xs.reverse))) ∨ (SqT K H1 a xs ∧ ∀ p, H1 p = none → Q (.ref p) (upd H1 p (.tup xs.reverse))))
theorem pe_revA {e : Expr} {te : TE} {k : Nat} {p1 p2 p3 pos : Pos} (he : PE X e te) : PE X (.Subscript e (.Slice none none (some (.UnaryOp .USub (.Constant (.int 1) k p1) p2)) p3) pos) (tRevA X.K te) := by
  refine ⟨fun pins s σ H Q I h => ?_⟩
  refine Subscript_ (thn (he.run pins s σ H _ I h) fun v s1 ⟨x, H1, I1, r1, q1⟩ => ?_)
  obtain ⟨a, xs, ex, q⟩ := q1
  subst ex
  cases r1
  have hst : PO X (some (.UnaryOp .USub (.Constant (.int 1) k p1) p2)) (tPart (tUn (rU fun i => .int (-i)) (tC (.int 1)))) := po_some (pe_un un_neg pe_int)
  refine wpAny_Slice (thn (po_none.run pins s1 σ H1 (fun o H2 => o = none ∧ H2 = H1) I1 ⟨rfl, rfl⟩) fun vl s2 ⟨l, H2, I2, pl, el, e2⟩ => ?_)
  subst el e2
  refine thn (po_none.run pins s2 σ H2 (fun o H3 => o = none ∧ H3 = H2) I2 ⟨rfl, rfl⟩) fun vu s3 ⟨u, H3, I3, pu, eu, e3⟩ => ?_
  subst eu e3
  refine thn (hst.run pins s3 σ H3 (fun o H4 => o = some (-1) ∧ H4 = H3) I3 ⟨1, rfl, -1, rfl, rfl, rfl⟩) fun vs s4 ⟨o, H4, I4, ps, eo, e4⟩ => ?_
  subst eo e4
  have I5 : Inv X pins σ H4 { s4 with heap := s4.heap.push { cls := .type "slice", data := .fields #[vl, vu, vs] } } := I4.kept (t' := s4.toks) fun b ob q => Heap.get?_push_of_some _ q
  show wpAny (model X.prog X.w) X.A (subscriptTail e (.Slice none none (some (.UnaryOp .USub (.Constant (.int 1) k p1) p2)) p3) (.ref a) (.ref s4.heap.objs.size)) (EP X pins σ Q) X.xe { s4 with heap := s4.heap.push { cls := .type "slice", data := .fields #[vl, vu, vs] } }
  rcases q with ⟨hx, q⟩ | ⟨hx, q⟩
  · obtain ⟨its, r, ht, hz⟩ := I5.list hx
    have hlen := r.length
    refine tail_any (ops := [.ref a, .ref s4.heap.objs.size]) ht.isList.typeIs (PySem.slot_list_getitem.lookup) ?_ (by with_unfolding_all rfl)
    refine wpAny_getItem_list_slice ht.isList (Heap.IsSliceOf.new _ vl vu vs) pl pu ps (by decide) ?_ (by rw [List.size_toArray]; omega)
    rw [PySem.W.krv_pick]
    refine ⟨.ref _, _, I5.laid (t' := s4.toks) (o := .lst xs.reverse) (fun b ob q => Heap.get?_push_of_some _ q) (Nat.le_refl _) ?_, rfl, q _ (I5.hok.fresh (Nat.le_refl _))⟩
    exact ⟨by rw [List.length_reverse]; exact hz, _, 0, r.reverse, Heap.get?_push_size _ rfl⟩
  · obtain ⟨its, r, ht, hz⟩ := I5.tuple hx
    have hlen := r.length
    refine tail_any (ops := [.ref a, .ref s4.heap.objs.size]) ht.typeIs (PyProof.Rows.slot_tuple_getitem.lookup) ?_ (by with_unfolding_all rfl)
    refine getItem_tuple_rev ht (Heap.IsSliceOf.new _ vl vu vs) pl pu ps ?_ (by rw [List.size_toArray]; omega)
    refine ⟨.ref _, _, I5.laid (t' := s4.toks) (o := .tup xs.reverse) (fun b ob q => Heap.get?_push_of_some _ q) (Nat.le_refl _) ?_, rfl, q _ (I5.hok.fresh (Nat.le_refl _))⟩
    exact ⟨by rw [List.length_reverse]; exact hz, _, r.reverse, IsTup.new _ _⟩
def rRev (ra : DE) : DE := fun δ m P PX => ra δ m (fun x m1 => match x with
  | .tup ds => P (.tup ds.reverse) m1
  | x => match asL m1 x with
    | some ds => P (.lst ds.reverse) m1
    | none => False) PX
theorem RpL.rev {K : PySem.W.Frag} {H : Hp} {vs : List V} {ds : List D} (r : RpL K H vs ds) : RpL K H vs.reverse ds.reverse := by
  induction vs generalizing ds with
  | nil => cases r; exact .nil
  | cons v vs ih =>
    cases r with
    | cons q r =>
      rw [List.reverse_cons, List.reverse_cons]
      exact (ih r).append (.cons q .nil)
theorem pd_rev {k : Nat} {p1 p2 p3 pos : Pos} (ha : PE X a (lE X.K W ra)) : PE X (.Subscript a (.Slice none none (some (.UnaryOp .USub (.Constant (.int 1) k p1) p2)) p3) pos) (lE X.K W (rRev ra)) := by
  refine PE.imp (pe_revA ha) fun σ H Q h => ?_
  obtain ⟨F, H0, m, δ, P, PX, ok, rs, h, g, gx⟩ := h
  refine ⟨F, H0, m, δ, _, PX, ok, rs, h, fun x H1 H01 m1 d s1 ok1 r1 h1 => ?_, gx⟩
  dsimp only at h1
  split at h1
  · obtain ⟨p, vs, rfl, q1, rv⟩ := tup_rp ok1 r1
    exact ⟨p, vs, rfl, .inr ⟨q1, fun z hz => (g.mono s1).tup ok1 hz rv.rev h1⟩⟩
  · split at h1
    · rename_i ds e
      obtain ⟨p, vs, rfl, q1, rv⟩ := asL_rp ok1 r1 e
      exact ⟨p, vs, rfl, .inl ⟨q1, fun z hz => (g.mono s1).lst ok1 hz rv.rev h1⟩⟩
    · exact h1.elim
end
end DL

namespace DL
open PySem L2
local macro_rules | `(tactic| walk_at "dl") => `(tactic| ((conv => whnf); try dsimp only))
local macro_rules | `(tactic| walk_at "sd") => `(tactic| first | trivial | exact Nat.zero_le _ | assumption | decide | omega | exact len_line (by first | decide | omega | (simp; done) | (simp; omega)) | (simp; done) | (simp; omega) | exact ⟨by decide, by decide, by decide⟩ | exact .inl ⟨by decide, by decide⟩ | exact .inl ⟨by omega, by omega⟩ | exact wide_div (b := 64) (by decide) (by decide) (by decide) (by decide))
local macro_rules | `(tactic| walk_at "go") => `(tactic| ((conv => whnf); (try dsimp only); repeat ((with_reducible refine And.intro ?_ ?_); (focus (walk_at "sd")); (conv => whnf); (try dsimp only))))
local macro_rules | `(tactic| walk_at "th") => `(tactic| repeat' (first | assumption | exact thD_txt _ _ | exact thD_int | exact thD_non | exact thD_bl | (refine thD_mono _ _ _ ?_ (by assumption); decide) | refine List.forall_mem_cons.mpr (And.intro ?_ ?_) | exact List.forall_mem_nil _ | refine thD_tup (by simp) ?_ | refine thD_lst (by simp) ?_))
local macro_rules | `(tactic| walk_at "ln") => `(tactic| (intro ds m Q PX h; repeat (obtain ⟨_, h⟩ := h); subst_vars; rfl))
theorem cut_ints (ts : List Int) (lo hi : Option Int) : ∃ ks : List Int, cutD (ts.map .int) lo hi = ks.map .int ∧ ks.length ≤ ts.length := by
  unfold cutD
  rw [← List.map_drop, ← List.map_take]
  exact ⟨_, rfl, by rw [List.length_take, List.length_drop]; omega⟩
def isAsk (d : D) : Prop := ∃ a b ts, d = askD a b ts ∧ nmB a = true ∧ nmB b = true ∧ ts.length ≤ 2
theorem rep_mem {α : Type} {n : Nat} {xs : List α} {x : α} (h : x ∈ (List.replicate n xs).flatten) : x ∈ xs := by
  obtain ⟨l, hl, hx⟩ := List.mem_flatten.mp h
  rw [List.eq_of_mem_replicate hl] at hx
  exact hx
theorem rep_len {α : Type} {n : Nat} {xs : List α} : (List.replicate n xs).flatten.length = n * xs.length := by
  rw [List.length_flatten, List.map_replicate, List.sum_replicate_nat]
def sp__law_ask : SpD := fun ds m P _ => ∃ (w : Addr) (wd : D), ds = [.adr w, wd] ∧ isWorld wd ∧ Dr w 7 isAsk m P
def rd__law_ask : DS :=
    sSeq (sSet 2 (rCall sp__law_one [] (rCons (rV 0) (rCons (rOp oAdd (rOp oMulQ (rOp oDGet (rV 1) (rC (.str "parts"))) (rC (.int 5))) (rLst (rCons (rC (.str "zz")) (rNil)))) (rNil)))))
    (sSeq (sSet 3 (rCall sp__law_one [] (rCons (rV 0) (rCons (rOp oAdd (rOp oMulQ (rOp oDGet (rV 1) (rC (.str "deeds"))) (rC (.int 4))) (rLst (rCons (rC (.str "zz")) (rNil)))) (rNil)))))
    (sSeq (sSet 4 (rOp oIx (rLst (rCons (rC (.int 1)) (rCons (rC (.int 1)) (rCons (rC (.int 1)) (rCons (rC (.int 1)) (rCons (rC (.int 0)) (rCons (rC (.int 2)) (rNil)))))))) (rCall sp__law_draw [] (rCons (rV 0) (rCons (rC (.int 6)) (rNil))))))
    (sRet (rTup (rCons (rV 2) (rCons (rV 3) (rCons (rCB cTup (rCons (rLc (iRange (rCons (rV 4) (rNil))) [5] (gN 5) (qYes) (rCall sp__law_near [] (rCons (rV 0) (rCons (rOp oDGet (rV 1) (rC (.str "mids"))) (rNil))))) (rNil))) (rNil))))))))
theorem ln__law_ask : ∀ ds m Q PX, sp__law_ask ds m Q PX → ds.length = 2 := fun ds m Q PX h => by (repeat (obtain ⟨_, h⟩ := h)); subst_vars; rfl
theorem some_names {ps : List Str} {k : Int} {d : D} (hn : ∀ x ∈ ps, nmB x = true) (h : d ∈ (List.replicate k.toNat (ps.map D.str)).flatten ++ [D.str "zz"]) : ∃ x, d = .str x ∧ nmB x = true := by
  rcases List.mem_append.mp h with h | h
  · obtain ⟨x, hx, rfl⟩ := List.mem_map.mp (rep_mem h)
    exact ⟨x, rfl, hn x hx⟩
  · rw [List.mem_singleton.mp h]
    exact ⟨_, rfl, by decide +kernel⟩
theorem comp_near {w : Addr} {δ : DSt} {j : Nat} {ms : List Int} {A B : D} {n N : Nat} {m : Mu} {P0 : DK} {R : D → Prop} {P : List D → Mu → Prop} (h0 : δ[0]? = some (some (.adr w))) (h1 : δ[1]? = some (some (wDct A B (.lst (ms.map .int))))) (hj : 2 ≤ j) (hml : ms.length = 3) (hmb : ∀ n ∈ ms, Bd 140 n)
    (hn : n ≤ 1000) (hN : 2 * n ≤ N) (h : Dr w N R m P0) (hk : ∀ (ts : List Int) m', ts.length = n → Dr w (N - 2 * n) R m' P0 → P (ts.map .int) m') :
    rComp (fun _ => True) (gN j) qYes (rCall sp__law_near [] (rCons (rV 0) (rCons (rOp oDGet (rV 1) (rC (.str "mids"))) (rNil)))) δ P (rangeD 0 n) [] m := by
  obtain ⟨k, wl, hkk, h⟩ := h
  refine comp_inv (fun i acc m' => Wl m' w (k + 2 * i) ∧ Kp [w] m m' ∧ ∃ ts : List Int, acc = ts.map .int ∧ ts.length = i) (fun i acc m' hh => ?_) (by rw [rg_len]; omega) (fun i d acc m' e hh => ?_) (fun acc m4 hh => ?_) ⟨wl, Kp.refl _ _, [], rfl, rfl⟩
  · obtain ⟨_, _, ts, rfl, hl⟩ := hh
    rw [List.length_map, hl]; exact Nat.le_refl _
  · obtain ⟨wi, kpi, ts, rfl, hl⟩ := hh
    obtain ⟨hi, rfl⟩ := rg_get e
    refine ⟨trivial, fun Kt Kf k1 _ => ?_⟩
    have g0 : (δ.set j (some (.int (0 + (i : Int)))))[0]? = some (some (.adr w)) := by rw [List.getElem?_set_ne (by omega)]; exact h0
    have g1 : (δ.set j (some (.int (0 + (i : Int)))))[1]? = some (some (wDct A B (.lst (ms.map .int)))) := by rw [List.getElem?_set_ne (by omega)]; exact h1
    show (match (δ.set j (some (.int (0 + (i : Int)))))[0]? with | some (some d) => _ | _ => False)
    rw [g0]
    show (match (δ.set j (some (.int (0 + (i : Int)))))[1]? with | some (some d) => _ | _ => False)
    rw [g1]
    walk_at "go"
    rw [wd_mids]
    refine ⟨w, ms, 140, rfl, by decide, by omega, by omega, hmb, _, wi, by omega, fun d m5 hd kp5 w5 => ?_⟩
    obtain ⟨t, _, rfl⟩ := hd
    exact k1 _ _ ⟨by rw [show k + 2 * (i + 1) = k + 2 * i + 2 by omega]; exact w5, kpi.trans kp5, ts ++ [t], by simp, by simp [hl]⟩
  · obtain ⟨w4, kp4, ts, rfl, hl⟩ := hh
    rw [rg_len] at hl w4
    exact ⟨trivial, hk ts m4 hl ⟨k + 2 * n, w4, by omega, fun d m' hd kp w' => h d m' hd (kp4.trans kp) (w'.mono (by omega))⟩⟩
theorem pu__law_ask : ∀ ds m Q PX, sp__law_ask ds m Q PX → rd__law_ask (dEnds Q PX) (dstart ["_law_well_here", "_law_world_here", "_law_part", "_law_deed", "_law_many", "_law_k"] ds) m := by
  rintro ds m Q PX ⟨w, wd, rfl, ⟨ps, es, ms, rfl, hp, he, hnm, hnd, hml, hmb⟩, h⟩
  walk_at "go"
  rw [wd_parts]
  walk_at "go"
  have l1 : (List.replicate (Int.toNat 5) (ps.map D.str)).flatten.length = 5 * ps.length := by rw [rep_len, List.length_map]; rfl
  have l2 : (List.replicate (Int.toNat 4) (es.map D.str)).flatten.length = 4 * es.length := by rw [rep_len, List.length_map]; rfl
  have l3 : (ps.map D.str).length = ps.length := List.length_map _
  have l4 : (es.map D.str).length = es.length := List.length_map _
  first | refine ⟨⟨by decide, by decide, by omega⟩, ?_⟩ | skip
  walk_at "go"
  refine ⟨w, _, _, rfl, .inl rfl, by simp; omega, by simp; omega, h.sub (by decide) fun d m1 hd kp1 h => ?_⟩
  obtain ⟨a, rfl, ha⟩ := some_names (fun x hx => hnm x (List.mem_append_left _ hx)) hd
  clear hd
  walk_at "go"
  rw [wd_deeds]
  walk_at "go"
  first | refine ⟨⟨by decide, by decide, by omega⟩, ?_⟩ | skip
  walk_at "go"
  refine ⟨w, _, _, rfl, .inl rfl, by simp; omega, by simp; omega, h.sub (by decide) fun d m2 hd kp2 h => ?_⟩
  obtain ⟨b, rfl, hb⟩ := some_names (fun x hx => hnm x (List.mem_append_right _ hx)) hd
  clear hd
  walk_at "go"
  refine h.num (by decide) (by decide) (by decide) fun s m3 s0 s1 kp3 h => ?_
  walk_at "go"
  obtain ⟨many, hmany, hm0, hm2⟩ : ∃ many : Int, atI [D.int 1, .int 1, .int 1, .int 1, .int 0, .int 2] s = some (.int many) ∧ 0 ≤ many ∧ many ≤ 2 := by
    obtain rfl | rfl | rfl | rfl | rfl | rfl : s = 0 ∨ s = 1 ∨ s = 2 ∨ s = 3 ∨ s = 4 ∨ s = 5 := by omega
    all_goals first | exact ⟨1, rfl, by decide, by decide⟩ | exact ⟨0, rfl, by decide, by decide⟩ | exact ⟨2, rfl, by decide, by decide⟩
  rw [hmany]
  walk_at "go"
  refine comp_near (n := many.toNat) (A := .lst (ps.map .str)) (B := .lst (es.map .str)) rfl rfl (by decide) hml hmb (by omega) (N := 4) (by omega) h fun ts m4 hl h => ?_
  walk_at "go"
  exact h.done ⟨a, b, ts, rfl, ha, hb, by omega⟩
def noFit (ls : List Lk) (ts : List Int) : D → Bool
  | .int i => match ls[i.toNat]?, ts[i.toNat]? with
    | some l, some n => !l.fits n
    | _, _ => false
  | _ => false
theorem noFit_at {ls : List Lk} {ts : List Int} {i : Nat} {l : Lk} {n : Int} (el : ls[i]? = some l) (en : ts[i]? = some n) : noFit ls ts (.int (0 + (i : Int))) = !l.fits n := by
  show (match ls[(0 + (i : Int)).toNat]?, ts[(0 + (i : Int)).toNat]? with | some l, some n => !l.fits n | _, _ => false) = _
  rw [show (0 + (i : Int)).toNat = i by omega, el, en]
theorem noFit_all {ls : List Lk} {ts : List Int} (hl : ls.length = ts.length) : ((rangeD 0 ls.length).filter (noFit ls ts)).isEmpty = (ls.zip ts).all fun p => p.1.fits p.2 := by
  rw [Bool.eq_iff_iff, List.isEmpty_iff, List.filter_eq_nil_iff, List.all_eq_true]
  constructor
  · intro h pr hp
    obtain ⟨i, hi⟩ := List.getElem?_of_mem hp
    rw [List.getElem?_zip_eq_some] at hi
    have hil := (List.getElem?_eq_some_iff.mp hi.1).1
    have hm : D.int (0 + (i : Int)) ∈ rangeD 0 ls.length := List.mem_map.mpr ⟨i, List.mem_range.mpr hil, rfl⟩
    have := h _ hm
    rw [noFit_at hi.1 hi.2] at this
    simpa using this
  · intro h d hd
    obtain ⟨i, hi, rfl⟩ := List.mem_map.mp hd
    have hil := List.mem_range.mp hi
    obtain ⟨l, el⟩ : ∃ l, ls[i]? = some l := ⟨_, List.getElem?_eq_getElem hil⟩
    obtain ⟨n, en⟩ : ∃ n, ts[i]? = some n := ⟨_, List.getElem?_eq_getElem (by omega)⟩
    have := h (l, n) (List.mem_of_getElem? (List.getElem?_zip_eq_some.mpr ⟨el, en⟩))
    rw [noFit_at el en]
    simpa using this
def sp__law_is_for : SpD := fun ds m P _ => ∃ (W : Ws) (a b : Str) (ts : List Int), ds = [W.row, askD a b ts] ∧ okLs W.looks ∧ ts.length ≤ 100 ∧ P (.bl (W.sees a b ts)) m
def rd__law_is_for : DS :=
    sSeq (sTup [2, 3, 4, 5, 6, 7] (rV 0))
    (sSeq (sIf (rOr (rTst (rOp oNe (rOp oIx (rV 1) (rC (.int 0))) (rV 2))) (rAnd (rTst (rOp (oIsN true) (rV 3) (rC .non))) (rTst (rOp oNe (rOp oIx (rV 1) (rC (.int 1))) (rV 3))))) (sRet (rC (.bl false))) (sNext))
    (sSeq (sIf (rTst (rOp (oIsN false) (rV 4) (rC .non))) (sRet (rC (.bl true))) (sNext))
    (sSeq (sIf (rTst (rOp oNe (rCB cLen (rCons (rV 4) (rNil))) (rCB cLen (rCons (rOp oIx (rV 1) (rC (.int 2))) (rNil))))) (sRet (rC (.bl false))) (sNext))
    (sRet (rOp oEq (rLc (iRange (rCons (rCB cLen (rCons (rV 4) (rNil))) (rNil))) [8] (gN 8) (rNot (rTru (rCall (sp__law_fits 2) [] (rCons (rOp oIx (rV 4) (rV 8)) (rCons (rOp oIx (rOp oIx (rV 1) (rC (.int 2))) (rV 8)) (rNil)))))) (rV 8)) (rLst (rNil)))))))
theorem ln__law_is_for : ∀ ds m Q PX, sp__law_is_for ds m Q PX → ds.length = 2 := fun ds m Q PX h => by (repeat (obtain ⟨_, h⟩ := h)); subst_vars; rfl
theorem atI_map {α : Type} {xs : List α} {f : α → D} {i : Nat} {x : α} (h : xs[i]? = some x) : atI (xs.map f) (0 + (i : Int)) = some (f x) := by
  have hi := (List.getElem?_eq_some_iff.mp h).1
  obtain ⟨y, e1, e2⟩ := atI_some (xs := xs.map f) (i := 0 + (i : Int)) (by omega) (by rw [List.length_map]; omega)
  rw [show (0 + (i : Int)).toNat = i by omega, List.getElem?_map, h] at e2
  rw [e1, ← e2]; rfl
def ifT : DS := sSeq (sIf (rTst (rOp (oIsN false) (rV 4) (rC .non))) (sRet (rC (.bl true))) (sNext))
    (sSeq (sIf (rTst (rOp oNe (rCB cLen (rCons (rV 4) (rNil))) (rCB cLen (rCons (rOp oIx (rV 1) (rC (.int 2))) (rNil))))) (sRet (rC (.bl false))) (sNext))
    (sRet (rOp oEq (rLc (iRange (rCons (rCB cLen (rCons (rV 4) (rNil))) (rNil))) [8] (gN 8) (rNot (rTru (rCall (sp__law_fits 2) [] (rCons (rOp oIx (rV 4) (rV 8)) (rCons (rOp oIx (rOp oIx (rV 1) (rC (.int 2))) (rV 8)) (rNil)))))) (rV 8)) (rLst (rNil)))))
theorem pu__law_is_for : ∀ ds m Q PX, sp__law_is_for ds m Q PX → rd__law_is_for (dEnds Q PX) (dstart ["_law_row", "_law_call", "_law_part", "_law_deed", "_law_looks", "_law_who", "_law_low", "_law_high", "_law_k"] ds) m := by
  rintro ds m Q PX ⟨W, a, b, ts, rfl, hls, hts, h⟩
  unfold Ws.sees forB at h
  walk_at "go"
  by_cases h1 : a = W.part
  · rw [decide_eq_true h1, Bool.true_and] at h
    rw [decide_eq_true h1]
    have rest : ∀ h : Q (.bl (seesB W.looks ts)) m, ifT (dEnds Q PX) [some W.row, some (askD a b ts), some (.str W.part), some (oS W.deed), some (oL W.looks), some (.str W.name), some (.int W.least), some (oN W.most), none] m := by
      intro h
      cases hlk : W.looks with
      | none => rw [hlk] at h; exact h
      | some ls =>
        rw [hlk] at h
        obtain ⟨hl2, hld⟩ := hls ls hlk
        change Q (.bl (decide (ls.length = ts.length) && (ls.zip ts).all fun p => p.1.fits p.2)) m at h
        walk_at "go"
        rw [List.length_map, List.length_map]
        by_cases hl : ls.length = ts.length
        · rw [decide_eq_true hl, Bool.true_and] at h
          rw [decide_eq_true (by omega : (ls.length : Int) = (ts.length : Nat))]
          walk_at "dl"
          rw [List.length_map]
          obtain ⟨N, hN⟩ : ∃ N : Int, N = (ls.length : Nat) := ⟨_, rfl⟩
          rw [← hN]
          refine ⟨⟨by omega, by omega⟩, ?_⟩
          rw [show N.toNat = ls.length by omega]
          walk_at "go"
          refine comp_fm (noFit ls ts) (fun d => d) (by rw [rg_len]; omega) trivial (fun d hd Q q => ?_) (fun d hd _ Q q => ?_) ?_
          · obtain ⟨i, hi, rfl⟩ := List.mem_map.mp hd
            have hil := List.mem_range.mp hi
            have hil2 : i < ls.length := by omega
            obtain ⟨l, el⟩ : ∃ l, ls[i]? = some l := ⟨_, List.getElem?_eq_getElem hil2⟩
            obtain ⟨n, en⟩ : ∃ n, ts[i]? = some n := ⟨_, List.getElem?_eq_getElem (by omega)⟩
            have q' : Q (!l.fits n) m := by rw [noFit_at el en] at q; exact q
            walk_at "go"
            rw [atI_map el]
            walk_at "go"
            rw [atI_map en]
            exact ⟨l, n, rfl, hld l (List.mem_of_getElem? el), q'⟩
          · obtain ⟨i, hi, rfl⟩ := List.mem_map.mp hd
            walk_at "go"
            exact q
          · rw [List.map_id']
            walk_at "go"
            refine ⟨shpT (n := 3) ⟨Nat.le_trans (List.length_filter_le _ _) (by rw [rg_len]; omega), fun d hd => ?_⟩, shpN, ?_⟩
            · obtain ⟨i, hi, rfl⟩ := List.mem_map.mp (List.mem_filter.mp hd).1
              exact thD_int
            show (dEnds Q PX).rt (.bl (deq (.lst ((rangeD 0 ls.length).filter (noFit ls ts))) (.lst []))) m
            rw [deq_lst_nil, noFit_all hl]
            exact h
        · rw [decide_eq_false hl] at h
          rw [decide_eq_false (by omega : ¬ (ls.length : Int) = (ts.length : Nat))]
          exact h
    cases hdd : W.deed with
    | none => rw [hdd] at h; walk_at "go"; rw [hdd] at rest; exact rest h
    | some x =>
      rw [hdd] at h rest
      change Q (.bl (decide (b = x) && seesB W.looks ts)) m at h
      walk_at "go"
      by_cases h2 : b = x
      · rw [decide_eq_true h2, Bool.true_and] at h
        rw [decide_eq_true h2]
        exact rest h
      · rw [decide_eq_false h2] at h
        rw [decide_eq_false h2]
        exact h
  · rw [decide_eq_false h1] at h
    rw [decide_eq_false h1]
    exact h
/-! ### the asks of k13 -/
def nm9 (x : Str) : Prop := 1 ≤ x.length ∧ x.length ≤ 9 ∧ x.cps.toList.all low = true
theorem nm9_of {x : Str} (h : nmB x = true) : nm9 x := by
  obtain ⟨h1, h2, h3⟩ := nm_len h
  exact ⟨h1, by omega, h3⟩
theorem nm9_nm {x : Str} (h : nm9 x) (h2 : x.length < 9) : nmB x = true := by
  unfold nmB
  rw [decide_eq_true h.1, decide_eq_true (by omega : x.length ≤ 8), h.2.2]; rfl
theorem nm9_app {x y : Str} (h1 : x.cps.toList.all low = true) (h2 : y.cps.toList.all low = true) (h3 : 1 ≤ x.length + y.length) (h4 : x.length + y.length ≤ 9) : nm9 (x ++ y) := by
  refine ⟨by rw [PySem.Str.length_append]; exact h3, by rw [PySem.Str.length_append]; exact h4, ?_⟩
  rw [cps_app, List.all_append, h1, h2]; rfl
theorem cutS_low {x : Str} {lo hi : Option Int} (h : x.cps.toList.all low = true) : (cutS x lo hi).cps.toList.all low = true ∧ (cutS x lo hi).length ≤ x.length := by
  have e : (cutS x lo hi).cps.toList = (x.cps.toList.drop (HT.sIx x.length 0 lo)).take (HT.sIx x.length x.length hi - HT.sIx x.length 0 lo) := by unfold cutS; simp
  constructor
  · rw [e, List.all_eq_true]
    intro c hc
    exact List.all_eq_true.mp h c (List.mem_of_mem_drop (List.mem_of_mem_take hc))
  · show (cutS x lo hi).cps.size ≤ x.cps.size
    rw [← Array.length_toList, ← Array.length_toList, e, List.length_take, List.length_drop]
    omega
def isAsk9 (d : D) : Prop := ∃ a b ts, d = askD a b ts ∧ nm9 a ∧ nm9 b ∧ ts.length ≤ 2
def isAsks (d : D) : Prop := ∃ xs : List D, d = .lst xs ∧ xs.length ≤ 15 ∧ ∀ x ∈ xs, isAsk x
def sp__law_asks : SpD := fun ds m P _ => ∃ (w : Addr) (wd : D) (W : Ws), ds = [.adr w, wd, W.row] ∧ isWorld wd ∧ W.Pre ∧ Dr w 34 isAsks m P
def rd__law_asks : DS :=
    sSeq (sSet 3 (rLc (iRange (rCons (rC (.int 4)) (rNil))) [9] (gN 9) (qYes) (rCall sp__law_ask [] (rCons (rV 0) (rCons (rV 1) (rNil))))))
    (sSeq (sSet 4 (rOp oIx (rV 2) (rC (.int 0))))
    (sSeq (sSet 5 (rOrT (rOp oIx (rV 2) (rC (.int 1))) (rCall sp__law_one [] (rCons (rV 0) (rCons (rOp oDGet (rV 1) (rC (.str "deeds"))) (rNil))))))
    (sSeq (sSet 6 (rCB cLen (rCons (rOrT (rOp oIx (rV 2) (rC (.int 2))) (rTup (rCons (rC (.int 1)) (rNil)))) (rNil))))
    (sSeq (sSet 7 (rCB cTup (rCons (rLc (iRange (rCons (rV 6) (rNil))) [9] (gN 9) (qYes) (rCall sp__law_near [] (rCons (rV 0) (rCons (rOp oDGet (rV 1) (rC (.str "mids"))) (rNil))))) (rNil))))
    (sSeq (sSet 3 (rOp oAdd (rV 3) (rLst (rCons (rTup (rCons (rV 4) (rCons (rV 5) (rCons (rV 7) (rNil))))) (rCons (rTup (rCons (rV 4) (rCons (rV 5) (rCons (rSl (rV 7) rNoP (rPart (rNeg (rC (.int 1))))) (rNil))))) (rCons (rTup (rCons (rV 4) (rCons (rV 5) (rCons (rSl (rOp oAdd (rV 7) (rTup (rCons (rC (.int 0)) (rCons (rC (.int 0)) (rNil))))) rNoP (rPart (rC (.int 2)))) (rNil))))) (rNil)))))))
    (sSeq (sSet 3 (rOp oAdd (rV 3) (rLst (rCons (rTup (rCons (rOp oAdd (rV 4) (rC (.str "x"))) (rCons (rV 5) (rCons (rV 7) (rNil))))) (rCons (rTup (rCons (rOp oAdd (rSl (rV 4) rNoP (rPart (rNeg (rC (.int 1))))) (rC (.str "q"))) (rCons (rV 5) (rCons (rV 7) (rNil))))) (rCons (rTup (rCons (rV 4) (rCons (rOp oAdd (rV 5) (rC (.str "x"))) (rCons (rV 7) (rNil))))) (rNil)))))))
    (sSeq (sSet 3 (rOp oAdd (rV 3) (rLst (rCons (rTup (rCons (rV 4) (rCons (rOp oAdd (rC (.str "q")) (rSl (rV 5) (rPart (rC (.int 1))) rNoP)) (rCons (rV 7) (rNil))))) (rCons (rTup (rCons (rV 5) (rCons (rV 4) (rCons (rV 7) (rNil))))) (rCons (rTup (rCons (rV 4) (rCons (rV 5) (rCons (rRev (rV 7)) (rNil))))) (rNil)))))))
    (sSeq (sSet 8 (rOp oIx (rLst (rCons (rOp oSub (rC (.int 0)) (rOp oPow (rC (.int 10)) (rC (.int 41)))) (rCons (rOp oPow (rC (.int 10)) (rC (.int 41))) (rNil)))) (rCall sp__law_draw [] (rCons (rV 0) (rCons (rC (.int 2)) (rNil))))))
    (sSeq (sSet 3 (rOp oAdd (rV 3) (rLst (rCons (rTup (rCons (rV 4) (rCons (rV 5) (rCons (rCB cTup (rCons (rLc (iAny (rV 7)) [11] (gN 11) (qYes) (rV 8)) (rNil))) (rNil))))) (rCons (rTup (rCons (rV 4) (rCons (rV 5) (rCons (rTup (rNil)) (rNil))))) (rNil))))))
    (sRet (rLc (iAny (rV 3)) [10] (gN 10) (rAnd (rTst (rOp oLt (rCB cLen (rCons (rOp oIx (rV 10) (rC (.int 0))) (rNil))) (rC (.int 9)))) (rTst (rOp oLt (rCB cLen (rCons (rOp oIx (rV 10) (rC (.int 1))) (rNil))) (rC (.int 9))))) (rV 10))))))))))))
theorem ln__law_asks : ∀ ds m Q PX, sp__law_asks ds m Q PX → ds.length = 3 := fun ds m Q PX h => by (repeat (obtain ⟨_, h⟩ := h)); subst_vars; rfl
def asT6 : DS := sSeq (sSet 6 (rCB cLen (rCons (rOrT (rOp oIx (rV 2) (rC (.int 2))) (rTup (rCons (rC (.int 1)) (rNil)))) (rNil))))
    (sSeq (sSet 7 (rCB cTup (rCons (rLc (iRange (rCons (rV 6) (rNil))) [9] (gN 9) (qYes) (rCall sp__law_near [] (rCons (rV 0) (rCons (rOp oDGet (rV 1) (rC (.str "mids"))) (rNil))))) (rNil))))
    (sSeq (sSet 3 (rOp oAdd (rV 3) (rLst (rCons (rTup (rCons (rV 4) (rCons (rV 5) (rCons (rV 7) (rNil))))) (rCons (rTup (rCons (rV 4) (rCons (rV 5) (rCons (rSl (rV 7) rNoP (rPart (rNeg (rC (.int 1))))) (rNil))))) (rCons (rTup (rCons (rV 4) (rCons (rV 5) (rCons (rSl (rOp oAdd (rV 7) (rTup (rCons (rC (.int 0)) (rCons (rC (.int 0)) (rNil))))) rNoP (rPart (rC (.int 2)))) (rNil))))) (rNil)))))))
    (sSeq (sSet 3 (rOp oAdd (rV 3) (rLst (rCons (rTup (rCons (rOp oAdd (rV 4) (rC (.str "x"))) (rCons (rV 5) (rCons (rV 7) (rNil))))) (rCons (rTup (rCons (rOp oAdd (rSl (rV 4) rNoP (rPart (rNeg (rC (.int 1))))) (rC (.str "q"))) (rCons (rV 5) (rCons (rV 7) (rNil))))) (rCons (rTup (rCons (rV 4) (rCons (rOp oAdd (rV 5) (rC (.str "x"))) (rCons (rV 7) (rNil))))) (rNil)))))))
    (sSeq (sSet 3 (rOp oAdd (rV 3) (rLst (rCons (rTup (rCons (rV 4) (rCons (rOp oAdd (rC (.str "q")) (rSl (rV 5) (rPart (rC (.int 1))) rNoP)) (rCons (rV 7) (rNil))))) (rCons (rTup (rCons (rV 5) (rCons (rV 4) (rCons (rV 7) (rNil))))) (rCons (rTup (rCons (rV 4) (rCons (rV 5) (rCons (rRev (rV 7)) (rNil))))) (rNil)))))))
    (sSeq (sSet 8 (rOp oIx (rLst (rCons (rOp oSub (rC (.int 0)) (rOp oPow (rC (.int 10)) (rC (.int 41)))) (rCons (rOp oPow (rC (.int 10)) (rC (.int 41))) (rNil)))) (rCall sp__law_draw [] (rCons (rV 0) (rCons (rC (.int 2)) (rNil))))))
    (sSeq (sSet 3 (rOp oAdd (rV 3) (rLst (rCons (rTup (rCons (rV 4) (rCons (rV 5) (rCons (rCB cTup (rCons (rLc (iAny (rV 7)) [11] (gN 11) (qYes) (rV 8)) (rNil))) (rNil))))) (rCons (rTup (rCons (rV 4) (rCons (rV 5) (rCons (rTup (rNil)) (rNil))))) (rNil))))))
    (sRet (rLc (iAny (rV 3)) [10] (gN 10) (rAnd (rTst (rOp oLt (rCB cLen (rCons (rOp oIx (rV 10) (rC (.int 0))) (rNil))) (rC (.int 9)))) (rTst (rOp oLt (rCB cLen (rCons (rOp oIx (rV 10) (rC (.int 1))) (rNil))) (rC (.int 9))))) (rV 10)))))))))
def asT7 : DS := sSeq (sSet 7 (rCB cTup (rCons (rLc (iRange (rCons (rV 6) (rNil))) [9] (gN 9) (qYes) (rCall sp__law_near [] (rCons (rV 0) (rCons (rOp oDGet (rV 1) (rC (.str "mids"))) (rNil))))) (rNil))))
    (sSeq (sSet 3 (rOp oAdd (rV 3) (rLst (rCons (rTup (rCons (rV 4) (rCons (rV 5) (rCons (rV 7) (rNil))))) (rCons (rTup (rCons (rV 4) (rCons (rV 5) (rCons (rSl (rV 7) rNoP (rPart (rNeg (rC (.int 1))))) (rNil))))) (rCons (rTup (rCons (rV 4) (rCons (rV 5) (rCons (rSl (rOp oAdd (rV 7) (rTup (rCons (rC (.int 0)) (rCons (rC (.int 0)) (rNil))))) rNoP (rPart (rC (.int 2)))) (rNil))))) (rNil)))))))
    (sSeq (sSet 3 (rOp oAdd (rV 3) (rLst (rCons (rTup (rCons (rOp oAdd (rV 4) (rC (.str "x"))) (rCons (rV 5) (rCons (rV 7) (rNil))))) (rCons (rTup (rCons (rOp oAdd (rSl (rV 4) rNoP (rPart (rNeg (rC (.int 1))))) (rC (.str "q"))) (rCons (rV 5) (rCons (rV 7) (rNil))))) (rCons (rTup (rCons (rV 4) (rCons (rOp oAdd (rV 5) (rC (.str "x"))) (rCons (rV 7) (rNil))))) (rNil)))))))
    (sSeq (sSet 3 (rOp oAdd (rV 3) (rLst (rCons (rTup (rCons (rV 4) (rCons (rOp oAdd (rC (.str "q")) (rSl (rV 5) (rPart (rC (.int 1))) rNoP)) (rCons (rV 7) (rNil))))) (rCons (rTup (rCons (rV 5) (rCons (rV 4) (rCons (rV 7) (rNil))))) (rCons (rTup (rCons (rV 4) (rCons (rV 5) (rCons (rRev (rV 7)) (rNil))))) (rNil)))))))
    (sSeq (sSet 8 (rOp oIx (rLst (rCons (rOp oSub (rC (.int 0)) (rOp oPow (rC (.int 10)) (rC (.int 41)))) (rCons (rOp oPow (rC (.int 10)) (rC (.int 41))) (rNil)))) (rCall sp__law_draw [] (rCons (rV 0) (rCons (rC (.int 2)) (rNil))))))
    (sSeq (sSet 3 (rOp oAdd (rV 3) (rLst (rCons (rTup (rCons (rV 4) (rCons (rV 5) (rCons (rCB cTup (rCons (rLc (iAny (rV 7)) [11] (gN 11) (qYes) (rV 8)) (rNil))) (rNil))))) (rCons (rTup (rCons (rV 4) (rCons (rV 5) (rCons (rTup (rNil)) (rNil))))) (rNil))))))
    (sRet (rLc (iAny (rV 3)) [10] (gN 10) (rAnd (rTst (rOp oLt (rCB cLen (rCons (rOp oIx (rV 10) (rC (.int 0))) (rNil))) (rC (.int 9)))) (rTst (rOp oLt (rCB cLen (rCons (rOp oIx (rV 10) (rC (.int 1))) (rNil))) (rC (.int 9))))) (rV 10))))))))
def shortB : D → Bool
  | .tup (.str a :: .str b :: _) => decide (a.length < 9) && decide (b.length < 9)
  | _ => false
theorem asT7_ok {w : Addr} {W : Ws} {A B : D} {ms : List Int} {acc : List D} {deed : Str} {n : Nat} {m : Mu} {Q : DK} {PX : DX} {b7 b8 b9 b10 b11 : Option D} (hW : W.Pre) (hml : ms.length = 3) (hmb : ∀ n ∈ ms, Bd 140 n) (hacc : acc.length = 4 ∧ ∀ x ∈ acc, isAsk x) (hd : nmB deed = true) (hn : 1 ≤ n ∧ n ≤ 2) (h : Dr w 5 isAsks m Q) :
    asT7 (dEnds Q PX) [some (.adr w), some (wDct A B (.lst (ms.map .int))), some W.row, some (.lst acc), some (.str W.part), some (.str deed), some (.int (n : Nat)), b7, b8, b9, b10, b11] m := by
  obtain ⟨N, hN⟩ : ∃ N : Int, N = (n : Nat) := ⟨_, rfl⟩
  rw [← hN]
  obtain ⟨p1, p2, p3⟩ := nm_len hW.part
  obtain ⟨d1, d2, d3⟩ := nm_len hd
  have hacc1 := hacc.1
  walk_at "go"
  rw [show N.toNat = n by omega]
  refine comp_near (n := n) (A := A) (B := B) rfl rfl (by decide) hml hmb (by omega) (N := 5) (by omega) h fun ts m1 hl h => ?_
  obtain ⟨c1, c2⟩ := cutS_low (lo := none) (hi := some (-1)) p3
  obtain ⟨c3, c4⟩ := cutS_low (lo := some 1) (hi := none) d3
  have lx : (Str.ofString "x").length = 1 := rfl
  have lq : (Str.ofString "q").length = 1 := rfl
  walk_at "go"
  refine h.num (by omega) (by decide) (by decide) fun r m2 r0 r1 kp2 h => ?_
  obtain ⟨far, hfar⟩ : ∃ far : Int, atI [D.int (0 - 10 ^ Int.toNat 41), D.int (10 ^ Int.toNat 41)] r = some (.int far) := by
    obtain rfl | rfl : r = 0 ∨ r = 1 := by omega
    · exact ⟨_, rfl⟩
    · exact ⟨_, rfl⟩
  walk_at "go"
  rw [hfar]
  walk_at "go"
  refine comp_map (fun _ => .int far) (by rw [List.length_map]; omega) trivial (fun d hd Q q => by walk_at "go"; exact q) ?_
  have lfar : ((ts.map D.int).map fun _ => D.int far).length ≤ 2 := by rw [List.length_map, List.length_map]; omega
  walk_at "go"
  have t9 : ∀ (a b : Str) (xs : List D), nm9 a → nm9 b → (∃ ks : List Int, xs = ks.map .int ∧ ks.length ≤ 2) → isAsk9 (.tup [.str a, .str b, .tup xs]) := fun a b xs h1 h2 ⟨ks, e, h3⟩ => ⟨a, b, ks, by rw [e]; rfl, h1, h2, h3⟩
  have hts : ts.length ≤ 2 := by omega
  have pn := nm9_of hW.part
  have dn := nm9_of hd
  have k0 : ∃ ks : List Int, ts.map D.int = ks.map .int ∧ ks.length ≤ 2 := ⟨ts, rfl, hts⟩
  have k1 : ∃ ks : List Int, cutD (ts.map D.int) none (some (-1)) = ks.map .int ∧ ks.length ≤ 2 := by
    obtain ⟨ks, e, hk⟩ := cut_ints ts none (some (-1))
    exact ⟨ks, e, by omega⟩
  have k2 : ∃ ks : List Int, cutD (ts.map D.int ++ [.int 0, .int 0]) none (some 2) = ks.map .int ∧ ks.length ≤ 2 := by
    have e0 : ts.map D.int ++ [.int 0, .int 0] = (ts ++ [0, 0]).map D.int := by simp
    rw [e0]
    unfold cutD
    rw [← List.map_drop, ← List.map_take]
    refine ⟨_, rfl, ?_⟩
    rw [List.length_take]
    refine Nat.le_trans (Nat.min_le_left _ _) ?_
    show HT.sIx _ _ (some 2) - 0 ≤ 2
    unfold HT.sIx
    simp
  have k3 : ∃ ks : List Int, (ts.map D.int).reverse = ks.map .int ∧ ks.length ≤ 2 := ⟨ts.reverse, by rw [List.map_reverse], by rw [List.length_reverse]; exact hts⟩
  have k4 : ∃ ks : List Int, ((ts.map D.int).map fun _ => D.int far) = ks.map .int ∧ ks.length ≤ 2 := ⟨ts.map fun _ => far, by rw [List.map_map, List.map_map]; rfl, by rw [List.length_map]; exact hts⟩
  have k5 : ∃ ks : List Int, ([] : List D) = ks.map .int ∧ ks.length ≤ 2 := ⟨[], rfl, by simp⟩
  have sx : (Str.ofString "x").cps.toList.all low = true := by decide +kernel
  have sq : (Str.ofString "q").cps.toList.all low = true := by decide +kernel
  have n1 : nm9 (W.part ++ Str.ofString "x") := nm9_app p3 sx (by omega) (by omega)
  have n2 : nm9 (cutS W.part none (some (-1)) ++ Str.ofString "q") := nm9_app c1 sq (by omega) (by omega)
  have n3 : nm9 (deed ++ Str.ofString "x") := nm9_app d3 sx (by omega) (by omega)
  have n4 : nm9 (Str.ofString "q" ++ cutS deed (some 1) none) := nm9_app sq c3 (by omega) (by omega)
  generalize hxs : acc ++ _ ++ _ ++ _ ++ _ = xs
  have hx : ∀ d ∈ xs, isAsk9 d := by
    rw [← hxs]
    have two : ∀ x y, isAsk9 x → isAsk9 y → ∀ d ∈ [x, y], isAsk9 d := fun x y h1 h2 => List.forall_mem_cons.mpr ⟨h1, List.forall_mem_cons.mpr ⟨h2, List.forall_mem_nil _⟩⟩
    have three : ∀ x y z, isAsk9 x → isAsk9 y → isAsk9 z → ∀ d ∈ [x, y, z], isAsk9 d := fun x y z h1 h2 h3 => List.forall_mem_cons.mpr ⟨h1, two y z h2 h3⟩
    refine List.forall_mem_append.mpr ⟨List.forall_mem_append.mpr ⟨List.forall_mem_append.mpr ⟨List.forall_mem_append.mpr ⟨fun d hd => ?_, three _ _ _ (t9 _ _ _ pn dn k0) (t9 _ _ _ pn dn k1) (t9 _ _ _ pn dn k2)⟩, three _ _ _ (t9 _ _ _ n1 dn k0) (t9 _ _ _ n2 dn k0) (t9 _ _ _ pn n3 k0)⟩, three _ _ _ (t9 _ _ _ pn n4 k0) (t9 _ _ _ dn pn k0) (t9 _ _ _ pn dn k3)⟩, two _ _ (t9 _ _ _ pn dn k4) (t9 _ _ _ pn dn k5)⟩
    obtain ⟨a, b, ks, e, h1, h2, h3⟩ := hacc.2 d hd
    exact ⟨a, b, ks, e, nm9_of h1, nm9_of h2, h3⟩
  have hlen : xs.length = 15 := by rw [← hxs]; simp [hacc1]
  clear hxs
  walk_at "go"
  refine comp_fm shortB (fun d => d) (by omega) trivial (fun d hd Q q => ?_) (fun d hd _ Q q => by walk_at "go"; exact q) ?_
  · obtain ⟨a, b, ks, rfl, h1, h2, h3⟩ := hx d hd
    have a9 := h1.2.1
    have b9 := h2.2.1
    change Q (decide (a.length < 9) && decide (b.length < 9)) m2 at q
    walk_at "go"
    by_cases ha : a.length < 9
    · rw [decide_eq_true ha, Bool.true_and] at q
      rw [decide_eq_true (by omega : ((a.length : Nat) : Int) < 9)]
      walk_at "go"
      by_cases hb : b.length < 9
      · rw [decide_eq_true hb] at q
        rw [decide_eq_true (by omega : ((b.length : Nat) : Int) < 9)]
        exact q
      · rw [decide_eq_false hb] at q
        rw [decide_eq_false (by omega : ¬ ((b.length : Nat) : Int) < 9)]
        exact q
    · rw [decide_eq_false ha] at q
      rw [decide_eq_false (by omega : ¬ ((a.length : Nat) : Int) < 9)]
      exact q
  · rw [List.map_id']
    refine h.done ⟨_, rfl, Nat.le_trans (List.length_filter_le _ _) (by omega), fun d hd => ?_⟩
    obtain ⟨hd1, hd2⟩ := List.mem_filter.mp hd
    obtain ⟨a, b, ks, rfl, h1, h2, h3⟩ := hx d hd1
    change (decide (a.length < 9) && decide (b.length < 9)) = true at hd2
    rw [Bool.and_eq_true, decide_eq_true_eq, decide_eq_true_eq] at hd2
    exact ⟨a, b, ks, rfl, nm9_nm h1 hd2.1, nm9_nm h2 hd2.2, h3⟩
theorem pu__law_asks : ∀ ds m Q PX, sp__law_asks ds m Q PX → rd__law_asks (dEnds Q PX) (dstart ["_law_well_here", "_law_world_here", "_law_row", "_law_found", "_law_part", "_law_deed", "_law_many", "_law_things", "_law_far", "_law_k", "_law_call", "_law_thing"] ds) m := by
  rintro ds m Q PX ⟨w, wd, W, rfl, hwd, hW, h⟩
  walk_at "go"
  obtain ⟨k, wl, hk, h⟩ := h
  refine comp_inv (fun i acc m' => Wl m' w (k + 7 * i) ∧ Kp [w] m m' ∧ acc.length = i ∧ ∀ x ∈ acc, isAsk x) (fun i acc m' hh => ?_) (by rw [rg_len]; omega) (fun i d acc m' e hh => ?_) (fun acc m1 hh => ?_) ⟨wl, Kp.refl _ _, rfl, fun _ z => by cases z⟩
  · rw [hh.2.2.1]; exact Nat.le_refl _
  · obtain ⟨wi, kpi, hl, ha⟩ := hh
    obtain ⟨hi, rfl⟩ := rg_get e
    have hi4 : i < 4 := hi
    refine ⟨trivial, fun Kt Kf k1 _ => ?_⟩
    walk_at "go"
    refine ⟨w, wd, rfl, hwd, _, wi, by omega, fun d m5 hd kp5 w5 => ?_⟩
    refine k1 _ _ ⟨by rw [show k + 7 * (i + 1) = k + 7 * i + 7 by omega]; exact w5, kpi.trans kp5, by simp [hl], fun x hx => ?_⟩
    rcases List.mem_append.mp hx with hx | hx
    · exact ha x hx
    · rw [List.mem_singleton.mp hx]; exact hd
  obtain ⟨w1, kp1, hl, hacc⟩ := hh
  have hl4 : acc.length = 4 := by rw [hl]; rfl
  rw [rg_len] at w1
  refine ⟨trivial, ?_⟩
  have h : Dr w 6 isAsks m1 Q := ⟨k + 28, w1, by omega, fun d m' hd kp w' => h d m' hd (kp1.trans kp) (w'.mono (by omega))⟩
  obtain ⟨ps, es, ms, rfl, hp, he, hnm, hnd, hml, hmb⟩ := hwd
  clear w1 kp1 hl wl hk
  have t6 : ∀ (deed : Str) (m2 : Mu), nmB deed = true → Dr w 5 isAsks m2 Q → asT6 (dEnds Q PX) [some (.adr w), some (wDct (.lst (ps.map .str)) (.lst (es.map .str)) (.lst (ms.map .int))), some W.row, some (.lst acc), some (.str W.part), some (.str deed), none, none, none, none, none, none] m2 := by
    intro deed m2 hd h
    obtain ⟨n, hn, hX⟩ : ∃ n : Nat, (1 ≤ n ∧ n ≤ 2) ∧ ∀ (P : DK) (PX' : DX), P (.int (n : Nat)) m2 → (rCB cLen (rCons (rOrT (rOp oIx (rV 2) (rC (.int 2))) (rTup (rCons (rC (.int 1)) (rNil)))) (rNil))) [some (.adr w), some (wDct (.lst (ps.map .str)) (.lst (es.map .str)) (.lst (ms.map .int))), some W.row, some (.lst acc), some (.str W.part), some (.str deed), none, none, none, none, none, none] m2 P PX' := by
      cases hlk : W.looks with
      | none => exact ⟨1, by decide, fun P PX' q => by walk_at "go"; rw [hlk]; walk_at "go"; exact q⟩
      | some ls =>
        have h2 := (hW.looks ls hlk).1
        cases ls with
        | nil => exact ⟨1, by decide, fun P PX' q => by walk_at "go"; rw [hlk]; walk_at "go"; exact q⟩
        | cons l r =>
          have h3 : r.length ≤ 1 := by simpa using h2
          refine ⟨(l :: r).length, ⟨by simp, h2⟩, fun P PX' q => ?_⟩
          walk_at "go"
          rw [hlk]
          walk_at "go"
          rw [List.length_map]
          exact q
    exact hX _ _ (asT7_ok hW hml hmb ⟨hl4, hacc⟩ hd hn h)
  walk_at "go"
  cases hdd : W.deed with
  | none =>
    walk_at "go"
    rw [wd_deeds]
    walk_at "go"
    refine ⟨w, _, _, rfl, .inl rfl, by simp; omega, by simp; omega, h.sub (by decide) fun d m2 hd kp2 h => ?_⟩
    obtain ⟨x, hx, rfl⟩ := List.mem_map.mp hd
    exact t6 x m2 (hnm x (List.mem_append_right _ hx)) h
  | some x =>
    have hx := hW.deed x hdd
    obtain ⟨x1, x2, x3⟩ := nm_len hx
    show x.length ≤ sizeLine ∧ (if x.length = 0 then _ else _)
    refine ⟨len_line (by omega), ?_⟩
    rw [if_neg (by omega)]
    exact t6 x m1 hx ⟨_, h.choose_spec.1, Nat.le_trans (by omega) h.choose_spec.2.1, fun d m' hd kp w' => h.choose_spec.2.2 d m' hd kp (w'.mono (by omega))⟩
end DL

namespace DL
open PySem L2
local macro_rules | `(tactic| walk_at "dl") => `(tactic| ((conv => whnf); try dsimp only))
local macro_rules | `(tactic| walk_at "sd") => `(tactic| first | trivial | exact Nat.zero_le _ | assumption | decide | omega | exact len_line (by first | decide | omega | (simp; done) | (simp; omega)) | (simp; done) | (simp; omega) | exact ⟨by decide, by decide, by decide⟩ | exact .inl ⟨by decide, by decide⟩ | exact .inl ⟨by omega, by omega⟩ | exact wide_div (b := 64) (by decide) (by decide) (by decide) (by decide))
local macro_rules | `(tactic| walk_at "go") => `(tactic| ((conv => whnf); (try dsimp only); repeat ((with_reducible refine And.intro ?_ ?_); (focus (walk_at "sd")); (conv => whnf); (try dsimp only))))
local macro_rules | `(tactic| walk_at "th") => `(tactic| repeat' (first | assumption | exact thD_txt _ _ | exact thD_int | exact thD_non | exact thD_bl | (refine thD_mono _ _ _ ?_ (by assumption); decide) | refine List.forall_mem_cons.mpr (And.intro ?_ ?_) | exact List.forall_mem_nil _ | refine thD_tup (by simp) ?_ | refine thD_lst (by simp) ?_))
local macro_rules | `(tactic| walk_at "ln") => `(tactic| (intro ds m Q PX h; repeat (obtain ⟨_, h⟩ := h); subst_vars; rfl))
theorem pur_oN (x : Option Int) : pur (oN x) = true := by cases x <;> rfl
theorem pur_oS (x : Option Str) : pur (oS x) = true := by cases x <;> rfl
theorem fit_oN (n : Nat) (x : Option Int) : fitD n (oN x) := by cases x <;> (cases n <;> trivial)
theorem oN_inj {x y : Option Int} (h : oN x = oN y) : x = y := by
  cases x <;> cases y <;> first | rfl | (injection h with h; rw [h]) | cases h
theorem oS_non {x : Option Str} : oS x = .non ↔ x = none := by cases x <;> simp [oS]
theorem oL_non {x : Option (List Lk)} : oL x = .non ↔ x = none := by cases x <;> simp [oL]
theorem none_oL (x : Option (List Lk)) : isNone (oL x) = x.isNone := by cases x <;> rfl
theorem none_oS (x : Option Str) : isNone (oS x) = x.isNone := by cases x <;> rfl
theorem none_oN (x : Option Int) : isNone (oN x) = x.isNone := by cases x <;> rfl
theorem pur_oL (x : Option (List Lk)) : pur (oL x) = true := by
  cases x with
  | none => rfl
  | some ls => exact purL_all fun d hd => by obtain ⟨l, _, rfl⟩ := List.mem_map.mp hd; exact l.pur
theorem pur_tup {ds : List D} (h : ∀ d ∈ ds, pur d = true) : pur (.tup ds) = true := by rw [pur]; exact purL_all h
theorem deqP {m : Mu} {x y : D} {b : Bool} (hx : pur x = true) (hy : pur y = true) (hb : b = true ↔ x = y) : deq (dat m x) (dat m y) = b := by
  rw [dat_pur hx, dat_pur hy, Bool.eq_iff_iff, deq_iff hx hy, hb]
end DL

namespace DL
open PySem L2
local macro_rules | `(tactic| walk_at "dl") => `(tactic| ((conv => whnf); try dsimp only))
local macro_rules | `(tactic| walk_at "sd") => `(tactic| first | trivial | exact Nat.zero_le _ | assumption | decide | omega | exact len_line (by first | decide | omega | (simp; done) | (simp; omega)) | (simp; done) | (simp; omega) | exact ⟨by decide, by decide, by decide⟩ | exact .inl ⟨by decide, by decide⟩ | exact .inl ⟨by omega, by omega⟩ | exact wide_div (b := 64) (by decide) (by decide) (by decide) (by decide))
local macro_rules | `(tactic| walk_at "go") => `(tactic| ((conv => whnf); (try dsimp only); repeat ((with_reducible refine And.intro ?_ ?_); (focus (walk_at "sd")); (conv => whnf); (try dsimp only))))
local macro_rules | `(tactic| walk_at "th") => `(tactic| repeat' (first | assumption | exact thD_txt _ _ | exact thD_int | exact thD_non | exact thD_bl | (refine thD_mono _ _ _ ?_ (by assumption); decide) | refine List.forall_mem_cons.mpr (And.intro ?_ ?_) | exact List.forall_mem_nil _ | refine thD_tup (by simp) ?_ | refine thD_lst (by simp) ?_))
local macro_rules | `(tactic| walk_at "ln") => `(tactic| (intro ds m Q PX h; repeat (obtain ⟨_, h⟩ := h); subst_vars; rfl))
/-! ### orders, strict parts, plans -/
def ordB (xs : List Str) : D → Bool
  | .tup [.str w, .str a, .str b] => decide (w ∈ [Str.ofString "all", Str.ofString "ready"]) && (decide (a ∈ xs) && (decide (b ∈ xs) && decide (a ≠ b)))
  | _ => false
def txtB : D → Bool
  | .str _ => true
  | _ => false
theorem txts {xs : List D} (h : xs.all txtB = true) : ∃ ts : List Str, xs = ts.map .str := by
  induction xs with
  | nil => exact ⟨[], rfl⟩
  | cons d xs ih =>
    rw [List.all_cons, Bool.and_eq_true] at h
    obtain ⟨ns, rfl⟩ := ih h.2
    cases d with
    | str i => exact ⟨i :: ns, rfl⟩
    | _ => cases h.1
theorem ord_no : ∀ {ys : List D} (xs : List Str), ys.length ≠ 3 ∨ ys.all txtB = false → ordB xs (.tup ys) = false
  | [], _, _ => rfl
  | [_], _, _ => by unfold ordB; split <;> first | rfl | (rename_i h; simp at h)
  | [_, _], _, _ => by unfold ordB; split <;> first | rfl | (rename_i h; simp at h)
  | [a, b, c], xs, h => by
    rcases h with h | h
    · exact (h rfl).elim
    · unfold ordB
      split
      · rename_i e; injection e with e; injection e with e1 e; injection e with e2 e; injection e with e3 e; subst e1 e2 e3; cases h
      · rfl
  | _ :: _ :: _ :: _ :: _, _, _ => by unfold ordB; split <;> first | rfl | (rename_i h; simp at h)
def sp_is_order : SpD := fun ds m P _ => ∃ (d : D) (xs : List Str), ds = [d, .lst (xs.map .str)] ∧ Thg d ∧ xs.length ≤ 1000 ∧ P (.bl (ordB xs d)) m
def rd_is_order : DS :=
    sSeq (sIf (rOr (rNot (rTru (rCB cIsi (rCons (rV 0) (rCons (rC (.ty "tuple")) (rNil)))))) (rOr (rTst (rOp oNe (rCB cLen (rCons (rV 0) (rNil))) (rC (.int 3)))) (rNot (rTru (rCB cAll (rCons (rLc (iAny (rV 0)) [3] (gN 3) (qYes) (rCB cIsi (rCons (rV 3) (rCons (rC (.ty "str")) (rNil))))) (rNil))))))) (sRet (rC (.bl false))) (sNext))
    (sSeq (sTup [2, 3, 4] (rV 0))
    (sRet (rAndV (rOp (oInN false) (rV 2) (rC (.tup [.str "all", .str "ready"]))) (rAndV (rOp (oInN false) (rV 3) (rV 1)) (rAndV (rOp (oInN false) (rV 4) (rV 1)) (rOp oNe (rV 3) (rV 4)))))))
theorem ln_is_order : ∀ ds m Q PX, sp_is_order ds m Q PX → ds.length = 2 := fun ds m Q PX h => by (repeat (obtain ⟨_, h⟩ := h)); subst_vars; rfl
theorem any_strs' (xs : List Str) (a : Str) : ((xs.map D.str).any fun z => deq z (.str a)) = decide (a ∈ xs) := any_strs xs a
theorem pu_is_order : ∀ ds m Q PX, sp_is_order ds m Q PX → rd_is_order (dEnds Q PX) (dstart ["row", "names", "word", "one", "other"] ds) m := by
  rintro ds m Q PX ⟨d, xs, rfl, hd, hxs, h⟩
  revert h
  refine hd.cases_ (p := fun d => Q (.bl (ordB xs d)) m → rd_is_order (dEnds Q PX) (dstart ["row", "names", "word", "one", "other"] [d, .lst (xs.map .str)]) m) ?_ ?_ ?_ ?_ ?_ ?_ ?_
  all_goals (try (intros; walk_at "go"; assumption))
  intro ys hl hy h
  walk_at "go"
  cases h3 : decide (((ys.length : Nat) : Int) = 3) with
  | false =>
    have := of_decide_eq_false h3
    rw [ord_no xs (.inl (by omega))] at h
    exact h
  | true =>
    have h3' := of_decide_eq_true h3
    walk_at "go"
    refine comp_map (fun d => .bl (txtB d)) (by omega) trivial (fun d hd Q q => ?_) ?_
    · have hd' := hy d hd
      cases d <;> first | (walk_at "go"; exact q) | cases hd'
    walk_at "dl"
    rw [show ys.map (fun d => D.bl (txtB d)) = (ys.map txtB).map D.bl from by rw [List.map_map]; rfl, boolsD_map]
    dsimp only
    rw [all_id]
    cases ht : ys.all txtB with
    | false =>
      rw [ord_no xs (.inr ht)] at h
      exact h
    | true =>
      obtain ⟨ts, rfl⟩ := txts ht
      match ts, h3', h with
      | [w, a, b], _, h =>
        change Q (.bl (decide (w ∈ [Str.ofString "all", Str.ofString "ready"]) && (decide (a ∈ xs) && (decide (b ∈ xs) && decide (a ≠ b))))) m at h
        have fl : (xs.map D.str).all flatD = true := by simp [flatD]
        walk_at "go"
        rw [if_neg (by decide), show ([D.str (Str.ofString "all"), D.str (Str.ofString "ready")].any fun z => deq z (.str w)) = decide (w ∈ [Str.ofString "all", Str.ofString "ready"]) from any_strs [Str.ofString "all", Str.ofString "ready"] w]
        cases e1 : decide (w ∈ [Str.ofString "all", Str.ofString "ready"]) with
        | false => rw [e1] at h; exact h
        | true =>
          rw [e1, Bool.true_and] at h
          walk_at "go"
          refine ⟨.inl ⟨rfl, fl⟩, ?_⟩
          rw [if_neg (by decide)]
          show (match D.bl ((xs.map D.str).any fun z => deq z (.str a)) with | .bl true => _ | .bl false => _ | _ => _)
          rw [any_strs]
          cases e2 : decide (a ∈ xs) with
          | false => rw [e2] at h; exact h
          | true =>
            rw [e2, Bool.true_and] at h
            walk_at "go"
            refine ⟨.inl ⟨rfl, fl⟩, ?_⟩
            rw [if_neg (by decide)]
            show (match D.bl ((xs.map D.str).any fun z => deq z (.str b)) with | .bl true => _ | .bl false => _ | _ => _)
            rw [any_strs]
            cases e3 : decide (b ∈ xs) with
            | false => rw [e3] at h; exact h
            | true =>
              rw [e3, Bool.true_and] at h
              walk_at "go"
              by_cases e4 : a = b
              · rw [decide_eq_false (fun z => z e4)] at h
                rw [decide_eq_true e4]; exact h
              · rw [decide_eq_true e4] at h
                rw [decide_eq_false e4]; exact h
noncomputable def ordsB (xs : List Str) : D → Bool
  | .tup rs => decide (rs.length ≤ 12) && (rs.all (ordB xs) && ndB rs)
  | _ => false
theorem ord_pur {xs : List Str} {d : D} (h : ordB xs d = true) : pur d = true ∧ ∃ w a b, d = .tup [.str w, .str a, .str b] := by
  unfold ordB at h
  split at h
  · exact ⟨rfl, _, _, _, rfl⟩
  · cases h
def sp_are_orders : SpD := fun ds m P _ => ∃ (d : D) (xs : List Str), ds = [d, .lst (xs.map .str)] ∧ Thg d ∧ xs.length ≤ 1000 ∧ P (.bl (ordsB xs d)) m
def rd_are_orders : DS :=
    sSeq (sIf (rOr (rNot (rTru (rCB cIsi (rCons (rV 0) (rCons (rC (.ty "tuple")) (rNil)))))) (rTst (rOp oGt (rCB cLen (rCons (rV 0) (rNil))) (rC (.int 12))))) (sRet (rC (.bl false))) (sNext))
    (sRet (rAndV (rCB cAll (rCons (rLc (iAny (rV 0)) [2] (gN 2) (qYes) (rCall sp_is_order [] (rCons (rV 2) (rCons (rV 1) (rNil))))) (rNil))) (rCall sp_are_unlike [] (rCons (rCB cLst (rCons (rV 0) (rNil))) (rNil)))))
theorem ln_are_orders : ∀ ds m Q PX, sp_are_orders ds m Q PX → ds.length = 2 := fun ds m Q PX h => by (repeat (obtain ⟨_, h⟩ := h)); subst_vars; rfl
theorem pu_are_orders : ∀ ds m Q PX, sp_are_orders ds m Q PX → rd_are_orders (dEnds Q PX) (dstart ["orders", "names", "row"] ds) m := by
  rintro ds m Q PX ⟨d, xs, rfl, hd, hxs, h⟩
  revert h
  refine hd.cases_ (p := fun d => Q (.bl (ordsB xs d)) m → rd_are_orders (dEnds Q PX) (dstart ["orders", "names", "row"] [d, .lst (xs.map .str)]) m) ?_ ?_ ?_ ?_ ?_ ?_ ?_
  all_goals (try (intros; walk_at "go"; assumption))
  intro rs hl hr h
  change Q (.bl (decide (rs.length ≤ 12) && (rs.all (ordB xs) && ndB rs))) m at h
  walk_at "go"
  cases h4 : decide ((12 : Int) < (rs.length : Nat)) with
  | true =>
    have := of_decide_eq_true h4
    rw [decide_eq_false (by omega : ¬ rs.length ≤ 12)] at h
    exact h
  | false =>
    have := of_decide_eq_false h4
    rw [decide_eq_true (by omega : rs.length ≤ 12), Bool.true_and] at h
    walk_at "go"
    refine comp_map (fun d => .bl (ordB xs d)) (by omega) trivial (fun d hd Q q => ⟨d, xs, rfl, thg_of (hr d hd), hxs, q⟩) ?_
    walk_at "dl"
    rw [show rs.map (fun d => D.bl (ordB xs d)) = (rs.map (ordB xs)).map D.bl from by rw [List.map_map]; rfl, boolsD_map]
    dsimp only
    rw [all_id]
    cases ea : rs.all (ordB xs) with
    | false => rw [ea] at h; exact h
    | true =>
      rw [ea, Bool.true_and] at h
      walk_at "go"
      refine ⟨_, rfl, by omega, fun d hd => ⟨(ord_pur (List.all_eq_true.mp ea d hd)).1, thD_fit 20 d (thD_mono 19 20 d (by decide) (hr d hd))⟩, h⟩
noncomputable def strB : D → Bool
  | .tup ps => decide (ps.length ≤ 4) && (ps.all nmD && ndB ps)
  | _ => false
def sp_are_strict : SpD := fun ds m P _ => ∃ (d : D), ds = [d] ∧ Thg d ∧ P (.bl (strB d)) m
def rd_are_strict : DS :=
    sSeq (sIf (rOr (rNot (rTru (rCB cIsi (rCons (rV 0) (rCons (rC (.ty "tuple")) (rNil)))))) (rTst (rOp oGt (rCB cLen (rCons (rV 0) (rNil))) (rC (.int 4))))) (sRet (rC (.bl false))) (sNext))
    (sRet (rAndV (rCB cAll (rCons (rLc (iAny (rV 0)) [1] (gN 1) (qYes) (rCall sp_is_name [] (rCons (rV 1) (rNil)))) (rNil))) (rCall sp_are_unlike [] (rCons (rCB cLst (rCons (rV 0) (rNil))) (rNil)))))
theorem ln_are_strict : ∀ ds m Q PX, sp_are_strict ds m Q PX → ds.length = 1 := fun ds m Q PX h => by (repeat (obtain ⟨_, h⟩ := h)); subst_vars; rfl
theorem pu_are_strict : ∀ ds m Q PX, sp_are_strict ds m Q PX → rd_are_strict (dEnds Q PX) (dstart ["strict", "part"] ds) m := by
  rintro ds m Q PX ⟨d, rfl, hd, h⟩
  revert h
  refine hd.cases_ (p := fun d => Q (.bl (strB d)) m → rd_are_strict (dEnds Q PX) (dstart ["strict", "part"] [d]) m) ?_ ?_ ?_ ?_ ?_ ?_ ?_
  all_goals (try (intros; walk_at "go"; assumption))
  intro rs hl hr h
  change Q (.bl (decide (rs.length ≤ 4) && (rs.all nmD && ndB rs))) m at h
  walk_at "go"
  cases h4 : decide ((4 : Int) < (rs.length : Nat)) with
  | true =>
    have := of_decide_eq_true h4
    rw [decide_eq_false (by omega : ¬ rs.length ≤ 4)] at h
    exact h
  | false =>
    have := of_decide_eq_false h4
    rw [decide_eq_true (by omega : rs.length ≤ 4), Bool.true_and] at h
    walk_at "go"
    refine comp_map (fun d => .bl (nmD d)) (by omega) trivial (fun d hd Q q => ⟨d, rfl, thg_of (hr d hd), q⟩) ?_
    walk_at "dl"
    rw [show rs.map (fun d => D.bl (nmD d)) = (rs.map nmD).map D.bl from by rw [List.map_map]; rfl, boolsD_map]
    dsimp only
    rw [all_id]
    cases ea : rs.all nmD with
    | false => rw [ea] at h; exact h
    | true =>
      rw [ea, Bool.true_and] at h
      walk_at "go"
      refine ⟨_, rfl, by omega, fun d hd => ⟨?_, thD_fit 20 d (thD_mono 19 20 d (by decide) (hr d hd))⟩, h⟩
      have := List.all_eq_true.mp ea d hd
      cases d with
      | str x => rfl
      | _ => cases this
end DL

namespace DL
open PySem L2
local macro_rules | `(tactic| walk_at "dl") => `(tactic| ((conv => whnf); try dsimp only))
local macro_rules | `(tactic| walk_at "sd") => `(tactic| first | trivial | exact Nat.zero_le _ | assumption | decide | omega | exact len_line (by first | decide | omega | (simp; done) | (simp; omega)) | (simp; done) | (simp; omega) | exact ⟨by decide, by decide, by decide⟩ | exact .inl ⟨by decide, by decide⟩ | exact .inl ⟨by omega, by omega⟩ | exact wide_div (b := 64) (by decide) (by decide) (by decide) (by decide))
local macro_rules | `(tactic| walk_at "go") => `(tactic| ((conv => whnf); (try dsimp only); repeat ((with_reducible refine And.intro ?_ ?_); (focus (walk_at "sd")); (conv => whnf); (try dsimp only))))
local macro_rules | `(tactic| walk_at "th") => `(tactic| repeat' (first | assumption | exact thD_txt _ _ | exact thD_int | exact thD_non | exact thD_bl | (refine thD_mono _ _ _ ?_ (by assumption); decide) | refine List.forall_mem_cons.mpr (And.intro ?_ ?_) | exact List.forall_mem_nil _ | refine thD_tup (by simp) ?_ | refine thD_lst (by simp) ?_))
local macro_rules | `(tactic| walk_at "ln") => `(tactic| (intro ds m Q PX h; repeat (obtain ⟨_, h⟩ := h); subst_vars; rfl))
def wsB : D → Bool
  | .ins n _ => decide (n = "Wish")
  | _ => false
/-- a thing, or a wish -/
def WT (d : D) : Prop := thD 18 d ∨ ∃ W : Ws, d = W.d
theorem all_ws {xs : List D} (hx : ∀ d ∈ xs, WT d) (h : xs.all wsB = true) : ∃ ws : List Ws, xs = ws.map Ws.d := by
  induction xs with
  | nil => exact ⟨[], rfl⟩
  | cons d xs ih =>
    rw [List.all_cons, Bool.and_eq_true] at h
    obtain ⟨ws, rfl⟩ := ih (fun d hd => hx d (List.mem_cons_of_mem _ hd)) h.2
    rcases hx d List.mem_cons_self with z | ⟨W, rfl⟩
    · cases d <;> first | cases h.1 | cases z
    · exact ⟨W :: ws, rfl⟩
def pFs (t o s : D) : List (Str × D) := [("told", t), ("orders", o), ("strict", s)]
def pOut (b1 b2 b3 : Bool) (A : Prop) (B : Str → Prop) : Prop := match b1, b2, b3 with
  | true, true, true => A
  | false, _, _ => B "no list of wishes"
  | true, false, _ => B "no wish"
  | true, true, false => B "names, orders or strict parts that are none"
noncomputable def planB (ns : List Str) (o s : D) : Bool := decide ns.Nodup && (ordsB ns o && strB s)
theorem nd_strs (ns : List Str) : ndB (ns.map .str) = decide ns.Nodup := by
  rw [Bool.eq_iff_iff, ndB_iff, decide_eq_true_eq]
  constructor
  · intro h
    exact List.Pairwise.of_map D.str (fun a b hne e => hne (by rw [e])) h
  · intro h
    exact List.Pairwise.map D.str (fun a b hne e => hne (by injection e)) h
def sp_Plan___init__ : SpD := fun ds m P PX => ∃ (q : Addr) (ws : List Ws) (o s : D), ds = [.adr q, .lst (ws.map Ws.d), o, s] ∧ m q = some (.ins "Plan" []) ∧ ws.length ≤ 1000 ∧ (∀ W ∈ ws, nmB W.name = true) ∧ Thg o ∧ Thg s ∧
  pOut (decide (ws.length ≤ 5)) true (planB (ws.map Ws.name) o s) (P .non (mset m q (.ins "Plan" (pFs (.tup (ws.map Ws.d)) o s)))) (fun y => PX "BadPlan" [("why", .str y)] m)
def rd_Plan___init__ : DS :=
    sSeq (sIf (rOr (rNot (rTru (rCB cIsi (rCons (rV 1) (rCons (rC (.ty "list")) (rNil)))))) (rTst (rOp oGt (rCB cLen (rCons (rV 1) (rNil))) (rC (.int 5))))) (sRaise "BadPlan" (rCons (rC (.str "no list of wishes")) (rNil))) (sNext))
    (sSeq (sIf (rNot (rTru (rCB cAll (rCons (rLc (iAny (rV 1)) [5] (gN 5) (qYes) (rCB cIsG (rCons (rV 5) (rCons (rC (.glb "Wish")) (rNil))))) (rNil))))) (sRaise "BadPlan" (rCons (rC (.str "no wish")) (rNil))) (sNext))
    (sSeq (sSet 4 (rLc (iAny (rV 1)) [5] (gN 5) (qYes) (rFld "Wish" "name" (rV 5))))
    (sSeq (sIf (rOr (rNot (rTru (rCall sp_are_unlike [] (rCons (rV 4) (rNil))))) (rOr (rNot (rTru (rCall sp_are_orders [] (rCons (rV 2) (rCons (rV 4) (rNil)))))) (rNot (rTru (rCall sp_are_strict [] (rCons (rV 3) (rNil))))))) (sRaise "BadPlan" (rCons (rC (.str "names, orders or strict parts that are none")) (rNil))) (sNext))
    (sSeq (sSetF "Plan" "told" (rV 0) (rCB cTup (rCons (rV 1) (rNil))))
    (sSeq (sSetF "Plan" "orders" (rV 0) (rV 2))
    (sSetF "Plan" "strict" (rV 0) (rV 3)))))))
theorem ln_Plan___init__ : ∀ ds m Q PX, sp_Plan___init__ ds m Q PX → ds.length = 4 := fun ds m Q PX h => by (repeat (obtain ⟨_, h⟩ := h)); subst_vars; rfl
def T_Plan___init___2 : DS := sSeq (sIf (rNot (rTru (rCB cAll (rCons (rLc (iAny (rV 1)) [5] (gN 5) (qYes) (rCB cIsG (rCons (rV 5) (rCons (rC (.glb "Wish")) (rNil))))) (rNil))))) (sRaise "BadPlan" (rCons (rC (.str "no wish")) (rNil))) (sNext))
    (sSeq (sSet 4 (rLc (iAny (rV 1)) [5] (gN 5) (qYes) (rFld "Wish" "name" (rV 5))))
    (sSeq (sIf (rOr (rNot (rTru (rCall sp_are_unlike [] (rCons (rV 4) (rNil))))) (rOr (rNot (rTru (rCall sp_are_orders [] (rCons (rV 2) (rCons (rV 4) (rNil)))))) (rNot (rTru (rCall sp_are_strict [] (rCons (rV 3) (rNil))))))) (sRaise "BadPlan" (rCons (rC (.str "names, orders or strict parts that are none")) (rNil))) (sNext))
    (sSeq (sSetF "Plan" "told" (rV 0) (rCB cTup (rCons (rV 1) (rNil))))
    (sSeq (sSetF "Plan" "orders" (rV 0) (rV 2))
    (sSetF "Plan" "strict" (rV 0) (rV 3))))))
def T_Plan___init___3 : DS := sSeq (sSet 4 (rLc (iAny (rV 1)) [5] (gN 5) (qYes) (rFld "Wish" "name" (rV 5))))
    (sSeq (sIf (rOr (rNot (rTru (rCall sp_are_unlike [] (rCons (rV 4) (rNil))))) (rOr (rNot (rTru (rCall sp_are_orders [] (rCons (rV 2) (rCons (rV 4) (rNil)))))) (rNot (rTru (rCall sp_are_strict [] (rCons (rV 3) (rNil))))))) (sRaise "BadPlan" (rCons (rC (.str "names, orders or strict parts that are none")) (rNil))) (sNext))
    (sSeq (sSetF "Plan" "told" (rV 0) (rCB cTup (rCons (rV 1) (rNil))))
    (sSeq (sSetF "Plan" "orders" (rV 0) (rV 2))
    (sSetF "Plan" "strict" (rV 0) (rV 3)))))
def T_Plan___init___4 : DS := sSeq (sIf (rOr (rNot (rTru (rCall sp_are_unlike [] (rCons (rV 4) (rNil))))) (rOr (rNot (rTru (rCall sp_are_orders [] (rCons (rV 2) (rCons (rV 4) (rNil)))))) (rNot (rTru (rCall sp_are_strict [] (rCons (rV 3) (rNil))))))) (sRaise "BadPlan" (rCons (rC (.str "names, orders or strict parts that are none")) (rNil))) (sNext))
    (sSeq (sSetF "Plan" "told" (rV 0) (rCB cTup (rCons (rV 1) (rNil))))
    (sSeq (sSetF "Plan" "orders" (rV 0) (rV 2))
    (sSetF "Plan" "strict" (rV 0) (rV 3))))
def T_Plan___init___5 : DS := sSeq (sSetF "Plan" "told" (rV 0) (rCB cTup (rCons (rV 1) (rNil))))
    (sSeq (sSetF "Plan" "orders" (rV 0) (rV 2))
    (sSetF "Plan" "strict" (rV 0) (rV 3)))
def T_Plan___init___6 : DS := sSeq (sSetF "Plan" "orders" (rV 0) (rV 2))
    (sSetF "Plan" "strict" (rV 0) (rV 3))
def T_Plan___init___7 : DS := sSetF "Plan" "strict" (rV 0) (rV 3)
theorem pu_Plan___init__ : ∀ ds m Q PX, sp_Plan___init__ ds m Q PX → rd_Plan___init__ (dEnds Q PX) (dstart ["self", "wishes", "orders", "strict", "names", "wish"] ds) m := by
  rintro ds m Q PX ⟨q, ws, o, s, rfl, hq, hws, hnm, ho, hs, h⟩
  have lm : (ws.map Ws.d).length = ws.length := List.length_map _
  walk_at "go"
  rw [lm]
  cases h5 : decide ((5 : Int) < (ws.length : Nat)) with
  | true =>
    have := of_decide_eq_true h5
    rw [decide_eq_false (by omega : ¬ ws.length ≤ 5)] at h
    exact h
  | false =>
    have := of_decide_eq_false h5
    rw [decide_eq_true (by omega : ws.length ≤ 5)] at h
    walk_at "go"
    refine comp_on ws Ws.d (fun _ => .bl true) (by omega) trivial (fun W _ Q q => ?_) ?_
    · walk_at "go"
      exact q
    walk_at "dl"
    rw [show ws.map (fun _ => D.bl true) = (ws.map fun _ => true).map D.bl from by rw [List.map_map]; rfl, boolsD_map]
    dsimp only
    rw [all_id, show (ws.all fun _ => true) = true from List.all_eq_true.mpr fun _ _ => rfl]
    walk_at "go"
    refine comp_on ws Ws.d (fun W => .str W.name) (by omega) trivial (fun W _ Q q => ?_) ?_
    · walk_at "go"
      exact q
    obtain ⟨ns, hns⟩ : ∃ ns, ns = ws.map Ws.name := ⟨_, rfl⟩
    have en : (ws.map fun W => D.str W.name) = ns.map D.str := by rw [hns, List.map_map]; rfl
    have ln : ns.length = ws.length := by rw [hns, List.length_map]
    rw [en]
    rw [← hns] at h
    unfold planB at h
    walk_at "go"
    refine ⟨_, rfl, by rw [List.length_map]; omega, fun d hd => ?_, ?_⟩
    · obtain ⟨x, hx, rfl⟩ := List.mem_map.mp hd
      rw [hns] at hx
      obtain ⟨W, hW, rfl⟩ := List.mem_map.mp hx
      exact ⟨rfl, thD_fit 20 _ (thD_nm (hnm W hW))⟩
    rw [nd_strs]
    cases e1 : decide ns.Nodup with
    | false => rw [e1] at h; exact h
    | true =>
      rw [e1, Bool.true_and] at h
      walk_at "go"
      refine ⟨o, ns, rfl, ho, by omega, ?_⟩
      cases e2 : ordsB ns o with
      | false => rw [e2] at h; exact h
      | true =>
        rw [e2, Bool.true_and] at h
        walk_at "go"
        refine ⟨s, rfl, hs, ?_⟩
        cases e3 : strB s with
        | false => rw [e3] at h; exact h
        | true =>
          rw [e3] at h
          walk_at "go"
          rw [hq]
          dsimp only
          have pl : ∀ {f : Str} {v : D} {fs : List (Str × D)} {k : Nat}, fs.length ≤ k → (putFd f v fs).length ≤ k + 1 := fun hk => Nat.le_trans (putFd_len _ _ _) (by omega)
          have p1 : ∀ {fs : List (Str × D)}, fs.length ≤ 5 → fs.length < 900 := fun hk => by omega
          refine ⟨rfl, by decide, ?_⟩
          walk_at "go"
          rw [mset_same]; dsimp only; refine ⟨rfl, p1 (Nat.le_trans (pl (Nat.le_refl _)) (by decide)), ?_⟩; rw [mset_mset]; walk_at "go"
          rw [mset_same]; dsimp only; refine ⟨rfl, p1 (Nat.le_trans (pl (pl (Nat.le_refl _))) (by decide)), ?_⟩; rw [mset_mset]; walk_at "go"
          exact h
end DL

namespace DL
open PySem L2
local macro_rules | `(tactic| walk_at "dl") => `(tactic| ((conv => whnf); try dsimp only))
local macro_rules | `(tactic| walk_at "sd") => `(tactic| first | trivial | exact Nat.zero_le _ | assumption | decide | omega | exact len_line (by first | decide | omega | (simp; done) | (simp; omega)) | (simp; done) | (simp; omega) | exact ⟨by decide, by decide, by decide⟩ | exact .inl ⟨by decide, by decide⟩ | exact .inl ⟨by omega, by omega⟩ | exact wide_div (b := 64) (by decide) (by decide) (by decide) (by decide))
local macro_rules | `(tactic| walk_at "go") => `(tactic| ((conv => whnf); (try dsimp only); repeat ((with_reducible refine And.intro ?_ ?_); (focus (walk_at "sd")); (conv => whnf); (try dsimp only))))
local macro_rules | `(tactic| walk_at "th") => `(tactic| repeat' (first | assumption | exact thD_txt _ _ | exact thD_int | exact thD_non | exact thD_bl | (refine thD_mono _ _ _ ?_ (by assumption); decide) | refine List.forall_mem_cons.mpr (And.intro ?_ ?_) | exact List.forall_mem_nil _ | refine thD_tup (by simp) ?_ | refine thD_lst (by simp) ?_))
local macro_rules | `(tactic| walk_at "ln") => `(tactic| (intro ds m Q PX h; repeat (obtain ⟨_, h⟩ := h); subst_vars; rfl))
def pnD (ws : List Ws) (o s : D) : D := .ins "Plan" (pFs (.tup (ws.map Ws.d)) o s)
def sp_Plan_wishes : SpD := fun ds m P _ => ∃ (ws : List Ws) (o s : D), ds = [pnD ws o s] ∧ ws.length ≤ 1000 ∧ P (.lst (ws.map Ws.d)) m
def rd_Plan_wishes : DS :=
    sRet (rCB cLst (rCons (rFld "Plan" "told" (rV 0)) (rNil)))
theorem ln_Plan_wishes : ∀ ds m Q PX, sp_Plan_wishes ds m Q PX → ds.length = 1 := fun ds m Q PX h => by (repeat (obtain ⟨_, h⟩ := h)); subst_vars; rfl
theorem pu_Plan_wishes : ∀ ds m Q PX, sp_Plan_wishes ds m Q PX → rd_Plan_wishes (dEnds Q PX) (dstart ["self"] ds) m := by
  rintro ds m Q PX ⟨ws, o, s, rfl, hl, h⟩
  have lm : (ws.map Ws.d).length = ws.length := List.length_map _
  walk_at "go"
  exact h
theorem comp_onf {Ph : Mu → Prop} {rg : DG} {qt : DT} {re : DE} {δ : DSt} {P : List D → Mu → Prop} {α : Type} {m : Mu} (ps : List α) (g f : α → D) (p : α → Bool) (hn : ps.length ≤ 16777216) (ph : Ph m)
    (he : ∀ x ∈ ps, ∀ (Kt : D → Mu → Prop) (Kf : Mu → Prop), (p x = true → Kt (f x) m) → (p x = false → Kf m) → rg (g x) δ m fun δ' m' => qt δ' m' (fun k m1 => match k with | true => re δ' m1 Kt noX | false => Kf m1) noX)
    (h : P ((ps.filter p).map f) m) : rComp Ph rg qt re δ P (ps.map g) [] m := by
  refine comp_inv (fun i acc m' => m' = m ∧ acc = ((ps.take i).filter p).map f) (fun i acc m' h => ?_) (by rw [List.length_map]; exact hn) (fun i d acc m' e h => ?_) (fun acc m' h => ?_) ⟨rfl, by simp⟩
  · rw [h.2, List.length_map]
    exact Nat.le_trans (List.length_filter_le _ _) (by rw [List.length_take]; omega)
  · obtain ⟨rfl, rfl⟩ := h
    rw [List.getElem?_map] at e
    cases ei : ps[i]? with
    | none => rw [ei] at e; cases e
    | some x =>
      rw [ei] at e
      cases e
      refine ⟨ph, fun Kt Kf h1 h2 => ?_⟩
      have et : ps.take (i + 1) = ps.take i ++ [x] := by rw [List.take_add_one, ei]; rfl
      refine he x (List.mem_of_getElem? ei) Kt Kf (fun e => h1 _ _ ⟨rfl, ?_⟩) fun e => h2 _ ⟨rfl, ?_⟩
      · rw [et, List.filter_append, List.map_append]; simp [e]
      · rw [et, List.filter_append, List.map_append]; simp [e]
  · obtain ⟨rfl, rfl⟩ := h
    refine ⟨ph, ?_⟩
    rw [List.length_map, List.take_length]
    exact h
def seen (ws : List Ws) (a b : Str) (ts : List Int) : List Str := (ws.filter fun W => W.sees a b ts).map Ws.name
def kindD (ws : List Ws) (ss : List Str) (a b : Str) (ts : List Int) : D := if seen ws a b ts = [] ∧ a ∈ ss then .non else .tup ((seen ws a b ts).map .str)
def sp_kind_within : SpD := fun ds m P _ => ∃ (ws : List Ws) (o : D) (ss : List Str) (a b : Str) (ts : List Int), ds = [pnD ws o (.tup (ss.map .str)), askD a b ts] ∧ ws.length ≤ 1000 ∧ (∀ W ∈ ws, okLs W.looks ∧ nmB W.name = true) ∧ ts.length ≤ 100 ∧ ss.length ≤ 100 ∧ P (kindD ws ss a b ts) m
def rd_kind_within : DS :=
    sSeq (sSet 2 (rCB cTup (rCons (rLc (iAny (rMet "Plan" "wishes" sp_Plan_wishes 0 0 (gI [0]) (rV 0) (rNil) (rNil))) [3] (gN 3) (rTru (rMet "Wish" "is_fit" sp_Wish_is_fit 1 0 (gI [0, 1]) (rV 3) (rCons (rV 1) (rNil)) (rNil))) (rFld "Wish" "name" (rV 3))) (rNil))))
    (sSeq (sIf (rAnd (rTst (rOp oEq (rV 2) (rTup (rNil)))) (rTst (rOp (oInN false) (rOp oIx (rV 1) (rC (.int 0))) (rFld "Plan" "strict" (rV 0))))) (sRet (rC .non)) (sNext))
    (sRet (rV 2)))
theorem ln_kind_within : ∀ ds m Q PX, sp_kind_within ds m Q PX → ds.length = 2 := fun ds m Q PX h => by (repeat (obtain ⟨_, h⟩ := h)); subst_vars; rfl
theorem pu_kind_within : ∀ ds m Q PX, sp_kind_within ds m Q PX → rd_kind_within (dEnds Q PX) (dstart ["plan", "ask", "names", "wish"] ds) m := by
  rintro ds m Q PX ⟨ws, o, ss, a, b, ts, rfl, hl, hW, hts, hss, h⟩
  walk_at "go"
  refine ⟨ws, o, _, rfl, hl, ?_⟩
  walk_at "go"
  refine comp_onf ws Ws.d (fun W => .str W.name) (fun W => W.sees a b ts) (by omega) trivial (fun W hm Kt Kf ht hf => ?_) ?_
  · walk_at "go"
    refine ⟨W, a, b, ts, rfl, (hW W hm).1, hts, ?_⟩
    cases e : W.sees a b ts with
    | true => exact ht e
    | false => exact hf e
  obtain ⟨ns, hns⟩ : ∃ ns, ns = seen ws a b ts := ⟨_, rfl⟩
  have en : ((ws.filter fun W => W.sees a b ts).map fun W => D.str W.name) = ns.map D.str := by rw [hns]; unfold seen; rw [List.map_map]; rfl
  have ln : ns.length ≤ ws.length := by rw [hns]; unfold seen; rw [List.length_map]; exact List.length_filter_le _ _
  rw [en]
  unfold kindD at h
  rw [← hns] at h
  have lm : (ns.map D.str).length = ns.length := List.length_map _
  walk_at "go"
  have tn : thD 5 (.tup (ns.map D.str)) := ⟨by omega, fun d hd => by
    obtain ⟨x, hx, rfl⟩ := List.mem_map.mp hd
    rw [hns] at hx
    unfold seen at hx
    obtain ⟨W, hW', rfl⟩ := List.mem_map.mp hx
    exact thD_nm (hW W (List.mem_filter.mp hW').1).2⟩
  refine ⟨shpT tn, shpT (n := 1) thD_nil, ?_⟩
  rw [if_neg (by decide)]
  show (match deq (.tup (ns.map D.str)) (.tup []) with | true => _ | false => _)
  rw [deq_tup_nil]
  cases ns with
  | nil =>
    have fl : (ss.map D.str).all flatD = true := by simp [flatD]
    walk_at "go"
    first | refine ⟨⟨rfl, fl⟩, ?_⟩ | skip
    rw [if_neg (by decide), any_strs]
    by_cases ha : a ∈ ss
    · rw [if_pos ⟨rfl, ha⟩] at h
      rw [decide_eq_true ha]; exact h
    · rw [if_neg (fun z => ha z.2)] at h
      rw [decide_eq_false ha]; exact h
  | cons n r =>
    rw [if_neg (fun z => by cases z.1)] at h
    exact h
def sp_kind_of : SpD := fun ds m P PX => ∃ (ws : List Ws) (o : D) (ss : List Str) (x : D), ds = [pnD ws o (.tup (ss.map .str)), x] ∧ ws.length ≤ 1000 ∧ (∀ W ∈ ws, okLs W.looks ∧ nmB W.name = true) ∧ Thg x ∧ ss.length ≤ 100 ∧ (askB x = false → PX "BadAsk" [("why", .str "no ask")] m) ∧ (∀ a b ts, x = askD a b ts → askB x = true → P (kindD ws ss a b ts) m)
def rd_kind_of : DS :=
    sSeq (sExpr (rCall sp_check_ask [] (rCons (rV 1) (rNil))))
    (sRet (rCall sp_kind_within [] (rCons (rV 0) (rCons (rV 1) (rNil)))))
theorem ln_kind_of : ∀ ds m Q PX, sp_kind_of ds m Q PX → ds.length = 2 := fun ds m Q PX h => by (repeat (obtain ⟨_, h⟩ := h)); subst_vars; rfl
theorem pu_kind_of : ∀ ds m Q PX, sp_kind_of ds m Q PX → rd_kind_of (dEnds Q PX) (dstart ["plan", "ask"] ds) m := by
  rintro ds m Q PX ⟨ws, o, ss, x, rfl, hl, hW, hx, hss, h1, h2⟩
  walk_at "go"
  refine ⟨x, rfl, hx, ?_⟩
  cases e : askB x with
  | false => exact h1 e
  | true =>
    obtain ⟨a, b, ts, rfl, _, _, ht⟩ := ask_of e
    walk_at "go"
    exact ⟨ws, o, ss, a, b, ts, rfl, hl, hW, by omega, hss, h2 a b ts rfl e⟩
end DL

namespace DL
open PySem L2
local macro_rules | `(tactic| walk_at "dl") => `(tactic| ((conv => whnf); try dsimp only))
local macro_rules | `(tactic| walk_at "sd") => `(tactic| first | trivial | exact Nat.zero_le _ | assumption | decide | omega | exact len_line (by first | decide | omega | (simp; done) | (simp; omega)) | (simp; done) | (simp; omega) | exact ⟨by decide, by decide, by decide⟩ | exact .inl ⟨by decide, by decide⟩ | exact .inl ⟨by omega, by omega⟩ | exact wide_div (b := 64) (by decide) (by decide) (by decide) (by decide))
local macro_rules | `(tactic| walk_at "go") => `(tactic| ((conv => whnf); (try dsimp only); repeat ((with_reducible refine And.intro ?_ ?_); (focus (walk_at "sd")); (conv => whnf); (try dsimp only))))
local macro_rules | `(tactic| walk_at "th") => `(tactic| repeat' (first | assumption | exact thD_txt _ _ | exact thD_int | exact thD_non | exact thD_bl | (refine thD_mono _ _ _ ?_ (by assumption); decide) | refine List.forall_mem_cons.mpr (And.intro ?_ ?_) | exact List.forall_mem_nil _ | refine thD_tup (by simp) ?_ | refine thD_lst (by simp) ?_))
local macro_rules | `(tactic| walk_at "ln") => `(tactic| (intro ds m Q PX h; repeat (obtain ⟨_, h⟩ := h); subst_vars; rfl))
abbrev sp__law_draw_v2 : SpD := spDrawK
def rd__law_draw_v2 : DS :=
    sSeq (sIf (rTst (rOp oGt (rOp oIx (rV 0) (rC (.int 0))) (rC (.int 0)))) (sSeq (sSet 3 (rOp oMod (rCB cInt (rCons (rOp oIx (rV 0) (rC (.int 0))) (rNil))) (rV 1)))
    (sSeq (sSetIx (rOp oDiv (rOp oIx (rV 0) (rC (.int 0))) (rV 1)) (rV 0) (rC (.int 0)))
    (sRet (rV 3)))) (sNext))
    (sSeq (sSetIx (rOp oAdd (rOp oIx (rV 0) (rC (.int 2))) (rC (.int 1))) (rV 0) (rC (.int 2)))
    (sSeq (sSet 2 (rOp oMod (rCB cInt (rCons (rOp oPow (rOp oAdd (rOp oAdd (rOp oIx (rV 0) (rC (.int 1))) (rOp oMul (rC (.int 6007)) (rOp oIx (rV 0) (rC (.int 2))))) (rC (.int 3))) (rC (.int 5))) (rNil))) (rC (.int 2147483647))))
    (sSeq (sSet 2 (rOp oMod (rCB cInt (rCons (rOp oMul (rV 2) (rOp oAdd (rOp oAdd (rOp oDiv (rV 2) (rC (.int 1013))) (rC (.int 69767))) (rOp oIx (rV 0) (rC (.int 2))))) (rNil))) (rC (.int 2147483629))))
    (sRet (rOp oMod (rCB cInt (rCons (rOp oMod (rCB cInt (rCons (rOp oMul (rV 2) (rOp oAdd (rOp oDiv (rV 2) (rC (.int 2011))) (rC (.int 40993)))) (rNil))) (rC (.int 2147483399))) (rNil))) (rV 1))))))
theorem ln__law_draw_v2 : ∀ ds m Q PX, sp__law_draw_v2 ds m Q PX → ds.length = 2 := by rintro ds m Q PX ⟨d, k, rfl, _⟩; rfl
theorem draw2_pure (x1 x2 x3 x4 : Str) : ∀ ds m Q PX, spDraw ds m Q PX → rd__law_draw_v2 (dEnds Q PX) (dstart [x1, x2, x3, x4] ds) m := by
  rintro ds m Q PX ⟨w, many, k, rfl, wl, hk, h0, hb, h⟩
  obtain ⟨a, b, c, e, hb1, hb2, hc1, hc2⟩ := wl.ex
  have dv : ∀ i : Int, CDivW i many := fun i => wide_div h0 hb (by decide) (by decide)
  walk_at "dl"
  rw [asL_adr e]
  walk_at "dl"
  cases ha : decide (0 < a) with
  | true =>
    walk_at "dl"
    rw [asL_adr e]
    walk_at "dl"
    refine ⟨h0, ?_⟩
    walk_at "dl"
    rw [asL_adr e]
    walk_at "dl"
    refine ⟨dv a, ?_⟩
    walk_at "dl"
    rw [e]
    walk_at "dl"
    exact h _ _ (Int.emod_nonneg _ (by omega)) (Int.emod_lt_of_pos _ h0) (only_mset _ _ _) ⟨_, b, c, mset_same, hb1, hb2, hc1, by omega⟩
  | false =>
    walk_at "dl"
    rw [asL_adr e]
    walk_at "dl"
    rw [e]
    walk_at "dl"
    rw [asL_adr mset_same]
    walk_at "dl"
    rw [asL_adr mset_same]
    walk_at "dl"
    refine ⟨.inl ⟨by decide, by decide⟩, ?_⟩
    walk_at "dl"
    have bound : ∀ z : Int, 0 ≤ z → z ≤ 10000000000000 → CPow (b + z + 3) 5 := fun z h1 h2 => ⟨by decide, by decide, by
      have : (2 : Nat) ^ 64 = 18446744073709551616 := by decide
      omega⟩
    refine ⟨bound _ (by omega) (by omega), ?_⟩
    walk_at "dl"
    refine ⟨(by show (0 : Int) < _; decide), ?_⟩
    walk_at "dl"
    generalize hF : (b + 6007 * (c + 1) + 3) ^ Int.toNat 5 % 2147483647 = f1
    have f1a : 0 ≤ f1 := by rw [← hF]; exact Int.emod_nonneg _ (by decide)
    have f1b : f1 < 2147483647 := by rw [← hF]; exact Int.emod_lt_of_pos _ (by decide)
    refine ⟨wide_div (b := 11) (by decide) (by decide) (by decide) (by decide), ?_⟩
    walk_at "dl"
    rw [asL_adr mset_same]
    walk_at "dl"
    refine ⟨.inl ⟨by omega, by omega⟩, ?_⟩
    walk_at "dl"
    refine ⟨(by show (0 : Int) < _; decide), ?_⟩
    walk_at "dl"
    generalize hF2 : f1 * (f1 / 1013 + 69767 + (c + 1)) % 2147483629 = f2
    have f2a : 0 ≤ f2 := by rw [← hF2]; exact Int.emod_nonneg _ (by decide)
    have f2b : f2 < 2147483629 := by rw [← hF2]; exact Int.emod_lt_of_pos _ (by decide)
    refine ⟨wide_div (b := 11) (by decide) (by decide) (by decide) (by decide), ?_⟩
    walk_at "dl"
    refine ⟨.inl ⟨by omega, by omega⟩, ?_⟩
    walk_at "dl"
    refine ⟨(by show (0 : Int) < _; decide), ?_⟩
    walk_at "dl"
    refine ⟨h0, ?_⟩
    exact h _ _ (Int.emod_nonneg _ (by omega)) (Int.emod_lt_of_pos _ h0) (only_mset _ _ _) ⟨a, b, c + 1, mset_same, hb1, hb2, by omega, by omega⟩
theorem pu__law_draw_v2 : ∀ ds m Q PX, sp__law_draw_v2 ds m Q PX → rd__law_draw_v2 (dEnds Q PX) (dstart ["_law_spring_here", "_law_many", "_law_number", "_law_digit"] ds) m := fun ds m Q PX h => draw2_pure _ _ _ _ ds m Q PX (drawK_draw h)
end DL

namespace DL
open PySem L2
local macro_rules | `(tactic| walk_at "dl") => `(tactic| ((conv => whnf); try dsimp only))
local macro_rules | `(tactic| walk_at "sd") => `(tactic| first | trivial | exact Nat.zero_le _ | assumption | decide | omega | exact len_line (by first | decide | omega | (simp; done) | (simp; omega)) | (simp; done) | (simp; omega) | exact ⟨by decide, by decide, by decide⟩ | exact .inl ⟨by decide, by decide⟩ | exact .inl ⟨by omega, by omega⟩ | exact wide_div (b := 64) (by decide) (by decide) (by decide) (by decide))
local macro_rules | `(tactic| walk_at "go") => `(tactic| ((conv => whnf); (try dsimp only); repeat ((with_reducible refine And.intro ?_ ?_); (focus (walk_at "sd")); (conv => whnf); (try dsimp only))))
local macro_rules | `(tactic| walk_at "th") => `(tactic| repeat' (first | assumption | exact thD_txt _ _ | exact thD_int | exact thD_non | exact thD_bl | (refine thD_mono _ _ _ ?_ (by assumption); decide) | refine List.forall_mem_cons.mpr (And.intro ?_ ?_) | exact List.forall_mem_nil _ | refine thD_tup (by simp) ?_ | refine thD_lst (by simp) ?_))
local macro_rules | `(tactic| walk_at "ln") => `(tactic| (intro ds m Q PX h; repeat (obtain ⟨_, h⟩ := h); subst_vars; rfl))
def sp__law_spring : SpD := fun ds m P _ => ∃ c : Int, ds = [.int c] ∧ ∀ w m', m w = none → Kp [] m m' → Wl m' w 0 → P (.adr w) m'
def rd__law_spring : DS :=
    sSeq (sIf (rTst (rOp oGe (rV 0) (rOp oPow (rC (.int 10)) (rC (.int 18))))) (sRet (rLstM (rCons (rV 0) (rCons (rOp oMod (rCB cInt (rCons (rV 0) (rNil))) (rC (.int 1000003))) (rCons (rC (.int 0)) (rNil)))))) (sNext))
    (sRet (rLstM (rCons (rC (.int 0)) (rCons (rOp oMod (rCB cInt (rCons (rV 0) (rNil))) (rC (.int 2147483629))) (rCons (rC (.int 0)) (rNil))))))
theorem ln__law_spring : ∀ ds m Q PX, sp__law_spring ds m Q PX → ds.length = 1 := fun ds m Q PX h => by (repeat (obtain ⟨_, h⟩ := h)); subst_vars; rfl
theorem pu__law_spring : ∀ ds m Q PX, sp__law_spring ds m Q PX → rd__law_spring (dEnds Q PX) (dstart ["_law_cell"] ds) m := by
  rintro ds m Q PX ⟨c, rfl, h⟩
  walk_at "go"
  cases hc : decide (10 ^ Int.toNat 18 ≤ c) with
  | true =>
    walk_at "go"
    intro q hq
    exact h q _ hq (kp_new hq) ⟨c, c % 1000003, 0, mset_same, Int.emod_nonneg _ (by decide), Int.lt_trans (Int.emod_lt_of_pos _ (by decide)) (by decide), by decide, by decide⟩
  | false =>
    walk_at "go"
    intro q hq
    exact h q _ hq (kp_new hq) ⟨0, c % 2147483629, 0, mset_same, Int.emod_nonneg _ (by decide), Int.emod_lt_of_pos _ (by decide), by decide, by decide⟩
abbrev sp__law_one_v2 : SpD := sp__law_one
def rd__law_one_v2 : DS :=
    sRet (rOp oIx (rV 1) (rCall sp__law_draw_v2 [] (rCons (rV 0) (rCons (rCB cLen (rCons (rV 1) (rNil))) (rNil)))))
theorem ln__law_one_v2 : ∀ ds m Q PX, sp__law_one_v2 ds m Q PX → ds.length = 2 := ln__law_one
theorem pu__law_one_v2 : ∀ ds m Q PX, sp__law_one_v2 ds m Q PX → rd__law_one_v2 (dEnds Q PX) (dstart ["_law_spring_here", "_law_some"] ds) m := pu__law_one
end DL

namespace DL
open PySem L2
local macro_rules | `(tactic| walk_at "dl") => `(tactic| ((conv => whnf); try dsimp only))
local macro_rules | `(tactic| walk_at "sd") => `(tactic| first | trivial | exact Nat.zero_le _ | assumption | decide | omega | exact len_line (by first | decide | omega | (simp; done) | (simp; omega)) | (simp; done) | (simp; omega) | exact ⟨by decide, by decide, by decide⟩ | exact .inl ⟨by decide, by decide⟩ | exact .inl ⟨by omega, by omega⟩ | exact wide_div (b := 64) (by decide) (by decide) (by decide) (by decide))
local macro_rules | `(tactic| walk_at "go") => `(tactic| ((conv => whnf); (try dsimp only); repeat ((with_reducible refine And.intro ?_ ?_); (focus (walk_at "sd")); (conv => whnf); (try dsimp only))))
local macro_rules | `(tactic| walk_at "th") => `(tactic| repeat' (first | assumption | exact thD_txt _ _ | exact thD_int | exact thD_non | exact thD_bl | (refine thD_mono _ _ _ ?_ (by assumption); decide) | refine List.forall_mem_cons.mpr (And.intro ?_ ?_) | exact List.forall_mem_nil _ | refine thD_tup (by simp) ?_ | refine thD_lst (by simp) ?_))
local macro_rules | `(tactic| walk_at "ln") => `(tactic| (intro ds m Q PX h; repeat (obtain ⟨_, h⟩ := h); subst_vars; rfl))
theorem join_low (l : List Str) (h : ∀ x ∈ l, x.cps.toList.all low = true) : (Txt.join "" l).cps.toList.all low = true := by
  rw [TL.join_eq]
  induction l with
  | nil => decide
  | cons x l ih =>
    cases l with
    | nil => rw [PyProof.Rows.join_one]; exact h x List.mem_cons_self
    | cons y r =>
      rw [PyProof.Rows.join_cons_cons, cps_app, cps_app, List.all_append, List.all_append, h x List.mem_cons_self, ih fun z hz => h z (List.mem_cons_of_mem _ hz)]
      decide
def sp__law_word : SpD := fun ds m P _ => ∃ (w : Addr) (n : Int), ds = [.adr w, .int n] ∧ 0 ≤ n ∧ n ≤ 7 ∧ Dr w 8 (fun d => ∃ x : Str, d = .str x ∧ x.length ≤ 7 ∧ x.cps.toList.all low = true) m P
def rd__law_word : DS :=
    sSeq (sSet 2 (rC (.str "abcdefghijklmnopqrstuvwxyz")))
    (sRet (rJoin (rC (.str "")) (rLc (iRange (rCons (rCall sp__law_draw_v2 [] (rCons (rV 0) (rCons (rOp oAdd (rV 1) (rC (.int 1))) (rNil)))) (rNil))) [3] (gN 3) (qYes) (rOp oIx (rV 2) (rCall sp__law_draw_v2 [] (rCons (rV 0) (rCons (rC (.int 26)) (rNil))))))))
theorem ln__law_word : ∀ ds m Q PX, sp__law_word ds m Q PX → ds.length = 2 := fun ds m Q PX h => by (repeat (obtain ⟨_, h⟩ := h)); subst_vars; rfl
theorem texts_map (xs : List Str) : textsD (xs.map .str) = some xs := by
  induction xs with
  | nil => rfl
  | cons x xs ih => rw [List.map_cons, textsD, ih]; rfl
theorem pu__law_word : ∀ ds m Q PX, sp__law_word ds m Q PX → rd__law_word (dEnds Q PX) (dstart ["_law_spring_here", "_law_size", "_law_letters", "_law_k"] ds) m := by
  rintro ds m Q PX ⟨w, n, rfl, n0, n7, h⟩
  have big : (2 : Nat) ^ 200 > 1000 := by decide
  walk_at "go"
  refine h.num (by decide) (by omega) (by omega) fun r m1 r0 r1 kp1 h => ?_
  walk_at "go"
  obtain ⟨k, wl, hk, h⟩ := h
  refine comp_inv (fun i acc m' => Wl m' w (k + i) ∧ Kp [w] m1 m' ∧ ∃ xs : List Str, acc = xs.map .str ∧ xs.length = i ∧ ∀ x ∈ xs, x.length = 1 ∧ x.cps.toList.all low = true) (fun i acc m' hh => ?_) (by rw [rg_len]; omega) (fun i d acc m' e hh => ?_) (fun acc m4 hh => ?_) ⟨wl, Kp.refl _ _, [], rfl, rfl, fun _ z => by cases z⟩
  · obtain ⟨_, _, xs, rfl, hl, _⟩ := hh
    rw [List.length_map, hl]; exact Nat.le_refl _
  · obtain ⟨wi, kpi, xs, rfl, hl, hx⟩ := hh
    obtain ⟨hi, rfl⟩ := rg_get e
    refine ⟨trivial, fun Kt Kf k1 _ => ?_⟩
    walk_at "go"
    refine ⟨w, 26, rfl, by decide, by decide, _, wi, by omega, fun d m5 hd kp5 w5 => ?_⟩
    obtain ⟨c, c0, c1, rfl⟩ := hd
    walk_at "go"
    rw [at_abc c0 c1]
    refine k1 _ _ ⟨w5, kpi.trans kp5, xs ++ [⟨#[97 + c.toNat]⟩], by simp, by simp [hl], fun x hx' => ?_⟩
    rcases List.mem_append.mp hx' with hx' | hx'
    · exact hx x hx'
    · rw [List.mem_singleton.mp hx']
      refine ⟨rfl, ?_⟩
      show [97 + c.toNat].all low = true
      simp [low_at (show c.toNat < 26 by omega)]
  · obtain ⟨w4, kp4, xs, rfl, hl, hx⟩ := hh
    rw [rg_len] at hl w4
    refine ⟨trivial, ?_⟩
    have hs : (xs.map (·.length)).sum ≤ xs.length * 1 := sum_len fun x hx' => by rw [(hx x hx').1]; exact Nat.le_refl _
    have e0 : Str.length "" = 0 := rfl
    walk_at "dl"
    rw [texts_map]
    refine ⟨by rw [e0]; omega, ?_⟩
    refine h _ _ ⟨_, rfl, ?_, join_low xs fun x hx' => (hx x hx').2⟩ kp4 (w4.mono (by omega))
    refine Nat.le_trans (join_len _ _) ?_
    rw [e0]; omega
end DL

namespace DL
open PySem L2
local macro_rules | `(tactic| walk_at "dl") => `(tactic| ((conv => whnf); try dsimp only))
local macro_rules | `(tactic| walk_at "sd") => `(tactic| first | trivial | exact Nat.zero_le _ | assumption | decide | omega | exact len_line (by first | decide | omega | (simp; done) | (simp; omega)) | (simp; done) | (simp; omega) | exact ⟨by decide, by decide, by decide⟩ | exact .inl ⟨by decide, by decide⟩ | exact .inl ⟨by omega, by omega⟩ | exact wide_div (b := 64) (by decide) (by decide) (by decide) (by decide))
local macro_rules | `(tactic| walk_at "go") => `(tactic| ((conv => whnf); (try dsimp only); repeat ((with_reducible refine And.intro ?_ ?_); (focus (walk_at "sd")); (conv => whnf); (try dsimp only))))
local macro_rules | `(tactic| walk_at "th") => `(tactic| repeat' (first | assumption | exact thD_txt _ _ | exact thD_int | exact thD_non | exact thD_bl | (refine thD_mono _ _ _ ?_ (by assumption); decide) | refine List.forall_mem_cons.mpr (And.intro ?_ ?_) | exact List.forall_mem_nil _ | refine thD_tup (by simp) ?_ | refine thD_lst (by simp) ?_))
local macro_rules | `(tactic| walk_at "ln") => `(tactic| (intro ds m Q PX h; repeat (obtain ⟨_, h⟩ := h); subst_vars; rfl))
def sp__law_look_v2 : SpD := fun ds m P _ => ∃ (w : Addr) (base : Int), ds = [.adr w, .int base] ∧ Bd 140 base ∧ Dr w 5 (fun d => ∃ l : Lk, l.Good 142 ∧ d = l.d) m P
def rd__law_look_v2 : DS :=
    sSeq (sSet 2 (rCall sp__law_draw_v2 [] (rCons (rV 0) (rCons (rC (.int 8)) (rNil)))))
    (sSeq (sSet 3 (rOp oAdd (rV 1) (rCall sp__law_draw_v2 [] (rCons (rV 0) (rCons (rC (.int 5)) (rNil))))))
    (sSeq (sSet 4 (rLstM (rCons (rTup (rCons (rC (.str "any")) (rNil))) (rCons (rTup (rCons (rC (.str "is")) (rCons (rV 3) (rNil)))) (rCons (rTup (rCons (rC (.str "from")) (rCons (rV 3) (rNil)))) (rCons (rTup (rCons (rC (.str "to")) (rCons (rV 3) (rNil)))) (rCons (rTup (rCons (rC (.str "in")) (rCons (rV 3) (rCons (rOp oSub (rOp oAdd (rV 3) (rCall sp__law_draw_v2 [] (rCons (rV 0) (rCons (rC (.int 4)) (rNil))))) (rC (.int 1))) (rNil))))) (rNil))))))))
    (sSeq (sExpr (rApp (rV 4) (rTup (rCons (rC (.str "one")) (rCons (rOp oIx (rTup (rCons (rTup (rNil)) (rCons (rTup (rCons (rV 3) (rNil))) (rCons (rTup (rCons (rOp oAdd (rV 3) (rC (.int 2))) (rCons (rV 3) (rNil)))) (rCons (rTup (rCons (rV 3) (rCons (rOp oAdd (rV 3) (rC (.int 3))) (rCons (rOp oAdd (rV 3) (rC (.int 1))) (rCons (rOp oSub (rV 3) (rC (.int 2))) (rNil)))))) (rNil)))))) (rCall sp__law_draw_v2 [] (rCons (rV 0) (rCons (rC (.int 4)) (rNil))))) (rNil))))))
    (sSeq (sIf (rTst (rOp oLt (rV 2) (rC (.int 6)))) (sRet (rOp oIx (rV 4) (rV 2))) (sNext))
    (sRet (rTup (rCons (rC (.str "but")) (rCons (rOp oIx (rV 4) (rCall sp__law_draw_v2 [] (rCons (rV 0) (rCons (rC (.int 6)) (rNil))))) (rNil)))))))))
theorem ln__law_look_v2 : ∀ ds m Q PX, sp__law_look_v2 ds m Q PX → ds.length = 2 := fun ds m Q PX h => by (repeat (obtain ⟨_, h⟩ := h)); subst_vars; rfl
theorem pu__law_look_v2 : ∀ ds m Q PX, sp__law_look_v2 ds m Q PX → rd__law_look_v2 (dEnds Q PX) (dstart ["_law_spring_here", "_law_base", "_law_way", "_law_low", "_law_some"] ds) m := by
  rintro ds m Q PX ⟨w, base, rfl, hb, k, wl, hk, h⟩
  walk_at "go"
  refine ⟨w, 8, rfl, by decide, by decide, k, wl, by omega, fun d m1 hd kp1 w1 => ?_⟩
  obtain ⟨way, y0, y1, rfl⟩ := hd
  walk_at "go"
  refine ⟨w, 5, rfl, by decide, by decide, _, w1, by omega, fun d m2 hd kp2 w2 => ?_⟩
  obtain ⟨lo, lo0, lo1, rfl⟩ := hd
  obtain ⟨low, hlow⟩ : ∃ low, low = base + lo := ⟨_, rfl⟩
  have hb2 : low.natAbs < 2 ^ 140 + 5 := by unfold Bd at hb; omega
  walk_at "go"
  rw [← hlow]
  refine ⟨w, 4, rfl, by decide, by decide, _, w2, by omega, fun d m3 hd kp3 w3 => ?_⟩
  obtain ⟨up, u0, u1, rfl⟩ := hd
  walk_at "go"
  intro q hq
  have hqw : q ≠ w := fun z => w3.some (z ▸ hq)
  have kn : Kp [] m3 (mset m3 q (.lst [Lk.any.d, (Lk.is low).d, (Lk.frm low).d, (Lk.upto low).d, (Lk.inn low (low + up - 1)).d])) := kp_new hq
  have w4 := w3.keep kn (by simp)
  walk_at "go"
  refine ⟨⟨_, mset_same⟩, ?_⟩
  walk_at "go"
  refine ⟨w, 4, rfl, by decide, by decide, _, w4, by omega, fun d m5 hd kp5 w5 => ?_⟩
  obtain ⟨cnt, c0, c1, rfl⟩ := hd
  have e5 : m5 q = some (.lst [Lk.any.d, (Lk.is low).d, (Lk.frm low).d, (Lk.upto low).d, (Lk.inn low (low + up - 1)).d]) := kp5 q _ (by simpa using hqw) mset_same
  walk_at "go"
  obtain ⟨us, hus, hu4, hun, hub⟩ : ∃ us : List Int, atI [D.tup [], .tup [.int low], .tup [.int (low + 2), .int low], .tup [.int low, .int (low + 3), .int (low + 1), .int (low - 2)]] cnt = some (.tup (us.map .int)) ∧ us.length ≤ 4 ∧ us.Nodup ∧ ∀ n ∈ us, n.natAbs < 2 ^ 140 + 8 := by
    obtain rfl | rfl | rfl | rfl : cnt = 0 ∨ cnt = 1 ∨ cnt = 2 ∨ cnt = 3 := by omega
    · exact ⟨[], rfl, by simp, by simp, fun _ z => by cases z⟩
    · exact ⟨[low], rfl, by simp, by simp, fun n hn => by rw [List.mem_singleton.mp hn]; omega⟩
    · refine ⟨[low + 2, low], rfl, by simp, by simp; omega, fun n hn => ?_⟩
      simp only [List.mem_cons, List.not_mem_nil, or_false] at hn
      rcases hn with rfl | rfl <;> omega
    · refine ⟨[low, low + 3, low + 1, low - 2], rfl, by simp, ?_, fun n hn => ?_⟩
      · simp only [List.nodup_cons, List.mem_cons, List.not_mem_nil, or_false, not_or, List.nodup_nil, and_true, not_false_eq_true]
        omega
      · simp only [List.mem_cons, List.not_mem_nil, or_false] at hn
        rcases hn with rfl | rfl | rfl | rfl <;> omega
  rw [hus]
  walk_at "go"
  rw [e5]
  walk_at "go"
  have kpw : Kp [w] m m5 := ((kp1.trans kp2).trans (kp3.trans (kn.more (by simp)))).trans kp5
  have p140 : (2 : Nat) ^ 140 > 1000 := by decide
  have p142 : (2 : Nat) ^ 142 = 4 * 2 ^ 140 := by decide
  have low2 : Bd 142 low := by unfold Bd; omega
  have good : ∀ l ∈ [Lk.any, .is low, .frm low, .upto low, .inn low (low + up - 1), .one us], l.Good 142 ∧ l.dep ≤ 1 := by
    intro l hl
    simp only [List.mem_cons, List.not_mem_nil, or_false] at hl
    rcases hl with rfl | rfl | rfl | rfl | rfl | rfl
    · exact ⟨⟨by simp [Lk.nums], trivial, by simp [Lk.dep], trivial⟩, by simp [Lk.dep]⟩
    · exact ⟨⟨by simpa [Lk.nums] using low2, trivial, by simp [Lk.dep], trivial⟩, by simp [Lk.dep]⟩
    · exact ⟨⟨by simpa [Lk.nums] using low2, trivial, by simp [Lk.dep], trivial⟩, by simp [Lk.dep]⟩
    · exact ⟨⟨by simpa [Lk.nums] using low2, trivial, by simp [Lk.dep], trivial⟩, by simp [Lk.dep]⟩
    · refine ⟨⟨?_, trivial, by simp [Lk.dep], trivial⟩, by simp [Lk.dep]⟩
      intro n hn
      simp only [Lk.nums, List.mem_cons, List.not_mem_nil, or_false] at hn
      rcases hn with rfl | rfl
      · exact low2
      · unfold Bd; omega
    · refine ⟨⟨fun n hn => ?_, hu4, by simp [Lk.dep], hun⟩, by simp [Lk.dep]⟩
      have := hub n hn
      unfold Bd; omega
  generalize hm8 : mset m5 q _ = m8
  have e8 : m8 q = some (.lst ([Lk.any, .is low, .frm low, .upto low, .inn low (low + up - 1), .one us].map Lk.d)) := by rw [← hm8]; exact mset_same
  have kp8 : Kp [w] m m8 := by
    intro a o ha e
    rw [← hm8, mset_ne ?_]
    · exact kpw a o ha e
    · intro z
      have := ((kp1.trans kp2).trans kp3) a o ha e
      rw [z, hq] at this; cases this
  have w8 : Wl m8 w (k + 1 + 1 + 1 + 1) := by
    obtain ⟨a, b, c, e, r⟩ := w5.ex
    exact ⟨a, b, c, by rw [← hm8, mset_ne (fun z => hqw z.symm)]; exact e, r⟩
  have pick : ∀ i : Int, 0 ≤ i → i < 6 → ∃ l ∈ [Lk.any, .is low, .frm low, .upto low, .inn low (low + up - 1), .one us], atI ([Lk.any, .is low, .frm low, .upto low, .inn low (low + up - 1), .one us].map Lk.d) i = some l.d := by
    intro i i0 i1
    obtain ⟨x, a1, a2⟩ := atI_some (xs := [Lk.any, .is low, .frm low, .upto low, .inn low (low + up - 1), .one us].map Lk.d) i0 i1
    obtain ⟨l, hl, rfl⟩ := List.mem_map.mp (List.mem_of_getElem? a2)
    exact ⟨l, hl, a1⟩
  cases hw : decide (way < 6) with
  | true =>
    obtain ⟨l, hl, el⟩ := pick way y0 (of_decide_eq_true hw)
    walk_at "dl"
    rw [asL_adr e8]
    walk_at "dl"
    rw [el]
    exact h _ _ ⟨l, (good l hl).1, rfl⟩ kp8 (w8.mono (by omega))
  | false =>
    walk_at "dl"
    refine ⟨w, 6, rfl, by decide, by decide, _, w8, by omega, fun d m9 hd kp9 w9 => ?_⟩
    obtain ⟨i, i0, i1, rfl⟩ := hd
    obtain ⟨l, hl, el⟩ := pick i i0 i1
    have e9 := kp9 q _ (by simpa using hqw) e8
    walk_at "dl"
    rw [asL_adr e9]
    walk_at "dl"
    rw [el]
    obtain ⟨g1, g2⟩ := good l hl
    refine ⟨len_line (by simp), ?_⟩
    exact h _ _ ⟨.but l, ⟨g1.nm, g1.few, by show l.dep + 1 ≤ 2; omega, g1.un⟩, rfl⟩ (kp8.trans kp9) (w9.mono (by omega))
end DL

namespace DL
open PySem L2
local macro_rules | `(tactic| walk_at "dl") => `(tactic| ((conv => whnf); try dsimp only))
local macro_rules | `(tactic| walk_at "sd") => `(tactic| first | trivial | exact Nat.zero_le _ | assumption | decide | omega | exact len_line (by first | decide | omega | (simp; done) | (simp; omega)) | (simp; done) | (simp; omega) | exact ⟨by decide, by decide, by decide⟩ | exact .inl ⟨by decide, by decide⟩ | exact .inl ⟨by omega, by omega⟩ | exact wide_div (b := 64) (by decide) (by decide) (by decide) (by decide))
local macro_rules | `(tactic| walk_at "go") => `(tactic| ((conv => whnf); (try dsimp only); repeat ((with_reducible refine And.intro ?_ ?_); (focus (walk_at "sd")); (conv => whnf); (try dsimp only))))
local macro_rules | `(tactic| walk_at "th") => `(tactic| repeat' (first | assumption | exact thD_txt _ _ | exact thD_int | exact thD_non | exact thD_bl | (refine thD_mono _ _ _ ?_ (by assumption); decide) | refine List.forall_mem_cons.mpr (And.intro ?_ ?_) | exact List.forall_mem_nil _ | refine thD_tup (by simp) ?_ | refine thD_lst (by simp) ?_))
local macro_rules | `(tactic| walk_at "ln") => `(tactic| (intro ds m Q PX h; repeat (obtain ⟨_, h⟩ := h); subst_vars; rfl))
def goodL (x : Option (List Lk)) : Prop := ∀ ls, x = some ls → ls.length ≤ 2 ∧ ∀ l ∈ ls, l.Good 142
def sp__law_looks_v2 : SpD := fun ds m P _ => ∃ (w : Addr) (base : Int), ds = [.adr w, .int base] ∧ Bd 140 base ∧ Dr w 11 (fun d => ∃ x, d = oL x ∧ goodL x) m P
def rd__law_looks_v2 : DS :=
    sSeq (sSet 2 (rCall sp__law_one_v2 [] (rCons (rV 0) (rCons (rLst (rCons (rC .non) (rCons (rC (.int 0)) (rCons (rC (.int 1)) (rCons (rC (.int 1)) (rCons (rC (.int 2)) (rCons (rC (.int 2)) (rNil)))))))) (rNil)))))
    (sSeq (sIf (rTst (rOp (oIsN false) (rV 2) (rC .non))) (sRet (rC .non)) (sNext))
    (sRet (rCB cTup (rCons (rLc (iRange (rCons (rV 2) (rNil))) [3] (gN 3) (qYes) (rCall sp__law_look_v2 [] (rCons (rV 0) (rCons (rV 1) (rNil))))) (rNil)))))
theorem ln__law_looks_v2 : ∀ ds m Q PX, sp__law_looks_v2 ds m Q PX → ds.length = 2 := fun ds m Q PX h => by (repeat (obtain ⟨_, h⟩ := h)); subst_vars; rfl
theorem pu__law_looks_v2 : ∀ ds m Q PX, sp__law_looks_v2 ds m Q PX → rd__law_looks_v2 (dEnds Q PX) (dstart ["_law_spring_here", "_law_base", "_law_many", "_law_k"] ds) m := by
  rintro ds m Q PX ⟨w, base, rfl, hb, h⟩
  walk_at "go"
  refine ⟨w, _, _, rfl, .inl rfl, by simp, by simp, h.sub (by decide) fun d m1 hd kp1 h => ?_⟩
  have hd' : d = .non ∨ ∃ n : Int, d = .int n ∧ 0 ≤ n ∧ n ≤ 2 := by
    refine (?_ : ∀ d ∈ _, d = .non ∨ ∃ n : Int, d = .int n ∧ 0 ≤ n ∧ n ≤ 2) d hd
    exact List.forall_mem_cons.mpr ⟨.inl rfl, List.forall_mem_cons.mpr ⟨.inr ⟨0, rfl, by decide, by decide⟩, List.forall_mem_cons.mpr ⟨.inr ⟨1, rfl, by decide, by decide⟩, List.forall_mem_cons.mpr ⟨.inr ⟨1, rfl, by decide, by decide⟩, List.forall_mem_cons.mpr ⟨.inr ⟨2, rfl, by decide, by decide⟩, List.forall_mem_cons.mpr ⟨.inr ⟨2, rfl, by decide, by decide⟩, List.forall_mem_nil _⟩⟩⟩⟩⟩⟩
  clear hd
  rcases hd' with rfl | ⟨n, rfl, n0, n2⟩
  · walk_at "go"
    exact h.done ⟨none, rfl, fun _ e => by cases e⟩
  · walk_at "go"
    obtain ⟨k, wl, hk, h⟩ := h
    refine comp_inv (fun i acc m' => Wl m' w (k + 5 * i) ∧ Kp [w] m1 m' ∧ ∃ ls : List Lk, acc = ls.map Lk.d ∧ ls.length = i ∧ ∀ l ∈ ls, l.Good 142) (fun i acc m' hh => ?_) (by rw [rg_len]; omega) (fun i d acc m' e hh => ?_) (fun acc m4 hh => ?_) ⟨wl, Kp.refl _ _, [], rfl, rfl, fun _ z => by cases z⟩
    · obtain ⟨_, _, ls, rfl, hl, _⟩ := hh
      rw [List.length_map, hl]; exact Nat.le_refl _
    · obtain ⟨wi, kpi, ls, rfl, hl, hg⟩ := hh
      obtain ⟨hi, rfl⟩ := rg_get e
      refine ⟨trivial, fun Kt Kf k1 _ => ?_⟩
      walk_at "go"
      refine ⟨w, base, rfl, hb, _, wi, by omega, fun d m5 hd kp5 w5 => ?_⟩
      obtain ⟨l, gl, rfl⟩ := hd
      refine k1 _ _ ⟨by rw [show k + 5 * (i + 1) = k + 5 * i + 5 by omega]; exact w5, kpi.trans kp5, ls ++ [l], by simp, by simp [hl], fun z hz => ?_⟩
      rcases List.mem_append.mp hz with hz | hz
      · exact hg z hz
      · rw [List.mem_singleton.mp hz]; exact gl
    · obtain ⟨w4, kp4, ls, rfl, hl, hg⟩ := hh
      rw [rg_len] at hl w4
      refine ⟨trivial, ?_⟩
      walk_at "go"
      exact h _ _ ⟨some ls, rfl, fun ks e => by cases e; exact ⟨by omega, hg⟩⟩ kp4 (w4.mono (by omega))
def plD (ps es : List Str) : D := .lst [.lst (ps.map .str), .lst (es.map .str)]
def sp__law_wish : SpD := fun ds m P _ => ∃ (w : Addr) (base : Int) (ps es : List Str) (z : Str), ds = [.adr w, .int base, plD ps es, .str z] ∧ Bd 140 base ∧ (0 < ps.length ∧ ps.length ≤ 10 ∧ es.length ≤ 10) ∧ (∀ x ∈ ps ++ es, nmB x = true) ∧ (z.length = 1 ∧ z.cps.toList.all low = true) ∧ Dr w 23 (fun d => ∃ (W : Ws) (x : Str), d = W.row ∧ W.Ok ∧ W.name = x ++ z) m P
def rd__law_wish : DS :=
    sSeq (sSet 4 (rCall sp__law_one_v2 [] (rCons (rV 0) (rCons (rOp oIx (rV 2) (rC (.int 0))) (rNil)))))
    (sSeq (sSet 5 (rCall sp__law_one_v2 [] (rCons (rV 0) (rCons (rOp oAdd (rLst (rCons (rC .non) (rNil))) (rOp oIx (rV 2) (rC (.int 1)))) (rNil)))))
    (sSeq (sSet 6 (rCall sp__law_draw_v2 [] (rCons (rV 0) (rCons (rC (.int 5)) (rNil)))))
    (sSeq (sSet 7 (rCall sp__law_one_v2 [] (rCons (rV 0) (rCons (rLst (rCons (rC .non) (rCons (rV 6) (rCons (rC (.int 4)) (rNil))))) (rNil)))))
    (sRet (rTup (rCons (rV 4) (rCons (rV 5) (rCons (rCall sp__law_looks_v2 [] (rCons (rV 0) (rCons (rV 1) (rNil)))) (rCons (rOp oAdd (rCall sp__law_word [] (rCons (rV 0) (rCons (rC (.int 7)) (rNil)))) (rV 3)) (rCons (rV 6) (rCons (rV 7) (rNil))))))))))))
theorem ln__law_wish : ∀ ds m Q PX, sp__law_wish ds m Q PX → ds.length = 4 := fun ds m Q PX h => by (repeat (obtain ⟨_, h⟩ := h)); subst_vars; rfl
theorem pu__law_wish : ∀ ds m Q PX, sp__law_wish ds m Q PX → rd__law_wish (dEnds Q PX) (dstart ["_law_spring_here", "_law_base", "_law_places", "_law_last", "_law_part", "_law_deed", "_law_few", "_law_top"] ds) m := by
  rintro ds m Q PX ⟨w, base, ps, es, z, rfl, hb, hps, hnm, hz, h⟩
  have z1 := hz.1
  walk_at "go"
  refine ⟨w, _, _, rfl, .inl rfl, by simp; omega, by simp; omega, h.sub (by decide) fun d m1 hd kp1 h => ?_⟩
  obtain ⟨part, hpart, rfl⟩ := List.mem_map.mp hd
  clear hd
  have le : (es.map D.str).length = es.length := List.length_map _
  walk_at "go"
  refine ⟨w, _, _, rfl, .inl rfl, by simp, by simp; omega, h.sub (by decide) fun d m2 hd kp2 h => ?_⟩
  obtain ⟨deed, rfl, hdeed⟩ : ∃ x : Option Str, d = oS x ∧ ∀ y, x = some y → nmB y = true := by
    rcases List.mem_append.mp hd with hd | hd
    · exact ⟨none, List.mem_singleton.mp hd, fun _ e => by cases e⟩
    · obtain ⟨x, hx, rfl⟩ := List.mem_map.mp hd
      exact ⟨some x, rfl, fun y e => by cases e; exact hnm x (List.mem_append_right _ hx)⟩
  clear hd
  walk_at "go"
  refine h.num (by decide) (by decide) (by decide) fun few m3 f0 f1 kp3 h => ?_
  walk_at "go"
  refine ⟨w, _, _, rfl, .inl rfl, by simp, by simp, h.sub (by decide) fun d m4 hd kp4 h => ?_⟩
  obtain ⟨top, rfl, htop⟩ : ∃ x : Option Int, d = oN x ∧ ∀ y, x = some y → few ≤ y ∧ y ≤ 4 := by
    refine (?_ : ∀ d ∈ _, ∃ x : Option Int, d = oN x ∧ ∀ y, x = some y → few ≤ y ∧ y ≤ 4) d hd
    exact List.forall_mem_cons.mpr ⟨⟨none, rfl, fun _ e => by cases e⟩, List.forall_mem_cons.mpr ⟨⟨some few, rfl, fun y e => by cases e; omega⟩, List.forall_mem_cons.mpr ⟨⟨some 4, rfl, fun y e => by cases e; omega⟩, List.forall_mem_nil _⟩⟩⟩
  clear hd
  walk_at "go"
  refine ⟨w, base, rfl, hb, h.sub (by decide) fun d m5 hd kp5 h => ?_⟩
  obtain ⟨looks, rfl, hlk⟩ := hd
  walk_at "go"
  refine ⟨w, 7, rfl, by decide, by decide, h.sub (by decide) fun d m6 hd kp6 h => ?_⟩
  obtain ⟨x, rfl, hx7, hxl⟩ := hd
  walk_at "go"
  refine h.done ⟨⟨part, deed, looks, x ++ z, few, top⟩, x, rfl, ⟨⟨hnm part (List.mem_append_left _ hpart), hdeed, hlk, ?_, ⟨f0, by show few ≤ 4; omega⟩, fun y e => ⟨by have := htop y e; omega, (htop y e).2⟩⟩, fun y e => (htop y e).1⟩, rfl⟩
  exact nm9_nm (nm9_app hxl hz.2 (by omega) (by omega)) (by rw [PySem.Str.length_append]; omega)
end DL

namespace DL
open PySem L2
local macro_rules | `(tactic| walk_at "dl") => `(tactic| ((conv => whnf); try dsimp only))
local macro_rules | `(tactic| walk_at "sd") => `(tactic| first | trivial | exact Nat.zero_le _ | assumption | decide | omega | exact len_line (by first | decide | omega | (simp; done) | (simp; omega)) | (simp; done) | (simp; omega) | exact ⟨by decide, by decide, by decide⟩ | exact .inl ⟨by decide, by decide⟩ | exact .inl ⟨by omega, by omega⟩ | exact wide_div (b := 64) (by decide) (by decide) (by decide) (by decide))
local macro_rules | `(tactic| walk_at "go") => `(tactic| ((conv => whnf); (try dsimp only); repeat ((with_reducible refine And.intro ?_ ?_); (focus (walk_at "sd")); (conv => whnf); (try dsimp only))))
local macro_rules | `(tactic| walk_at "th") => `(tactic| repeat' (first | assumption | exact thD_txt _ _ | exact thD_int | exact thD_non | exact thD_bl | (refine thD_mono _ _ _ ?_ (by assumption); decide) | refine List.forall_mem_cons.mpr (And.intro ?_ ?_) | exact List.forall_mem_nil _ | refine thD_tup (by simp) ?_ | refine thD_lst (by simp) ?_))
local macro_rules | `(tactic| walk_at "ln") => `(tactic| (intro ds m Q PX h; repeat (obtain ⟨_, h⟩ := h); subst_vars; rfl))
def sp__law_fit : SpD := fun ds m P _ => ∃ (W : Ws) (a b : Str) (ts : List Int), ds = [W.row, askD a b ts] ∧ okLs W.looks ∧ ts.length ≤ 100 ∧ P (.bl (W.sees a b ts)) m
def rd__law_fit : DS :=
    sSeq (sIf (rOr (rTst (rOp oNe (rOp oIx (rV 0) (rC (.int 0))) (rOp oIx (rV 1) (rC (.int 0))))) (rAnd (rTst (rOp (oIsN true) (rOp oIx (rV 0) (rC (.int 1))) (rC .non))) (rTst (rOp oNe (rOp oIx (rV 0) (rC (.int 1))) (rOp oIx (rV 1) (rC (.int 1))))))) (sRet (rC (.bl false))) (sNext))
    (sSeq (sIf (rTst (rOp (oIsN false) (rOp oIx (rV 0) (rC (.int 2))) (rC .non))) (sRet (rC (.bl true))) (sNext))
    (sSeq (sIf (rTst (rOp oNe (rCB cLen (rCons (rOp oIx (rV 0) (rC (.int 2))) (rNil))) (rCB cLen (rCons (rOp oIx (rV 1) (rC (.int 2))) (rNil))))) (sRet (rC (.bl false))) (sNext))
    (sRet (rOp oEq (rLc (iRange (rCons (rCB cLen (rCons (rOp oIx (rV 1) (rC (.int 2))) (rNil))) (rNil))) [2] (gN 2) (rNot (rTru (rCall (sp__law_fits 2) [] (rCons (rOp oIx (rOp oIx (rV 0) (rC (.int 2))) (rV 2)) (rCons (rOp oIx (rOp oIx (rV 1) (rC (.int 2))) (rV 2)) (rNil)))))) (rV 2)) (rLst (rNil))))))
theorem ln__law_fit : ∀ ds m Q PX, sp__law_fit ds m Q PX → ds.length = 2 := fun ds m Q PX h => by (repeat (obtain ⟨_, h⟩ := h)); subst_vars; rfl
def T__law_fit_2 : DS := sSeq (sIf (rTst (rOp (oIsN false) (rOp oIx (rV 0) (rC (.int 2))) (rC .non))) (sRet (rC (.bl true))) (sNext))
    (sSeq (sIf (rTst (rOp oNe (rCB cLen (rCons (rOp oIx (rV 0) (rC (.int 2))) (rNil))) (rCB cLen (rCons (rOp oIx (rV 1) (rC (.int 2))) (rNil))))) (sRet (rC (.bl false))) (sNext))
    (sRet (rOp oEq (rLc (iRange (rCons (rCB cLen (rCons (rOp oIx (rV 1) (rC (.int 2))) (rNil))) (rNil))) [2] (gN 2) (rNot (rTru (rCall (sp__law_fits 2) [] (rCons (rOp oIx (rOp oIx (rV 0) (rC (.int 2))) (rV 2)) (rCons (rOp oIx (rOp oIx (rV 1) (rC (.int 2))) (rV 2)) (rNil)))))) (rV 2)) (rLst (rNil)))))
def T__law_fit_3 : DS := sSeq (sIf (rTst (rOp oNe (rCB cLen (rCons (rOp oIx (rV 0) (rC (.int 2))) (rNil))) (rCB cLen (rCons (rOp oIx (rV 1) (rC (.int 2))) (rNil))))) (sRet (rC (.bl false))) (sNext))
    (sRet (rOp oEq (rLc (iRange (rCons (rCB cLen (rCons (rOp oIx (rV 1) (rC (.int 2))) (rNil))) (rNil))) [2] (gN 2) (rNot (rTru (rCall (sp__law_fits 2) [] (rCons (rOp oIx (rOp oIx (rV 0) (rC (.int 2))) (rV 2)) (rCons (rOp oIx (rOp oIx (rV 1) (rC (.int 2))) (rV 2)) (rNil)))))) (rV 2)) (rLst (rNil))))
def T__law_fit_4 : DS := sRet (rOp oEq (rLc (iRange (rCons (rCB cLen (rCons (rOp oIx (rV 1) (rC (.int 2))) (rNil))) (rNil))) [2] (gN 2) (rNot (rTru (rCall (sp__law_fits 2) [] (rCons (rOp oIx (rOp oIx (rV 0) (rC (.int 2))) (rV 2)) (rCons (rOp oIx (rOp oIx (rV 1) (rC (.int 2))) (rV 2)) (rNil)))))) (rV 2)) (rLst (rNil)))
theorem pu__law_fit : ∀ ds m Q PX, sp__law_fit ds m Q PX → rd__law_fit (dEnds Q PX) (dstart ["_law_wish_here", "_law_call", "_law_k"] ds) m := by
  rintro ds m Q PX ⟨W, a, b, ts, rfl, hls, hts, h⟩
  unfold Ws.sees forB at h
  walk_at "go"
  by_cases h1 : W.part = a
  · rw [decide_eq_true h1.symm, Bool.true_and] at h
    rw [decide_eq_true h1]
    have rest : ∀ h : Q (.bl (seesB W.looks ts)) m, T__law_fit_2 (dEnds Q PX) [some W.row, some (askD a b ts), none] m := by
      intro h
      walk_at "go"
      rw [none_oL]
      cases hlk : W.looks with
      | none => rw [hlk] at h; exact h
      | some ls =>
        rw [hlk] at h
        obtain ⟨hl2, hld⟩ := hls ls hlk
        change Q (.bl (decide (ls.length = ts.length) && (ls.zip ts).all fun p => p.1.fits p.2)) m at h
        show T__law_fit_3 (dEnds Q PX) [some W.row, some (askD a b ts), none] m
        have ll : (ls.map Lk.d).length = ls.length := List.length_map _
        have lt : (ts.map D.int).length = ts.length := List.length_map _
        walk_at "go"
        rw [hlk]
        walk_at "go"
        rw [ll, lt]
        by_cases hl : ls.length = ts.length
        · rw [decide_eq_true hl, Bool.true_and] at h
          rw [decide_eq_true (by omega : (ls.length : Int) = (ts.length : Nat))]
          walk_at "dl"
          rw [lt]
          obtain ⟨N, hN⟩ : ∃ N : Int, N = (ts.length : Nat) := ⟨_, rfl⟩
          rw [← hN]
          refine ⟨⟨by omega, by omega⟩, ?_⟩
          rw [show N.toNat = ls.length by omega]
          walk_at "go"
          refine comp_fm (noFit ls ts) (fun d => d) (by rw [rg_len]; omega) trivial (fun d hd Q q => ?_) (fun d hd _ Q q => ?_) ?_
          · obtain ⟨i, hi, rfl⟩ := List.mem_map.mp hd
            have hil := List.mem_range.mp hi
            have hil2 : i < ls.length := by omega
            obtain ⟨l, el⟩ : ∃ l, ls[i]? = some l := ⟨_, List.getElem?_eq_getElem hil2⟩
            obtain ⟨n, en⟩ : ∃ n, ts[i]? = some n := ⟨_, List.getElem?_eq_getElem (by omega)⟩
            have q' : Q (!l.fits n) m := by rw [noFit_at el en] at q; exact q
            walk_at "go"
            rw [hlk]
            walk_at "go"
            rw [atI_map el]
            walk_at "go"
            rw [atI_map en]
            exact ⟨l, n, rfl, hld l (List.mem_of_getElem? el), q'⟩
          · obtain ⟨i, hi, rfl⟩ := List.mem_map.mp hd
            walk_at "go"
            exact q
          · rw [List.map_id']
            walk_at "go"
            refine ⟨shpT (n := 3) ⟨Nat.le_trans (List.length_filter_le _ _) (by rw [rg_len]; omega), fun d hd => ?_⟩, shpN, ?_⟩
            · obtain ⟨i, hi, rfl⟩ := List.mem_map.mp (List.mem_filter.mp hd).1
              exact thD_int
            show (dEnds Q PX).rt (.bl (deq (.lst ((rangeD 0 ls.length).filter (noFit ls ts))) (.lst []))) m
            rw [deq_lst_nil, noFit_all hl]
            exact h
        · rw [decide_eq_false hl] at h
          rw [decide_eq_false (by omega : ¬ (ls.length : Int) = (ts.length : Nat))]
          exact h
    walk_at "go"
    cases hdd : W.deed with
    | none => rw [hdd] at h; exact rest h
    | some x =>
      rw [hdd] at h
      change Q (.bl (decide (b = x) && seesB W.looks ts)) m at h
      walk_at "go"
      rw [hdd]
      walk_at "go"
      by_cases h2 : x = b
      · rw [decide_eq_true h2.symm, Bool.true_and] at h
        rw [decide_eq_true h2]
        exact rest h
      · rw [decide_eq_false (fun z => h2 z.symm)] at h
        rw [decide_eq_false h2]
        exact h
  · rw [decide_eq_false (fun z => h1 z.symm)] at h
    rw [decide_eq_false h1]
    exact h
end DL

namespace DL
open PySem L2
local macro_rules | `(tactic| walk_at "dl") => `(tactic| ((conv => whnf); try dsimp only))
local macro_rules | `(tactic| walk_at "sd") => `(tactic| first | trivial | exact Nat.zero_le _ | assumption | decide | omega | exact len_line (by first | decide | omega | (simp; done) | (simp; omega)) | (simp; done) | (simp; omega) | exact ⟨by decide, by decide, by decide⟩ | exact .inl ⟨by decide, by decide⟩ | exact .inl ⟨by omega, by omega⟩ | exact wide_div (b := 64) (by decide) (by decide) (by decide) (by decide))
local macro_rules | `(tactic| walk_at "go") => `(tactic| ((conv => whnf); (try dsimp only); repeat ((with_reducible refine And.intro ?_ ?_); (focus (walk_at "sd")); (conv => whnf); (try dsimp only))))
local macro_rules | `(tactic| walk_at "th") => `(tactic| repeat' (first | assumption | exact thD_txt _ _ | exact thD_int | exact thD_non | exact thD_bl | (refine thD_mono _ _ _ ?_ (by assumption); decide) | refine List.forall_mem_cons.mpr (And.intro ?_ ?_) | exact List.forall_mem_nil _ | refine thD_tup (by simp) ?_ | refine thD_lst (by simp) ?_))
local macro_rules | `(tactic| walk_at "ln") => `(tactic| (intro ds m Q PX h; repeat (obtain ⟨_, h⟩ := h); subst_vars; rfl))
def sp__law_kind : SpD := fun ds m P _ => ∃ (ws : List Ws) (ss : List Str) (a b : Str) (ts : List Int), ds = [.lst (ws.map Ws.row), .tup (ss.map .str), askD a b ts] ∧ ws.length ≤ 1000 ∧ (∀ W ∈ ws, okLs W.looks ∧ nmB W.name = true) ∧ ts.length ≤ 100 ∧ ss.length ≤ 100 ∧ P (kindD ws ss a b ts) m
def rd__law_kind : DS :=
    sSeq (sSet 3 (rCB cTup (rCons (rLc (iAny (rV 0)) [4] (gN 4) (rTru (rCall sp__law_fit [] (rCons (rV 4) (rCons (rV 2) (rNil))))) (rOp oIx (rV 4) (rC (.int 3)))) (rNil))))
    (sSeq (sIf (rAnd (rTst (rOp oEq (rV 3) (rTup (rNil)))) (rTst (rOp (oInN false) (rOp oIx (rV 2) (rC (.int 0))) (rV 1)))) (sRet (rC .non)) (sNext))
    (sRet (rV 3)))
theorem ln__law_kind : ∀ ds m Q PX, sp__law_kind ds m Q PX → ds.length = 3 := fun ds m Q PX h => by (repeat (obtain ⟨_, h⟩ := h)); subst_vars; rfl
theorem pu__law_kind : ∀ ds m Q PX, sp__law_kind ds m Q PX → rd__law_kind (dEnds Q PX) (dstart ["_law_wishes", "_law_firm", "_law_call", "_law_names", "_law_wish_here"] ds) m := by
  rintro ds m Q PX ⟨ws, ss, a, b, ts, rfl, hl, hW, hts, hss, h⟩
  walk_at "go"
  refine comp_onf ws Ws.row (fun W => .str W.name) (fun W => W.sees a b ts) (by omega) trivial (fun W hm Kt Kf ht hf => ?_) ?_
  · walk_at "go"
    refine ⟨W, a, b, ts, rfl, (hW W hm).1, hts, ?_⟩
    cases e : W.sees a b ts with
    | true => exact ht e
    | false => exact hf e
  obtain ⟨ns, hns⟩ : ∃ ns, ns = seen ws a b ts := ⟨_, rfl⟩
  have en : ((ws.filter fun W => W.sees a b ts).map fun W => D.str W.name) = ns.map D.str := by rw [hns]; unfold seen; rw [List.map_map]; rfl
  have ln : ns.length ≤ ws.length := by rw [hns]; unfold seen; rw [List.length_map]; exact List.length_filter_le _ _
  rw [en]
  unfold kindD at h
  rw [← hns] at h
  have lm : (ns.map D.str).length = ns.length := List.length_map _
  walk_at "go"
  have tn : thD 5 (.tup (ns.map D.str)) := ⟨by omega, fun d hd => by
    obtain ⟨x, hx, rfl⟩ := List.mem_map.mp hd
    rw [hns] at hx
    unfold seen at hx
    obtain ⟨W, hW', rfl⟩ := List.mem_map.mp hx
    exact thD_nm (hW W (List.mem_filter.mp hW').1).2⟩
  refine ⟨shpT tn, shpT (n := 1) thD_nil, ?_⟩
  rw [if_neg (by decide)]
  show (match deq (.tup (ns.map D.str)) (.tup []) with | true => _ | false => _)
  rw [deq_tup_nil]
  cases ns with
  | nil =>
    have fl : (ss.map D.str).all flatD = true := by simp [flatD]
    walk_at "go"
    first | refine ⟨⟨rfl, fl⟩, ?_⟩ | skip
    rw [if_neg (by decide), any_strs]
    by_cases ha : a ∈ ss
    · rw [if_pos ⟨rfl, ha⟩] at h
      rw [decide_eq_true ha]; exact h
    · rw [if_neg (fun z => ha z.2)] at h
      rw [decide_eq_false ha]; exact h
  | cons n r =>
    rw [if_neg (fun z => by cases z.1)] at h
    exact h
theorem wish_ok {m : Mu} {q : Addr} {KK : DK} {KX : DX} (Z : Ws) (hZ : Z.Ok) (h : KK .non (mset m q (.ins "Wish" (wFs (.str Z.part) (oS Z.deed) (oL Z.looks) (.str Z.name) (.int Z.least) (oN Z.most))))) :
    sp_Wish___init__ [.adr q, .str Z.part, oS Z.deed, oL Z.looks, .str Z.name, .int Z.least, oN Z.most] (mset m q (.ins "Wish" [])) KK KX := by
  refine ⟨q, _, _, _, _, _, _, rfl, mset_same, thg_of (n := 0) (thD_nm hZ.part), thg_of (n := 0) (thD_oS hZ.deed), thg_of (thD_oL hZ.looks), thg_of (n := 0) (thD_nm hZ.name), thg_of (n := 0) thD_int, thg_of (n := 0) thD_oN, ?_⟩
  rw [hZ.nm, looks_ok hZ.looks, hZ.cnts, mset_mset]
  exact h
def sp__law_made_v3 : SpD := fun ds m P _ => ∃ (ws : List Ws) (ss : List Str), ds = [.lst (ws.map Ws.row), .tup (ss.map .str)] ∧ ws.length ≤ 5 ∧ (∀ W ∈ ws, W.Ok) ∧ (ws.map Ws.name).Nodup ∧ (ss.length ≤ 4 ∧ ss.Nodup ∧ ∀ x ∈ ss, nmB x = true) ∧ P (pnD ws (.tup []) (.tup (ss.map .str))) m
def rd__law_made_v3 : DS :=
    sSeq (sSet 2 (rLc (iAny (rV 0)) [3] (gN 3) (qYes) (rMk "Wish" sp_Wish___init__ 3 3 (fun ds es => gI [0, 1, 2, 3, 4, 5, 6] (ds ++ es) [.non, .non]) (rCons (rOp oIx (rV 3) (rC (.int 0))) (rCons (rOp oIx (rV 3) (rC (.int 1))) (rCons (rOp oIx (rV 3) (rC (.int 2))) (rNil)))) (rCons (rOp oIx (rV 3) (rC (.int 3))) (rCons (rOp oIx (rV 3) (rC (.int 4))) (rCons (rOp oIx (rV 3) (rC (.int 5))) (rNil)))))))
    (sRet (rMk "Plan" sp_Plan___init__ 1 1 (fun ds es => gI [0, 1, 3, 2] (ds ++ es) ((["orders"] : List Str).map fun y => ((([("orders", .tup []), ("strict", .tup [])] : List (Str × D)).lookup y).getD .non))) (rCons (rV 2) (rNil)) (rCons (rV 1) (rNil))))
theorem ln__law_made_v3 : ∀ ds m Q PX, sp__law_made_v3 ds m Q PX → ds.length = 2 := fun ds m Q PX h => by (repeat (obtain ⟨_, h⟩ := h)); subst_vars; rfl
theorem pu__law_made_v3 : ∀ ds m Q PX, sp__law_made_v3 ds m Q PX → rd__law_made_v3 (dEnds Q PX) (dstart ["_law_wishes", "_law_firm", "_law_some", "_law_one_here"] ds) m := by
  rintro ds m Q PX ⟨ws, ss, rfl, hl, hW, hnd, hss, h⟩
  walk_at "go"
  refine comp_on ws Ws.row Ws.d (by omega) trivial (fun W hm Q q => ?_) ?_
  · walk_at "go"
    intro p hp
    refine wish_ok W (hW W hm) ⟨rfl, _, mset_same, ?_⟩
    rw [mdel_mset hp]
    exact q
  walk_at "go"
  intro q hq
  have ts : thD 5 (.tup (ss.map D.str)) := ⟨by rw [List.length_map]; omega, fun d hd => by
    obtain ⟨x, hx, rfl⟩ := List.mem_map.mp hd
    exact thD_nm (hss.2.2 x hx)⟩
  refine ⟨q, ws, .tup [], .tup (ss.map .str), rfl, mset_same, by omega, fun W hm => (hW W hm).name, thg_of (n := 1) thD_nil, thg_of ts, ?_⟩
  have e3 : planB (ws.map Ws.name) (.tup []) (.tup (ss.map .str)) = true := by
    unfold planB
    rw [decide_eq_true hnd, Bool.true_and, Bool.and_eq_true]
    constructor
    · show (decide (([] : List D).length ≤ 12) && (([] : List D).all (ordB (ws.map Ws.name)) && ndB [])) = true
      rw [show ndB [] = true from ndB_iff.mpr List.nodup_nil]; rfl
    · show (decide ((ss.map D.str).length ≤ 4) && ((ss.map D.str).all nmD && ndB (ss.map D.str))) = true
      rw [List.length_map, decide_eq_true hss.1, nd_strs, decide_eq_true hss.2.1, Bool.and_true, Bool.true_and, List.all_eq_true]
      intro d hd
      obtain ⟨x, hx, rfl⟩ := List.mem_map.mp hd
      exact hss.2.2 x hx
  rw [decide_eq_true hl, e3]
  refine ⟨rfl, _, mset_same, ?_⟩
  rw [mset_mset, mdel_mset hq]
  exact h
def sp__law_plain : SpD := fun ds m P _ => ∃ (d : D), ds = [d] ∧ (d = .non ∨ ∃ ns : List Str, d = .tup (ns.map .str) ∧ ns.length ≤ 1000) ∧ P (.bl true) m
def rd__law_plain : DS :=
    sSeq (sIf (rTst (rOp (oIsN false) (rV 0) (rC .non))) (sRet (rC (.bl true))) (sNext))
    (sRet (rAndV (rCB cIsi (rCons (rV 0) (rCons (rC (.ty "tuple")) (rNil)))) (rOp oEq (rLc (iAny (rV 0)) [1] (gN 1) (rNot (rTru (rCB cIsi (rCons (rV 1) (rCons (rC (.ty "str")) (rNil)))))) (rV 1)) (rLst (rNil)))))
theorem ln__law_plain : ∀ ds m Q PX, sp__law_plain ds m Q PX → ds.length = 1 := fun ds m Q PX h => by (repeat (obtain ⟨_, h⟩ := h)); subst_vars; rfl
theorem pu__law_plain : ∀ ds m Q PX, sp__law_plain ds m Q PX → rd__law_plain (dEnds Q PX) (dstart ["_law_found", "_law_who"] ds) m := by
  rintro ds m Q PX ⟨d, rfl, hd, h⟩
  rcases hd with rfl | ⟨ns, rfl, hl⟩
  · exact h
  · walk_at "go"
    refine comp_fm (fun _ => false) (fun d => d) (by rw [List.length_map]; omega) trivial (fun d hd Q q => ?_) (fun d hd z => by cases z) ?_
    · obtain ⟨x, _, rfl⟩ := List.mem_map.mp hd
      walk_at "go"; exact q
    rw [List.filter_eq_nil_iff.mpr (by simp), List.map_nil]
    walk_at "go"
    exact h
def sp__law_refused_v3 : SpD := fun ds m P _ => ∃ (ws : List Ws) (o : D) (ss : List Str) (x : D), ds = [pnD ws o (.tup (ss.map .str)), x] ∧ ws.length ≤ 1000 ∧ (∀ W ∈ ws, okLs W.looks ∧ nmB W.name = true) ∧ Thg x ∧ ss.length ≤ 100 ∧ askB x = false ∧ P (.bl true) m
def rd__law_refused_v3 : DS :=
    sSeq (sTryA "BadAsk" 2 (sExpr (rCall sp_kind_of [] (rCons (rV 0) (rCons (rV 1) (rNil))))) (fun xa xc xd => sRet (rAndV (rCB (cIsX xa xc xd) (rCons (rV 2) (rCons (rC (.ty "ValueError")) (rNil)))) (rNotV (rCB (cIsX xa xc xd) (rCons (rV 2) (rCons (rTup (rCons (rC (.glb "BadPlan")) (rCons (rC (.glb "BadWish")) (rNil)))) (rNil))))))))
    (sRet (rC (.bl false)))
theorem ln__law_refused_v3 : ∀ ds m Q PX, sp__law_refused_v3 ds m Q PX → ds.length = 2 := fun ds m Q PX h => by (repeat (obtain ⟨_, h⟩ := h)); subst_vars; rfl
theorem pu__law_refused_v3 : ∀ ds m Q PX, sp__law_refused_v3 ds m Q PX → rd__law_refused_v3 (dEnds Q PX) (dstart ["_law_trial", "_law_thing", "e"] ds) m := by
  rintro ds m Q PX ⟨ws, o, ss, x, rfl, hl, hW, hx, hss, hno, h⟩
  walk_at "go"
  refine ⟨ws, o, ss, x, rfl, hl, hW, hx, hss, fun _ => ?_, fun a b ts _ z => by rw [hno] at z; cases z⟩
  refine ⟨by decide, ?_⟩
  walk_at "dl"
  intro a C dd ha
  walk_at "go"
  exact h
def sp__law_ask_v2 : SpD := fun ds m P _ => ∃ (w : Addr) (base : Int) (ps es : List Str), ds = [.adr w, .int base, plD ps es] ∧ (ps.length ≤ 10 ∧ es.length ≤ 10) ∧ (∀ x ∈ ps ++ es, nmB x = true) ∧ Dr w 21 isAsk m P
def rd__law_ask_v2 : DS :=
    sSeq (sSet 3 (rCall sp__law_one_v2 [] (rCons (rV 0) (rCons (rOp oAdd (rOp oIx (rV 2) (rC (.int 0))) (rLst (rCons (rOp oAdd (rCall sp__law_word [] (rCons (rV 0) (rCons (rC (.int 7)) (rNil)))) (rC (.str "q"))) (rNil)))) (rNil)))))
    (sSeq (sSet 4 (rCall sp__law_one_v2 [] (rCons (rV 0) (rCons (rOp oAdd (rOp oIx (rV 2) (rC (.int 1))) (rLst (rCons (rOp oAdd (rCall sp__law_word [] (rCons (rV 0) (rCons (rC (.int 7)) (rNil)))) (rC (.str "q"))) (rNil)))) (rNil)))))
    (sSeq (sSet 5 (rCB cTup (rCons (rLc (iRange (rCons (rCall sp__law_draw_v2 [] (rCons (rV 0) (rCons (rC (.int 3)) (rNil)))) (rNil))) [6] (gN 6) (qYes) (rOp oSub (rOp oAdd (rV 1) (rCall sp__law_draw_v2 [] (rCons (rV 0) (rCons (rC (.int 10)) (rNil))))) (rC (.int 3)))) (rNil))))
    (sRet (rTup (rCons (rV 3) (rCons (rV 4) (rCons (rV 5) (rNil))))))))
theorem ln__law_ask_v2 : ∀ ds m Q PX, sp__law_ask_v2 ds m Q PX → ds.length = 3 := fun ds m Q PX h => by (repeat (obtain ⟨_, h⟩ := h)); subst_vars; rfl
theorem pu__law_ask_v2 : ∀ ds m Q PX, sp__law_ask_v2 ds m Q PX → rd__law_ask_v2 (dEnds Q PX) (dstart ["_law_spring_here", "_law_base", "_law_places", "_law_part", "_law_deed", "_law_things", "_law_k"] ds) m := by
  rintro ds m Q PX ⟨w, base, ps, es, rfl, hl, hnm, h⟩
  have lq : (Str.ofString "q").length = 1 := rfl
  have sq : (Str.ofString "q").cps.toList.all low = true := by decide +kernel
  have l1 : (ps.map D.str).length = ps.length := List.length_map _
  have l2 : (es.map D.str).length = es.length := List.length_map _
  have pick : ∀ (xs : List Str) (x : Str) (d : D), (∀ y ∈ xs, nmB y = true) → x.length ≤ 7 → x.cps.toList.all low = true → d ∈ xs.map D.str ++ [D.str (x ++ Str.ofString "q")] → ∃ y, d = .str y ∧ nmB y = true := fun xs x d h1 h2 h3 h4 => by
    rcases List.mem_append.mp h4 with h4 | h4
    · obtain ⟨y, hy, rfl⟩ := List.mem_map.mp h4
      exact ⟨y, rfl, h1 y hy⟩
    · rw [List.mem_singleton.mp h4]
      exact ⟨_, rfl, nm9_nm (nm9_app h3 sq (by omega) (by omega)) (by rw [PySem.Str.length_append]; omega)⟩
  walk_at "go"
  refine ⟨w, 7, rfl, by decide, by decide, h.sub (by decide) fun d m1 hd kp1 h => ?_⟩
  obtain ⟨x, rfl, hx7, hxl⟩ := hd
  walk_at "go"
  refine ⟨w, _, _, rfl, .inl rfl, by simp, by simp; omega, h.sub (by decide) fun d m2 hd kp2 h => ?_⟩
  obtain ⟨a, rfl, ha⟩ := pick ps x d (fun y hy => hnm y (List.mem_append_left _ hy)) hx7 hxl hd
  clear hd
  walk_at "go"
  refine ⟨w, 7, rfl, by decide, by decide, h.sub (by decide) fun d m3 hd kp3 h => ?_⟩
  obtain ⟨x2, rfl, hx72, hxl2⟩ := hd
  walk_at "go"
  refine ⟨w, _, _, rfl, .inl rfl, by simp, by simp; omega, h.sub (by decide) fun d m4 hd kp4 h => ?_⟩
  obtain ⟨b, rfl, hb⟩ := pick es x2 d (fun y hy => hnm y (List.mem_append_right _ hy)) hx72 hxl2 hd
  clear hd
  walk_at "go"
  refine h.num (by decide) (by decide) (by decide) fun r m5 r0 r1 kp5 h => ?_
  walk_at "go"
  obtain ⟨k, wl, hk, h⟩ := h
  refine comp_inv (fun i acc m' => Wl m' w (k + i) ∧ Kp [w] m5 m' ∧ ∃ ts : List Int, acc = ts.map .int ∧ ts.length = i) (fun i acc m' hh => ?_) (by rw [rg_len]; omega) (fun i d acc m' e hh => ?_) (fun acc m6 hh => ?_) ⟨wl, Kp.refl _ _, [], rfl, rfl⟩
  · obtain ⟨_, _, ts, rfl, hl⟩ := hh
    rw [List.length_map, hl]; exact Nat.le_refl _
  · obtain ⟨wi, kpi, ts, rfl, hl⟩ := hh
    obtain ⟨hi, rfl⟩ := rg_get e
    refine ⟨trivial, fun Kt Kf k1 _ => ?_⟩
    walk_at "go"
    refine ⟨w, 10, rfl, by decide, by decide, _, wi, by omega, fun d m7 hd kp7 w7 => ?_⟩
    obtain ⟨t, _, _, rfl⟩ := hd
    walk_at "go"
    exact k1 _ _ ⟨w7, kpi.trans kp7, ts ++ [base + t - 3], by simp, by simp [hl]⟩
  · obtain ⟨w6, kp6, ts, rfl, hlt⟩ := hh
    rw [rg_len] at hlt w6
    refine ⟨trivial, ?_⟩
    have lt : (ts.map D.int).length = ts.length := List.length_map _
    walk_at "go"
    exact h _ _ ⟨a, b, ts, rfl, ha, hb, by omega⟩ kp6 (w6.mono (by omega))
end DL

/-! # a, b = a list -/
namespace DL
open PySem L2
/-- a tuple or a list of names -/
def gTL (js : List Nat) : DG := fun d δ m P => match d with
  | .tup ds => ds.length = js.length ∧ P (asg δ js ds) m
  | .lst ds => ds.length = js.length ∧ P (asg δ js ds) m
  | _ => False
def gEi (g g' : TG) : TG := fun v σ H Q => g v σ H Q ∨ g' v σ H Q
theorem pg_ei {X : Cx} {e : Expr} {g g' : TG} (h : PG X e g) (h' : PG X e g') : PG X e (gEi g g') :=
  ⟨fun pins s σ H v u Q I r q => q.elim (h.run pins s σ H v u Q I r) (h'.run pins s σ H v u Q I r)⟩
theorem lst_rp {K : PySem.W.Frag} {F : Hp} {H0 H : Hp} {m : Mu} {v : V} {ds : List D} (ok : Ok K F H0 m H) (r : Rp K H0 v (.lst ds)) : ∃ a vs, v = .ref a ∧ SqL K H a vs ∧ RpL K H0 vs ds := asL_rp ok r rfl
theorem gTL_ok {K : PySem.W.Frag} {js : List Nat} : Gok K js (gEi (gTup K js.length (gNames js)) (gLst K js.length (gNames js))) (gTL js) := by
  intro F H0 m H σ δ v d P Q ok rs r h k
  unfold gTL at h
  split at h
  · obtain ⟨q, vs, rfl, hq, rv⟩ := tup_rp ok r
    have hl : vs.length = js.length := rv.length.trans h.1
    exact .inl ⟨q, vs, rfl, hq, hl, hl, k _ _ (rs.asg rv) (wipe_same (asgV_length _ _ _) fun i hi => asgV_out _ _ _ i hi) h.2⟩
  · obtain ⟨q, vs, rfl, hq, rv⟩ := lst_rp ok r
    have hl : vs.length = js.length := rv.length.trans h.1
    exact .inr ⟨q, vs, rfl, hq, hl, hl, k _ _ (rs.asg rv) (wipe_same (asgV_length _ _ _) fun i hi => asgV_out _ _ _ i hi) h.2⟩
  · exact h.elim
def sTupL (js : List Nat) (ra : DE) : DS := fun DD δ m => ra δ m (fun d m1 => gTL js d δ m1 DD.nx) fun c fs m1 => DD.xx c fs δ m1
section
variable {X : Cx} {W : WX} {a tg : Expr} {ra : DE} {pos : Pos}
theorem ds_tupL {g : TG} {js : List Nat} (ha : PE X a (lE X.K W ra)) (hg : PG X tg g) (go : Gok X.K js g (gTL js)) (hs : swapsWithSole [tg] a pos.line X.env = pure false := by rfl) (hw : swappedStores [tg] a X.env = pure none := by rfl) (h1 : (assignEach [tg] X.env).map (·.2) = [assign tg X.env] := by rfl) :
    PS X (.Assign [tg] a pos) (lS X.K W (sTupL js ra)) := by
  refine PS.imp (ps_asg ha hg hs hw h1) fun Dn σ H h => ?_
  obtain ⟨F, H0, m, δ, DD, ok, rs, h, gd⟩ := h
  exact ⟨F, H0, m, δ, _, _, ok, rs, h, fun v H1 H01 m1 d s1 ok1 r1 h1 => go F H01 m1 H1 σ δ v d _ _ ok1 (rs.mono s1) r1 h1 fun σ' δ' rs' _ h2 => gd.nx _ _ _ _ _ s1 ok1 rs' h2, gd.xx.at_ rs⟩
end
/-! ### abs(i) -/
def cAbs : DC := fun xs m P => match xs with
  | [.int i] => P (.int (if i < 0 then -i else i)) m
  | _ => False
theorem abs_ok {K : PySem.W.Frag} : CalD K (fun xs H Q => ∃ i, xs = [.int i] ∧ Q (.int (if i < 0 then -i else i)) H) cAbs := by
  intro F H0 m H vs ds P Q ok r h g
  unfold cAbs at h
  split at h
  · obtain ⟨v, rfl, q⟩ := r.one
    cases q
    exact ⟨_, rfl, g.id ok (.int _) h⟩
  · exact h.elim
section
variable {X : Cx} {W : WX} {e : Expr} {es : List Expr} {qs : DA} {p pos : Pos}
theorem pd_abs {x : Str} (hm : X.mg x = none) (hv : bootBuiltins x = some (.builtin "abs")) (ha : PA X (e :: es) (lA X.K W qs)) (hg : Gl X x := by rfl) (hn : x ≠ "__name__" := by decide) (hdb : (x == ("__debug__" : Str)) = false := by decide)
    (he : starEach (e :: es) X.env = (false, eval e X.env) :: starEach es X.env := by rfl) (hpl : (backTo pos (starEach es X.env)).any (·.1) = false := by rfl) : PE X (.Call (.Name x p) (e :: es) [] pos) (lE X.K W (rCB cAbs qs)) := pd_callB call_abs abs_ok hm hv ha hg hn hdb he hpl
end
end DL

/-! # max(xs, default=d) -/
namespace DL
open PySem L2
section
variable {prog : Program} {w : World} {A : Around} {R : Result → Shared → Prop} {I : Addr} {fp wr : List Addr} {n : Nat} {P : Nat → Value → Prop} {St : Nat → Heap → Prop} {kw : List (Str × Value)}
abbrev bObj (its : Array Value) (c : Nat) : Obj := { cls := .type "list", dict := none, data := .seq its c, slots := #[] }
theorem nmML : (toString "max" ++ toString ".loop" : String) = "max.loop" := by decide
theorem mxGo (W : Walks prog w A.in1 I fp wr n P St) (bt : Nat → Nat → Bool) (cm : CmpOf prog w A.in1 .Gt P bt) (B : Addr) (nB : B ∉ fp) : ∀ (k j : Nat) (s : Shared) (vb : Value) (c : Nat), n - (j + 1) = k → j + 1 ≤ n → St (j + 1) s.heap → P (argBest bt j) vb → s.heap.get? B = some (bObj #[vb, vb] c) →
    (∀ v h' tk, P (argBest bt (n - 1)) v → (∀ b o, b ∉ wr → b ≠ B → s.heap.get? b = some o → h'.get? b = some o) → R (.ok (.ret v)) { s with heap := h', toks := tk }) → codeAny (model prog w) A (.builtin "max.loop" ⟨[.ref I, .none, .ref B], kw⟩) R s := by
  have nW : B ∉ wr := fun h => nB (W.sub _ h)
  intro k
  induction k with
  | zero =>
    intro j s vb c ek hj st pb gB r
    have en : j + 1 = n := by omega
    refine codeAny_builtin (F.entry_max_loop) ?_; rw [Around.under_plainId (F.plain_max_loop) _]
    show wpAny _ A.in1 (seqItems? (.ref B) >>= _) _ _ s
    refine wpAny_bind (wpAny_seqItems gB rfl ?_); show wpAny _ A.in1 (tryCatch (pyNext (.ref I)) _ >>= _) _ _ s
    refine wpAny_bind (wpAny_tryCatch (W.done s _ _ (en ▸ st) fun h' tk kp => ?_))
    have gB' := kp B _ nW gB
    show wpAny _ A.in1 (updateSeq B (fun _ => #[]) >>= _) _ _ _
    refine wpAny_bind (wpAny_updateSeq gB' rfl (wpAny_bind (wpAny_letGo (wpAny_pure ?_))))
    exact r vb _ tk (by rw [← en]; exact pb) fun b o h1 h2 e => (Heap.get?_update_other _ _ (Ne.symm h2)).trans (kp b o h1 e)
  | succ k ih =>
    intro j s vb c ek hj st pb gB r
    have lt : j + 1 < n := by omega
    refine codeAny_builtin (F.entry_max_loop) ?_; rw [Around.under_plainId (F.plain_max_loop) _]
    show wpAny _ A.in1 (seqItems? (.ref B) >>= _) _ _ s
    refine wpAny_bind (wpAny_seqItems gB rfl ?_); show wpAny _ A.in1 (tryCatch (pyNext (.ref I)) _ >>= _) _ _ s
    refine wpAny_bind (wpAny_tryCatch (W.item (j + 1) s _ _ lt st fun v h' tk pv st' kp => ?_))
    have gB' := kp B _ nW gB
    show wpAny _ A.in1 (tryCatch (holding [v, v] (richCompare .Gt v vb >>= _)) _ >>= _) _ _ _
    refine wpAny_bind (wpAny_tryCatch (wpAny_holding (wpAny_bind (cm (j + 1) (argBest bt j) v vb _ _ _ pv pb (wpAny_bind (wpAny_holding (wpAny_truthy_bool (wpAny_bind (wpAny_letGo (wpAny_pure ?_))))))))))
    cases hb : bt (j + 1) (argBest bt j) with
    | true =>
      simp only [if_true]
      refine wpAny_bind (wpAny_updateSeq gB' rfl (wpAny_bind (wpAny_letGo ?_)))
      rw [nmML]
      refine wpAny_pure ⟨plainId_quiet F.plain_max_loop _, ih (j + 1) _ v _ (by omega) lt (W.frame _ _ _ st' fun b hf o e => ?_) (by simp only [argBest, hb, if_true]; exact pv) (Heap.get?_update_self _ gB' rfl) fun v' h2 tk2 p2 kp2 => ?_⟩
      · exact (Heap.get?_update_other _ _ (fun h : B = b => nB (by rw [h]; exact hf))).trans e
      · exact r v' h2 tk2 p2 fun b o x1 x2 e => kp2 b o x1 x2 ((Heap.get?_update_other _ _ (Ne.symm x2)).trans (kp b o x1 e))
    | false =>
      simp only [Bool.false_eq_true, if_false]
      refine wpAny_bind (wpAny_letGo ?_); rw [nmML]
      refine wpAny_pure ⟨plainId_quiet F.plain_max_loop _, ih (j + 1) _ vb c (by omega) lt st' (by simp only [argBest, hb, Bool.false_eq_true, if_false]; exact pb) gB' fun v' h2 tk2 p2 kp2 => ?_⟩
      exact r v' h2 tk2 p2 fun b o x1 x2 e => kp2 b o x1 x2 (kp b o x1 e)
/-- the first turn -/
theorem mxAt {nm : Str} {d : Value} (W : Walks prog w A.in1 I fp wr n P St) (bt : Nat → Nat → Bool) (cm : CmpOf prog w A.in1 .Gt P bt) (B : Addr) (nB : B ∉ fp) {s : Shared} {c : Nat} (st : St 0 s.heap) (gB : s.heap.get? B = some (bObj #[] c))
    (r : ∀ v h' tk, (if n = 0 then v = d else P (argBest bt (n - 1)) v) → (∀ b o, b ∉ wr → b ≠ B → s.heap.get? b = some o → h'.get? b = some o) → R (.ok (.ret v)) { s with heap := h', toks := tk }) : codeAny (model prog w) A (.builtin "max.loop" ⟨[.ref I, .none, .ref B], [(nm, d)]⟩) R s := by
  have nW : B ∉ wr := fun h => nB (W.sub _ h)
  refine codeAny_builtin (F.entry_max_loop) ?_; rw [Around.under_plainId (F.plain_max_loop) _]
  show wpAny _ A.in1 (seqItems? (.ref B) >>= _) _ _ s
  refine wpAny_bind (wpAny_seqItems gB rfl ?_); show wpAny _ A.in1 (tryCatch (pyNext (.ref I)) _ >>= _) _ _ s
  by_cases h0 : n = 0
  · refine wpAny_bind (wpAny_tryCatch (W.done s _ _ (by rw [h0]; exact st) fun h' tk kp => ?_))
    show wpAny _ A.in1 (rule _ >>= _) _ _ _
    refine wpAny_bind (wpAny_rule (wpAny_pure ?_))
    exact r d h' tk (by rw [if_pos h0]) fun b o h1 _ e => kp b o h1 e
  · refine wpAny_bind (wpAny_tryCatch (W.item 0 s _ _ (by omega) st fun v h' tk pv st' kp => ?_))
    have gB' := kp B _ nW gB
    show wpAny _ A.in1 (updateSeq B (fun _ => #[v, v]) >>= _) _ _ _
    refine wpAny_bind (wpAny_updateSeq gB' rfl ?_)
    rw [nmML]
    refine wpAny_pure ⟨plainId_quiet F.plain_max_loop _, mxGo W bt cm B nB _ 0 _ v _ rfl (by omega) (W.frame _ _ _ st' fun b hf o e => ?_) pv (Heap.get?_update_self _ gB' rfl) fun v' h2 tk2 p2 kp2 => ?_⟩
    · exact (Heap.get?_update_other _ _ (fun h : B = b => nB (by rw [h]; exact hf))).trans e
    · exact r v' h2 tk2 (by rw [if_neg h0]; exact p2) fun b o x1 x2 e => kp2 b o x1 x2 ((Heap.get?_update_other _ _ (Ne.symm x2)).trans (kp b o x1 e))
end
theorem args_maxD (a d : Value) : argsOk "max" ⟨[a], [(Str.ofString "default", d)]⟩ := by unfold argsOk; kernel_rfl
section
variable {prog : Program} {w : World} {A : Around} {E : Value → Shared → Prop} {s : Shared}
theorem maxD_walk {x d : Value} {Q : Value → Shared → Prop}
    (h : wpAny (model prog w) A.in1 (pyIter x) (fun it s2 => ∃ I fp wr n P St bt, it = .ref I ∧ Walks prog w A.in1 I fp wr n P St ∧ St 0 s2.heap ∧ (∀ b ∈ fp, b < s2.heap.objs.size) ∧ CmpOf prog w A.in1 .Gt P bt ∧
      ∀ v h' tk, (if n = 0 then v = d else P (argBest bt (n - 1)) v) → (∀ b o, b ∉ wr → s2.heap.get? b = some o → h'.get? b = some o) → Q v { s2 with heap := h', toks := tk }) E s) :
    wpAny (model prog w) A (call (.builtin "max") [x] [(Str.ofString "default", d)]) Q E s := by
  refine wpAny_call (codeAny_call_builtin F.plain_max F.entry_max ?_)
  have body : wpAny (model prog w) A.in1 (Builtin.«max» ⟨[x], [(Str.ofString "default", d)]⟩) (fun fin s' => match fin with
      | .done f => (match (Except.ok f : Result) with | .ok (.ret v) => Q v s' | .ok _ => False | .error e => E e s')
      | .again c' => c'.quiet = true ∧ codeAny (model prog w) A c' (fun r s' => match r with | .ok (.ret v) => Q v s' | .ok _ => False | .error e => E e s') s') E s := by
    show wpAny _ A.in1 (Builtin.Builtins.bindParams "max" ["key", "default"] 0 ⟨[], [(Str.ofString "default", d)]⟩ >>= _) _ _ s
    refine wpAny_bind (wpAny_of_eq (show Builtin.Builtins.bindParams "max" ["key", "default"] 0 ⟨[], [(Str.ofString "default", d)]⟩ = pure [none, some d] from rfl) ?_)
    refine wpAny_bind (wpAny_pure (wpAny_bind (wpAny_mono h (fun it s2 h2 => ?_) fun _ _ e => e)))
    obtain ⟨I, fp, wr, n, P, St, bt, rfl, W, st, hf, cm, q⟩ := h2
    refine wpAny_bind (wpAny_newObj_type ?_)
    have nf : s2.heap.objs.size ∉ fp := fun hm => Nat.lt_irrefl _ (hf _ hm)
    rw [nmML]
    refine wpAny_pure ⟨plainId_quiet F.plain_max_loop _, mxAt (d := d) W bt cm s2.heap.objs.size nf (W.frame _ _ _ st fun b _ o e => Heap.get?_push_of_some _ e) (Heap.get?_push_size _ rfl) fun v h' tk pv kp => ?_⟩
    exact q v h' tk pv fun b o hb e => kp b o hb (Nat.ne_of_lt (Heap.lt_size e)) (Heap.get?_push_of_some _ e)
  have ha := args_maxD x d
  simp only [checkBuiltinCall, F.kind_max]
  cases hs : Manifest.signature? "max" with
  | none => exact wpAny_pure body
  | some sig =>
    have ha' : Bind.checkArgs "max" sig ⟨[x], [(Str.ofString "default", d)]⟩ = pure () := by simpa only [argsOk, hs] using ha
    simp only [ha']
    exact wpAny_pure body
end
section
variable {prog : Program} {w : World} {A : Around} {E : Value → Shared → Prop} {s : Shared} {l : Addr}
theorem maxD_list {xs : Array (Int × Tok)} {d : Value} {Q : Value → Shared → Prop} (hh : A.handled = none) (hl : s.heap.IsList l (intItems xs))
    (h : ∀ v h' tk, (if xs.size = 0 then v = d else (intItems xs)[argBest (fun i j => decide (numAt xs i > numAt xs j)) (xs.size - 1)]? = some v) → (∀ b o, s.heap.get? b = some o → h'.get? b = some o) → Q v { s with heap := h', toks := tk }) :
    wpAny (model prog w) A (call (.builtin "max") [.ref l] [(Str.ofString "default", d)]) Q E s := by
  refine maxD_walk (iter_intList hl fun s2 e st hf hI => ?_)
  subst e
  have sz : (intItems xs).size = xs.size := by simp [intItems]
  refine ⟨_, _, _, _, _, _, _, rfl, Walks.list (A := A.in1) hh _ l hI (intItems xs), st, hf, CmpOf.ints_gt (numAt xs) (fun _ _ => intItems_at), fun v h' tk pv kp => ?_⟩
  rw [sz] at pv
  exact h v h' tk pv (old_kept kp)
theorem maxD_raw {its : List Value} {ns : List Int} {d : Value} {Q : Value → Shared → Prop} (hh : A.handled = none) (hl : s.heap.IsList l its.toArray) (hi : PyProof.Rows.IntsAre its ns)
    (h0 : ns = [] → ∀ h' tk, (∀ b o, s.heap.get? b = some o → h'.get? b = some o) → Q d { s with heap := h', toks := tk })
    (h1 : ∀ h' tk M t', (∀ b o, s.heap.get? b = some o → h'.get? b = some o) → M ∈ ns → (∀ a, a ∈ ns → a ≤ M) → Q (.int M t') { s with heap := h', toks := tk }) :
    wpAny (model prog w) A (call (.builtin "max") [.ref l] [(Str.ofString "default", d)]) Q E s := by
  obtain ⟨xs, e⟩ := hi.allInts.items
  have hn : numsOf (intItems xs).toList = ns := by rw [← e]; exact hi.numsOf
  rw [nums_intItems] at hn; subst hn; rw [e] at hl
  refine maxD_list hh hl fun v h' tk pv kp => ?_
  by_cases hz : xs.size = 0
  · rw [if_pos hz] at pv
    subst pv
    exact h0 (by rw [List.map_eq_nil_iff, ← List.length_eq_zero_iff, Array.length_toList]; exact hz) h' tk kp
  · rw [if_neg hz] at pv
    obtain ⟨t, rfl⟩ := intItems_at pv
    obtain ⟨p1, p2⟩ := argBest_gt (numAt xs) (xs.size - 1)
    refine h1 h' tk _ t kp ?_ fun a ha => ?_
    · rw [numAt_eq]; exact PySem.getD_mem (by rw [List.length_map, Array.length_toList]; omega)
    · obtain ⟨j, hj, rfl⟩ := mem_getD ha
      rw [List.length_map, Array.length_toList] at hj
      rw [← numAt_eq]; exact p2 j (by omega)
end
def rMaxD (K : PySem.W.Frag) : List V → List V → Hp → VK → Prop := fun vs zs H Q => ∃ (a : Addr) (ns : List Int) (d : V), vs = [V.ref a] ∧ zs = [d] ∧ SqL K H a (ns.map V.int) ∧ (ns = [] → Q d H) ∧ ∀ M, M ∈ ns → (∀ a, a ∈ ns → a ≤ M) → Q (.int M) H
theorem cr_maxD0 {X : Cx} (hc : X.calm = true) : CallRK X (.builtin "max") [Str.ofString "default"] (rMaxD X.K) := by
  intro pins s σ H vs zs us ws Q I r rz h
  obtain ⟨a, ns, d, rfl, rfl, hs, q0, q1⟩ := h
  obtain ⟨its, rv, hl, _⟩ := I.list hs
  rw [Vals.ref1 r]
  obtain ⟨w1, rfl, e1⟩ := vals1 rz
  exact maxD_raw (I.ok.hd hc) hl.isList rv.ints (fun e h' tk kp => ⟨d, H, I.kept kp, e1, q0 e⟩) fun h' tk m t' kp h1 h2 => ⟨.int _, H, I.kept kp, ⟨_, rfl⟩, q1 m h1 h2⟩
/-- max(xs, default=d) -/
def rMaxK (qs qk : DA) : DE := fun δ m P PX => qs δ m (fun xs m1 => qk δ m1 (fun zs m2 => match xs, zs with
  | [x], [d] => match asI m2 x with
    | some [] => P d m2
    | some (n :: ns) => P (.int (mostI n ns)) m2
    | none => False
  | _, _ => False) PX) PX
section
variable {X : Cx} {W : WX} {e : Expr} {es : List Expr} {qs qk : DA} {p pos : Pos} {kws : List Keyword}
theorem pd_maxD {x : Str} (hc : X.calm = true) (hm : X.mg x = none) (hv : bootBuiltins x = some (.builtin "max")) (ha : PA X (e :: es) (lA X.K W qs)) (hk : PK X kws (lA X.K W qk)) (hg : Gl X x := by rfl) (hn : x ≠ "__name__" := by decide) (hdb : (x == ("__debug__" : Str)) = false := by decide)
    (he : backTo pos (starEach (e :: es) X.env) = (false, eval e X.env) :: backTo pos (starEach es X.env) := by rfl) (hpl : (backTo pos (starEach (e :: es) X.env)).any (·.1) = false := by rfl)
    (hall : (backToKw pos (keywordEach kws X.env)).all (·.1.isSome) = true := by rfl) (hno : (backToKw pos (keywordEach kws X.env)).any (·.1.isNone) = false := by rfl) (hks : (backToKw pos (keywordEach kws X.env)).filterMap (·.1) = [Str.ofString "default"] := by rfl) :
    PE X (.Call (.Name x p) (e :: es) kws pos) (lE X.K W (rMaxK qs qk)) := by
  refine PE.imp (pe_callBK (cr_maxD0 hc) hg hm hv ha hk hn hdb he hpl hall hno hks) fun σ H Q h => ?_
  obtain ⟨F, H0, m, δ, P, PX, ok, rs, h, g, gx⟩ := h
  refine ⟨F, H0, m, δ, _, PX, ok, rs, h, fun vs H1 H01 m1 ds s1 ok1 r1 h1 => ⟨F, H01, m1, δ, _, PX, ok1, rs.mono s1, h1, fun zs H2 H02 m2 ks s2 ok2 r2 h2 => ?_, gx.mono s1⟩, gx⟩
  dsimp only at h2
  split at h2
  · rename_i y d
    obtain ⟨v, rfl, q⟩ := r1.one
    obtain ⟨u, rfl, qd⟩ := r2.one
    have g2 := g.mono (s1.trans s2)
    split at h2
    · rename_i e1
      obtain ⟨pa, rfl, hq⟩ := asI_rp ok2 (q.mono s2) e1
      exact ⟨pa, [], u, rfl, rfl, hq, fun _ => g2.id ok2 qd h2, fun M hM => by cases hM⟩
    · rename_i n ns e1
      obtain ⟨pa, rfl, hq⟩ := asI_rp ok2 (q.mono s2) e1
      obtain ⟨l1, l2⟩ := mostI_spec ns n
      refine ⟨pa, _, u, rfl, rfl, hq, (fun z => by cases z), fun k h1 h3 => ?_⟩
      rw [show k = mostI n ns from Int.le_antisymm (l2 _ h1) (h3 _ l1)]
      exact g2.id ok2 (.int _) h2
    · exact h2.elim
  · exact h2.elim
end
/-! ### range(i, j); list(xs), a list of ours -/
def iRange2 (qs : DA) : DI := fun δ m P PX => qs δ m (fun xs m1 => match xs with
  | [.int i, .int j] => (-(2 ^ 62) ≤ i ∧ i < 2 ^ 62 ∧ -(2 ^ 62) ≤ j ∧ j < 2 ^ 62) ∧ P (fun _ => True) (rangeD i (j - i).toNat) m1
  | _ => False) PX
section
variable {X : Cx} {W : WX} {tg a b e : Expr} {es : List Expr} {qs : DA} {p pos : Pos}
theorem di_range2 {q : Pos} (hm : X.mg "range" = none) (ha : PA X [a, b] (lA X.K W qs)) (hg : Gl X "range" := by rfl) (hs : starEach [a, b] X.env = [(false, eval a X.env), (false, eval b X.env)] := by rfl) (hs2 : starEach [b] X.env = [(false, eval b X.env)] := by rfl) : PI X tg (.Call (.Name "range" q) [a, b] [] pos) (lI X.K W (iRange2 qs)) := by
  refine PI.imp (pi_range2 hg hm ha hs hs2) fun σ H R h => ?_
  obtain ⟨F, H0, m, δ, P, PX, ok, rs, h, g, gx⟩ := h
  refine ⟨F, H0, m, δ, _, PX, ok, rs, h, fun xs H1 H01 m1 ds s1 ok1 r1 h1 => ?_, gx⟩
  dsimp only at h1
  split at h1
  · obtain ⟨v, w, rfl, q1, q2⟩ := r1.two
    cases q1; cases q2
    exact ⟨_, _, rfl, h1.1, g _ _ _ _ _ _ s1 ok1 ItD.range trivial h1.2⟩
  · exact h1.elim
def cLstM : DC := fun xs m P => match xs with
  | [.tup ds] => ∀ q, m q = none → P (.adr q) (mset m q (.lst ds))
  | [x] => match asL m x with
    | some ds => ∀ q, m q = none → P (.adr q) (mset m q (.lst ds))
    | none => False
  | _ => False
theorem listM_ok {K : PySem.W.Frag} : CalD K (fun xs H Q => ∃ p ys, xs = [.ref p] ∧ (SqL K H p ys ∨ SqT K H p ys) ∧ ∀ l, H l = none → Q (.ref l) (upd H l (.lst ys))) cLstM := by
  intro F H0 m H vs ds P Q ok r h g
  unfold cLstM at h
  split at h
  · obtain ⟨v, rfl, q⟩ := r.one
    obtain ⟨p, ws, rfl, q2, r2⟩ := tup_rp ok q
    exact ⟨p, ws, rfl, .inr q2, fun l hl => g.lstM ok hl r2 h⟩
  · obtain ⟨v, rfl, q⟩ := r.one
    split at h
    · rename_i es e1
      obtain ⟨p, ws, rfl, q2, r2⟩ := asL_rp ok q e1
      exact ⟨p, ws, rfl, .inl q2, fun l hl => g.lstM ok hl r2 h⟩
    · exact h.elim
  · exact h.elim
theorem pd_listOfM {x : Str} (hm : X.mg x = none) (hv : bootBuiltins x = some (.type "list")) (ha : PA X (e :: es) (lA X.K W qs)) (hg : Gl X x := by rfl) (hn : x ≠ "__name__" := by decide) (hdb : (x == ("__debug__" : Str)) = false := by decide)
    (he : starEach (e :: es) X.env = (false, eval e X.env) :: starEach es X.env := by rfl) (hpl : (backTo pos (starEach es X.env)).any (·.1) = false := by rfl) : PE X (.Call (.Name x p) (e :: es) [] pos) (lE X.K W (rCB cLstM qs)) := pd_callTy call_list_of listM_ok hm hv ha hg hn hdb he hpl
end
/-! ### x = [.. for .. for ..]; s.upper(); what is never reached -/
section
variable {X : Cx} {W : WX} {tg tg1 a c o : Expr} {ifs ifs1 : List Expr} {scope : Scope} {own : List (Str × Nat)} {ri ri1 : DI} {g g1 : TG} {rg rg1 : DG} {qt qt1 : DT} {re ra : DE} {pos apos : Pos}
theorem ds_setLc2 {elt iter iter1 : Expr} {js jo js1 : List Nat} {i : Nat} {y : Str} {py spos : Pos} (hc : X.calm = true) (hN : X.N.Nodup) (hsw : swapsWith (.ListComp elt [⟨tg, iter, ifs, 0⟩, ⟨tg1, iter1, ifs1, 0⟩] scope pos) (some (.Name y py)) spos.line X.env = pure true) (hi : PI X tg iter (lI X.K W ri)) (ok : BlkOk X.N X.env.scope scope own) (go : Gok X.K jo g rg) (go1 : Gok X.K js1 g1 rg1) (hj : own.map (·.2) = js)
    (hg : ∀ (s : Shared) (H : Hp) (C : Addr) (cl : List (Str × Addr)) (fp : List Addr), PG (X.blk s H scope (compEnvC scope cl C X.env) fp) tg g) (ht : ∀ (s : Shared) (H : Hp) (C : Addr) (cl : List (Str × Addr)) (fp : List Addr), PTs (X.blk s H scope (compEnvC scope cl C X.env) fp) ifs (lT X.K noW qt))
    (hi1 : ∀ (s : Shared) (H : Hp) (C : Addr) (cl : List (Str × Addr)) (fp : List Addr), PI (X.blk s H scope (compEnvC scope cl C X.env) fp) tg1 iter1 (lI X.K noW ri1))
    (hg1 : ∀ (s : Shared) (H : Hp) (C : Addr) (cl : List (Str × Addr)) (fp : List Addr), PG (X.blk s H scope (compEnvC scope cl C X.env) fp) tg1 g1) (ht1 : ∀ (s : Shared) (H : Hp) (C : Addr) (cl : List (Str × Addr)) (fp : List Addr), PTs (X.blk s H scope (compEnvC scope cl C X.env) fp) ifs1 (lT X.K noW qt1))
    (he : ∀ (s : Shared) (H : Hp) (C : Addr) (cl : List (Str × Addr)) (fp : List Addr), PE (X.blk s H scope (compEnvC scope cl C X.env) fp) elt (lE X.K noW re)) (hjo : ∀ i ∈ jo, i ∈ js := by decide) (hj1 : ∀ i ∈ js1, i ∈ js := by decide) (hy : X.N[i]? = some y := by rfl) (hyl : X.env.scope.names.lookup y = some .local := by rfl) (hs : ∀ x, foldedSetIterable iter X.env x = pure x := by intro _; rfl) (hs1 : ∀ env x, foldedSetIterable iter1 env x = pure x := by intro _ _; rfl) :
    PS X (.Assign [.Name y py] (.ListComp elt [⟨tg, iter, ifs, 0⟩, ⟨tg1, iter1, ifs1, 0⟩] scope pos) spos) (lS X.K W (sSet i (rLc2 ri js rg qt ri1 js1 rg1 qt1 re))) := by
  subst hj
  refine PS.imp (ps_setLc2 (i := i) hc hN hy hyl hsw hi ok hj1 hg ht hi1 hg1 ht1 he hs hs1) fun Dn σ H h => ?_
  obtain ⟨F, H0, m, δ, DD, ok, rs, h, gd⟩ := h
  unfold sSet rLc2 at h
  refine lc2_lift go hjo go1 lc_fin (Q := fun x H1 => gName i x σ H1 Dn.nx) ⟨F, H0, m, δ, fun d m1 => DD.nx (δ.set i (some d)) m1, fun c fs m1 => DD.xx c fs δ m1, ok, rs, h, fun v H1 H01 m1 d s1 ok1 r1 h1 => gd.nx _ _ _ _ _ s1 ok1 ((rs.mono s1).set r1 i) h1, gd.xx.at_ rs⟩
theorem ds_setLcM {elt iter : Expr} {js : List Nat} {i : Nat} {y : Str} {py spos : Pos} (hc : X.calm = true) (hN : X.N.Nodup) (hsw : swapsWith (.ListComp elt [⟨tg, iter, ifs, 0⟩] scope pos) (some (.Name y py)) spos.line X.env = pure true) (hi : PI X tg iter (lI X.K W ri)) (ok : BlkOk X.N X.env.scope scope own) (go : Gok X.K js g rg) (hj : own.map (·.2) = js)
    (hg : ∀ (s : Shared) (H : Hp) (C : Addr) (cl : List (Str × Addr)) (fp : List Addr), PG (X.blk s H scope (compEnvC scope cl C X.env) fp) tg g) (ht : ∀ (s : Shared) (H : Hp) (C : Addr) (cl : List (Str × Addr)) (fp : List Addr), PTs (X.blk s H scope (compEnvC scope cl C X.env) fp) ifs (lT X.K noW qt))
    (he : ∀ (s : Shared) (H : Hp) (C : Addr) (cl : List (Str × Addr)) (fp : List Addr), PE (X.blk s H scope (compEnvC scope cl C X.env) fp) elt (lE X.K noW re)) (hy : X.N[i]? = some y := by rfl) (hyl : X.env.scope.names.lookup y = some .local := by rfl) (hs : ∀ x, foldedSetIterable iter X.env x = pure x := by intro _; rfl) :
    PS X (.Assign [.Name y py] (.ListComp elt [⟨tg, iter, ifs, 0⟩] scope pos) spos) (lS X.K W (sSet i (rLcM ri js rg qt re))) := by
  subst hj
  refine PS.imp (ps_setLc (i := i) hc hN hy hyl hsw hi ok hg ht he hs) fun Dn σ H h => ?_
  obtain ⟨F, H0, m, δ, DD, ok, rs, h, gd⟩ := h
  unfold sSet rLcM at h
  refine lc_lift go lc_finM (Q := fun x H1 => gName i x σ H1 Dn.nx) ⟨F, H0, m, δ, fun d m1 => DD.nx (δ.set i (some d)) m1, fun c fs m1 => DD.xx c fs δ m1, ok, rs, h, fun v H1 H01 m1 d s1 ok1 r1 h1 => gd.nx _ _ _ _ _ s1 ok1 ((rs.mono s1).set r1 i) h1, gd.xx.at_ rs⟩
def rUpper (ra : DE) : DE := fun δ m P PX => ra δ m (fun x m1 => match x with
  | .str z => z.length ≤ 5592405 ∧ P (.str (Txt.upper z)) m1
  | _ => False) PX
theorem pd_upper (ho : PE X o (lE X.K W ra)) (hbase : attributeBase o "upper" X.env (eval o X.env) = eval o X.env := by rfl) (hline : (apos.endLine == pos.line) = true := by rfl) : PE X (.Call (.Attribute o "upper" apos) [] [] pos) (lE X.K W (rUpper ra)) := by
  refine PE.imp (pe_upper ho hbase hline) fun σ H Q h => ?_
  obtain ⟨F, H0, m, δ, P, PX, ok, rs, h, g, gx⟩ := h
  refine ⟨F, H0, m, δ, _, PX, ok, rs, h, fun x H1 H01 m1 d s1 ok1 r1 h1 => ?_, gx⟩
  dsimp only at h1
  split at h1
  · cases r1
    exact ⟨⟨_, rfl⟩, _, rfl, rfl, h1.1, (g.mono s1).id ok1 (.str _) h1.2⟩
  · exact h1.elim
/-- a statement that is never reached -/
def sNo : DS := fun _ _ _ => False
theorem ds_no {st : Stmt} : PS X st (lS X.K W sNo) := ⟨fun pins s σ H D I h => by
  obtain ⟨F, H0, m, δ, DD, ok, rs, h, gd⟩ := h
  exact h.elim⟩
/-- an expression that is never reached -/
def rNo : DE := fun _ _ _ _ => False
theorem pd_no {e : Expr} : PE X e (lE X.K W rNo) := ⟨fun pins s σ H Q I h => by
  obtain ⟨F, H0, m, δ, P, PX, ok, rs, h, g⟩ := h
  exact h.elim⟩
end
end DL

/-! # sorted(a tuple of texts) -/
namespace DL
open PySem L2
open PyProof.Rows (seqObj sortedAll)
section
variable {prog : Program} {w : World} {A : Around} {E : Value → Shared → Prop} {s : Shared}
abbrev hp1 (h : Heap) (vs : List Value) : Heap := (h.push (seqObj "list" #[] 0)).update h.objs.size (Obj.mapSeq (· ++ vs.toArray))
theorem coll_tup {l : Addr} {vs : List Value} {Q : List Value → Shared → Prop} (hl : PyProof.Rows.IsTup s.heap l vs.toArray) (z : vs.length ≤ sizeLine) (h : Q vs { s with heap := hp1 s.heap vs }) : wpAny (model prog w) A (collect (.ref l)) Q E s := by
  obtain ⟨o, ho, hc, n, hd⟩ := id hl
  unfold collect
  refine wpAny_bind (wpAny_runValue (codeAny_builtin PyProof.Rows.entry_proto_collect' ?_))
  show wpAny _ _ (newList [] >>= fun x => again (.builtin "list.__iadd__" ⟨[x, .ref l], []⟩)) _ _ s
  refine wpAny_bind (wpAny_newList (wpAny_pure ⟨Code.quiet_builtin _ (by decide +kernel), codeAny_builtin PyProof.Rows.entry_list_iadd' ?_⟩))
  show wpAny _ _ (Builtin.List.listExtendWith (.ref s.heap.objs.size) (.ref l) (.ref s.heap.objs.size)) _ _ (({ s with heap := s.heap.push (seqObj "list" #[] 0) } : Shared))
  unfold Builtin.List.listExtendWith
  have ho' : (s.heap.push (seqObj "list" #[] 0)).get? l = some o := Heap.get?_push_of_some _ ho
  refine wpAny_bind (wpAny_typeOf (T := "tuple") ⟨o, ho', hc⟩ ?_)
  have ht : (Value.type "tuple" == Value.type "tuple") = true := by rfl
  rw [if_pos (by rw [ht]; simp)]
  refine wpAny_bind (PyProof.Rows.listItems_at ho' hd (wpAny_bind (PyProof.Rows.listItems_at (xs := #[]) (n := 0) (Heap.get?_push_size _ rfl) rfl ?_)))
  rw [if_neg (by simp)]
  refine wpAny_bind (PyProof.Rows.listUpdate_at (xs := #[]) (n := 0) (Heap.get?_push_size _ rfl) rfl (wpAny_pure ?_) (Nat.zero_le _) (by show (#[] ++ vs.toArray).size ≤ sizeLine + 1; simp only [Array.size_append, List.size_toArray, List.length_nil]; omega))
  show wpAny (model prog w) A (load s.heap.objs.size >>= fun o => match o.data with | .seq xs _ => pure xs.toList | _ => unsupported "internal:collect") Q E (({ s with heap := hp1 s.heap vs } : Shared))
  refine wpAny_bind (wpAny_load (PyProof.Rows.get?_update_seq (Heap.get?_push_size _ rfl) _) ?_)
  show wpAny _ _ (pure ((#[] : Array Value) ++ vs.toArray).toList) Q E _
  rw [show ((#[] : Array Value) ++ vs.toArray).toList = vs by simp]
  exact wpAny_pure h
theorem srt_tup {l : Addr} {vs : List Value} {ss : List Str} {Q : Value → Shared → Prop} (hl : PyProof.Rows.IsTup s.heap l vs.toArray) (hS : PyProof.Rows.StrsAre vs ss) (h64 : vs.length < 64)
    (h : ∀ (out : Array Value) (ss' : List Str), PyProof.Rows.StrsAre out.toList ss' → ss'.Perm ss → PyProof.Rows.sortedS ss' = true → Q (.ref (s.heap.objs.size + 1)) { s with heap := sortedAll s.heap vs out }) : wpAny (model prog w) A (call (.builtin "sorted") [.ref l]) Q E s := by
  refine Calls.call_function_entry PyProof.Rows.kind_sorted PyProof.Rows.plain_sorted PyProof.Rows.entry_sorted (PyProof.Rows.args_sorted1 _) ?_
  unfold Builtin.«sorted»
  have z : vs.length ≤ sizeLine := by rw [sizeLine_eq]; omega
  refine wpAny_bind (m := checkCount "sorted" 1 1 _) (wpAny_pure (wpAny_bind (coll_tup hl z (wpAny_bind (wpAny_newList ?_ z)))))
  have sz : (hp1 s.heap vs).objs.size = s.heap.objs.size + 1 := by rw [Heap.size_update, PyProof.Rows.size_push']
  have oL : ((hp1 s.heap vs).push (seqObj "list" vs.toArray 0)).get? (s.heap.objs.size + 1) = some (seqObj "list" vs.toArray 0) := by rw [← sz]; exact Heap.get?_push_size _ rfl
  show wpAny _ _ _ _ _ (({ s with heap := (hp1 s.heap vs).push (seqObj "list" vs.toArray 0) } : Shared))
  rw [sz]
  refine wpAny_bind (wpAny_holding (wpAny_call_entry PyProof.Rows.slot_list_sort ⟨_, oL, rfl⟩ PyProof.Rows.entry_list_sort (PyProof.Rows.list_sort_treeK PyProof.Rows.strKind_oneLt oL hS.keysOf (fun v1 v2 rest e => PyProof.Rows.keyKind_strs (by rw [← e]; exact hS)) h64 fun st' a1 a2 => ⟨_, rfl, ?_⟩) (PyProof.Rows.args_list_sort _)))
  obtain ⟨ss', h1, h2, h3⟩ := PyProof.Rows.sorted_out_str hS a1 a2
  exact wpAny_pure ⟨_, rfl, h _ ss' h1 h2 h3⟩
end
def rSrtT (K : PySem.W.Frag) : List V → Hp → VK → Prop := fun vs H Q => ∃ (a : Addr) (xs : List Str), vs = [V.ref a] ∧ SqT K H a (xs.map V.str) ∧ xs.length < 64 ∧ ∀ (ys : List Str) (p : Addr), ys.Perm xs → PyProof.Rows.sortedS ys = true → H p = none → Q (.ref p) (upd H p (.lst (ys.map V.str)))
theorem cr_srtT {X : Cx} : CallR X (.builtin "sorted") (rSrtT X.K) := by
  intro pins s σ H vs us Q I r h
  obtain ⟨a, xs, rfl, hs, h64, q⟩ := h
  obtain ⟨its, rv, hl, _⟩ := I.tuple hs
  rw [Vals.ref1 r]
  have l0 := rv.length
  rw [List.length_map] at l0
  refine srt_tup hl rv.strs (by rw [← l0]; exact h64) fun out ys h1 h2 h3 => ?_
  obtain ⟨ep, he⟩ := PyProof.Rows.sortedAll_at s.heap its out
  have hlen : (ys.map V.str).length ≤ sizeLine := by rw [List.length_map, h2.length_eq]; exact small64 h64
  exact ⟨.ref _, upd H (s.heap.objs.size + 1) (.lst (ys.map V.str)), I.laid (t' := s.toks) (fun _ _ => PyProof.Rows.sortedAll_old) (Nat.le_succ _) ⟨hlen, out.toList, ep, vals_of_strs h1, he⟩, rfl, q ys _ h2 h3 (I.hok.fresh (Nat.le_succ _))⟩
def cSrtT : DC := fun xs m P => match xs with
  | [.tup ds] => match textsD ds with
    | some ss => ss.length < 64 ∧ ∀ ys : List Str, ys.Perm ss → PyProof.Rows.sortedS ys = true → P (.lst (ys.map .str)) m
    | none => False
  | _ => False
theorem rpl_strs {K : PySem.W.Frag} {H : Hp} : ∀ (ys : List Str), RpL K H (ys.map V.str) (ys.map D.str)
  | [] => .nil
  | y :: ys => .cons (.str y) (rpl_strs ys)
theorem srtT_ok {K : PySem.W.Frag} : CalD K (rSrtT K) cSrtT := by
  intro F H0 m H vs ds P Q ok r h g
  unfold cSrtT at h
  split at h
  · obtain ⟨v, rfl, q⟩ := r.one
    split at h
    · rename_i ss e1
      obtain ⟨p, ws, rfl, q2, r2⟩ := tup_rp ok q
      have e2 : ws = ss.map V.str := textsD_rp r2 e1
      subst e2
      exact ⟨p, ss, rfl, q2, h.1, fun ys l h1 h2 hl => g.lst ok hl (rpl_strs ys) (h.2 ys h1 h2)⟩
    · exact h.elim
  · exact h.elim
section
variable {X : Cx} {W : WX} {e : Expr} {es : List Expr} {qs : DA} {p pos : Pos}
theorem pd_srtT {x : Str} (hm : X.mg x = none) (hv : bootBuiltins x = some (.builtin "sorted")) (ha : PA X (e :: es) (lA X.K W qs)) (hg : Gl X x := by rfl) (hn : x ≠ "__name__" := by decide) (hdb : (x == ("__debug__" : Str)) = false := by decide)
    (he : starEach (e :: es) X.env = (false, eval e X.env) :: starEach es X.env := by rfl) (hpl : (backTo pos (starEach es X.env)).any (·.1) = false := by rfl) : PE X (.Call (.Name x p) (e :: es) [] pos) (lE X.K W (rCB cSrtT qs)) := pd_callB cr_srtT srtT_ok hm hv ha hg hn hdb he hpl
end
end DL

namespace DL
open PySem L2
local macro_rules | `(tactic| walk_at "dl") => `(tactic| ((conv => whnf); try dsimp only))
local macro_rules | `(tactic| walk_at "sd") => `(tactic| first | trivial | exact Nat.zero_le _ | assumption | decide | omega | exact len_line (by first | decide | omega | (simp; done) | (simp; omega)) | (simp; done) | (simp; omega) | exact ⟨by decide, by decide, by decide⟩ | exact .inl ⟨by decide, by decide⟩ | exact .inl ⟨by omega, by omega⟩ | exact wide_div (b := 64) (by decide) (by decide) (by decide) (by decide))
local macro_rules | `(tactic| walk_at "go") => `(tactic| ((conv => whnf); (try dsimp only); repeat ((with_reducible refine And.intro ?_ ?_); (focus (walk_at "sd")); (conv => whnf); (try dsimp only))))
local macro_rules | `(tactic| walk_at "th") => `(tactic| repeat' (first | assumption | exact thD_txt _ _ | exact thD_int | exact thD_non | exact thD_bl | (refine thD_mono _ _ _ ?_ (by assumption); decide) | refine List.forall_mem_cons.mpr (And.intro ?_ ?_) | exact List.forall_mem_nil _ | refine thD_tup (by simp) ?_ | refine thD_lst (by simp) ?_))
local macro_rules | `(tactic| walk_at "ln") => `(tactic| (intro ds m Q PX h; repeat (obtain ⟨_, h⟩ := h); subst_vars; rfl))
/-! ### demands of a plan, plans eased -/
abbrev Od := Str × Str × Str
def odD (o : Od) : D := .tup [.str o.1, .str o.2.1, .str o.2.2]
def lsD (x : Str) : D := .tup [.str "least", .str x]
def dems (ws : List Ws) (os : List Od) : List D := ((ws.filter fun W => decide (0 < W.least)).map fun W => lsD W.name) ++ os.map odD
def plD2 (ws : List Ws) (os : List Od) (ss : List Str) : D := pnD ws (.tup (os.map odD)) (.tup (ss.map .str))
noncomputable def memB (x : D) (ds : List D) : Bool := ds.any fun z => deq z x
structure PT (d : D) : Prop where
  p : pur d = true
  t : thD 5 d
theorem memB_iff {x : D} {ds : List D} (hx : pur x = true) (h : ∀ d ∈ ds, pur d = true) : memB x ds = true ↔ x ∈ ds := by
  unfold memB
  rw [List.any_eq_true]
  constructor
  · rintro ⟨z, hz, e⟩
    have : deq (dat (fun _ => none) z) (dat (fun _ => none) x) = true := by rw [dat_pur (h z hz), dat_pur hx]; exact e
    by_cases he : z = x
    · rw [← he]; exact hz
    · rw [deqP (b := false) (h z hz) hx (by simp [he])] at this
      cases this
  · intro hm
    refine ⟨x, hm, ?_⟩
    have := deqP (m := fun _ => none) (b := true) hx hx (by simp)
    rw [dat_pur hx] at this
    exact this
theorem shIn {x : D} {ds : List D} {m : Mu} (hx : PT x) (h : ∀ d ∈ ds, PT d) (hl : ds.length ≤ 10000) : (flatD x = true ∧ ds.all flatD = true) ∨ (shp (dat m x) ∧ shp (.lst ds)) :=
  .inr ⟨shpT hx.t, shpT (m := m) (n := 6) (d := .lst ds) ⟨hl, fun d hd => (h d hd).t⟩⟩
theorem any_mem {x : D} {ds : List D} {m : Mu} (hx : PT x) : (ds.any fun z => deq z (dat m x)) = memB x ds := by rw [dat_pur hx.p]; rfl
structure OdOk (ns : List Str) (o : Od) : Prop where
  w : o.1 = "all" ∨ o.1 = "ready"
  a : o.2.1 ∈ ns
  b : o.2.2 ∈ ns
  ne : o.2.1 ≠ o.2.2
structure PnOk (ws : List Ws) (os : List Od) (ss : List Str) : Prop where
  few : ws.length ≤ 5
  ok : ∀ W ∈ ws, W.Ok
  nd : (ws.map Ws.name).Nodup
  many : os.length ≤ 12
  ods : ∀ o ∈ os, OdOk (ws.map Ws.name) o
  ondd : os.Nodup
  sfew : ss.length ≤ 4
  snd : ss.Nodup
  snm : ∀ x ∈ ss, nmB x = true
theorem PnOk.nm {ws : List Ws} {os : List Od} {ss : List Str} (h : PnOk ws os ss) {x : Str} (hx : x ∈ ws.map Ws.name) : nmB x = true := by
  obtain ⟨W, hW, rfl⟩ := List.mem_map.mp hx
  exact (h.ok W hW).name
theorem pt_od {o : Od} (h1 : o.1 = "all" ∨ o.1 = "ready") (h2 : nmB o.2.1 = true) (h3 : nmB o.2.2 = true) : PT (odD o) := by
  have t2 := thD_nm (n := 4) h2
  have t3 := thD_nm (n := 4) h3
  have t1 : thD 4 (.str o.1) := by rcases h1 with e | e <;> (rw [e]; exact thD_txt _ _)
  exact ⟨rfl, thD_tup (by simp) (by walk_at "th")⟩
theorem pt_ls {x : Str} (h : nmB x = true) : PT (lsD x) := by
  have t2 := thD_nm (n := 4) h
  exact ⟨rfl, thD_tup (by simp) (by walk_at "th")⟩
theorem PnOk.pt {ws : List Ws} {os : List Od} {ss : List Str} (h : PnOk ws os ss) : ∀ d ∈ dems ws os, PT d := by
  intro d hd
  rcases List.mem_append.mp hd with hd | hd
  · obtain ⟨W, hW, rfl⟩ := List.mem_map.mp hd
    exact pt_ls (h.ok W (List.mem_filter.mp hW).1).name
  · obtain ⟨o, ho, rfl⟩ := List.mem_map.mp hd
    have := h.ods o ho
    exact pt_od this.w (h.nm this.a) (h.nm this.b)
theorem dems_len (ws : List Ws) (os : List Od) : (dems ws os).length ≤ ws.length + os.length := by
  unfold dems
  rw [List.length_append, List.length_map, List.length_map]
  have := List.length_filter_le (fun W : Ws => decide (0 < W.least)) ws
  omega
def sp_demands : SpD := fun ds m P _ => ∃ (ws : List Ws) (os : List Od) (s : D), ds = [pnD ws (.tup (os.map odD)) s] ∧ ws.length ≤ 1000 ∧ os.length ≤ 1000 ∧ P (.lst (dems ws os)) m
def rd_demands : DS :=
    sRet (rOp oAdd (rLc (iAny (rMet "Plan" "wishes" sp_Plan_wishes 0 0 (gI [0]) (rV 0) (rNil) (rNil))) [1] (gN 1) (rTst (rOp oGt (rFld "Wish" "least" (rV 1)) (rC (.int 0)))) (rTup (rCons (rC (.str "least")) (rCons (rFld "Wish" "name" (rV 1)) (rNil))))) (rCB cLst (rCons (rFld "Plan" "orders" (rV 0)) (rNil))))
theorem ln_demands : ∀ ds m Q PX, sp_demands ds m Q PX → ds.length = 1 := fun ds m Q PX h => by (repeat (obtain ⟨_, h⟩ := h)); subst_vars; rfl
theorem pu_demands : ∀ ds m Q PX, sp_demands ds m Q PX → rd_demands (dEnds Q PX) (dstart ["plan", "wish"] ds) m := by
  rintro ds m Q PX ⟨ws, os, s, rfl, hl, ho, h⟩
  have lo : (os.map odD).length = os.length := List.length_map _
  walk_at "go"
  refine ⟨ws, _, _, rfl, hl, ?_⟩
  walk_at "go"
  refine comp_onf ws Ws.d (fun W => lsD W.name) (fun W => decide (0 < W.least)) (by omega) trivial (fun W hm Kt Kf ht hf => ?_) ?_
  · walk_at "go"
    cases e : decide (0 < W.least) with
    | true =>
      walk_at "go"
      exact ht e
    | false => exact hf e
  obtain ⟨A, hA⟩ : ∃ A, A = (ws.filter fun W => decide (0 < W.least)).map fun W => lsD W.name := ⟨_, rfl⟩
  have lA : A.length ≤ ws.length := by rw [hA, List.length_map]; exact List.length_filter_le _ _
  unfold dems at h
  rw [← hA] at h
  rw [← hA]
  walk_at "go"
  exact h
noncomputable def easeW (ks : List D) (W : Ws) : Ws := if memB (lsD W.name) ks then W else { W with least := 0 }
theorem easeW_name (ks : List D) (W : Ws) : (easeW ks W).name = W.name := by unfold easeW; split <;> rfl
theorem zero_ok {W : Ws} (h : W.Ok) : ({ W with least := 0 } : Ws).Ok := ⟨⟨h.part, h.deed, h.looks, h.name, ⟨Int.le_refl 0, by show (0 : Int) ≤ 4; decide⟩, h.most⟩, fun x e => (h.most x e).1⟩
theorem easeW_ok {W : Ws} (h : W.Ok) (ks : List D) : (easeW ks W).Ok := by
  unfold easeW
  split
  · exact h
  · exact zero_ok h
def sp_eased_wish : SpD := fun ds m P _ => ∃ (W : Ws) (ks : List D), ds = [W.d, .lst ks] ∧ W.Ok ∧ ks.length ≤ 10000 ∧ (∀ k ∈ ks, PT k) ∧ P (easeW ks W).d m
def rd_eased_wish : DS :=
    sSeq (sSet 2 (rIfE (rTst (rOp (oInN false) (rTup (rCons (rC (.str "least")) (rCons (rFld "Wish" "name" (rV 0)) (rNil)))) (rV 1))) (rFld "Wish" "least" (rV 0)) (rC (.int 0))))
    (sRet (rMk "Wish" sp_Wish___init__ 3 3 (fun ds es => gI [0, 1, 2, 3, 4, 5, 6] (ds ++ es) [.non, .non]) (rCons (rFld "Wish" "part" (rV 0)) (rCons (rFld "Wish" "deed" (rV 0)) (rCons (rFld "Wish" "looks" (rV 0)) (rNil)))) (rCons (rFld "Wish" "name" (rV 0)) (rCons (rV 2) (rCons (rFld "Wish" "most" (rV 0)) (rNil))))))
theorem ln_eased_wish : ∀ ds m Q PX, sp_eased_wish ds m Q PX → ds.length = 2 := fun ds m Q PX h => by (repeat (obtain ⟨_, h⟩ := h)); subst_vars; rfl
theorem pu_eased_wish : ∀ ds m Q PX, sp_eased_wish ds m Q PX → rd_eased_wish (dEnds Q PX) (dstart ["wish", "kept", "least"] ds) m := by
  rintro ds m Q PX ⟨W, ks, rfl, hW, hl, hk, h⟩
  have fin : ∀ (z : Ws), z.Ok → z.part = W.part → z.deed = W.deed → z.looks = W.looks → z.name = W.name → z.most = W.most → Q z.d m → sSeq (sSet 2 (rC (.int z.least))) (sRet (rMk "Wish" sp_Wish___init__ 3 3 (fun ds es => gI [0, 1, 2, 3, 4, 5, 6] (ds ++ es) [.non, .non]) (rCons (rFld "Wish" "part" (rV 0)) (rCons (rFld "Wish" "deed" (rV 0)) (rCons (rFld "Wish" "looks" (rV 0)) (rNil)))) (rCons (rFld "Wish" "name" (rV 0)) (rCons (rV 2) (rCons (rFld "Wish" "most" (rV 0)) (rNil)))))) (dEnds Q PX) [some W.d, some (.lst ks), none] m := by
    intro z hz e1 e2 e3 e4 e5 q
    walk_at "go"
    intro p hp
    have := wish_ok (m := m) (q := p) (KK := fun v m3 => v = .non ∧ ∃ fs, m3 p = some (.ins "Wish" fs) ∧ Q (.ins "Wish" fs) (mdel m3 p)) (KX := fun c fs m3 => PX c fs (mdel m3 p)) z hz ⟨rfl, _, mset_same, by rw [mdel_mset hp]; exact q⟩
    rw [e1, e2, e3, e4, e5] at this
    exact this
  walk_at "go"
  refine ⟨shIn (pt_ls hW.name) hk hl, ?_⟩
  rw [if_neg (by decide)]
  show (match memB (lsD W.name) ks with | true => _ | false => _)
  unfold easeW at h
  cases e : memB (lsD W.name) ks with
  | true =>
    rw [e, if_pos rfl] at h
    exact fin W hW rfl rfl rfl rfl rfl h
  | false =>
    rw [e, if_neg (by decide)] at h
    exact fin { W with least := 0 } (zero_ok hW) rfl rfl rfl rfl rfl h
theorem PnOk.planB {ws : List Ws} {os : List Od} {ss : List Str} (h : PnOk ws os ss) : planB (ws.map Ws.name) (.tup (os.map odD)) (.tup (ss.map .str)) = true := by
  unfold DL.planB
  rw [decide_eq_true h.nd, Bool.true_and, Bool.and_eq_true]
  constructor
  · show (decide ((os.map odD).length ≤ 12) && ((os.map odD).all (ordB (ws.map Ws.name)) && ndB (os.map odD))) = true
    rw [List.length_map, decide_eq_true h.many, Bool.true_and, Bool.and_eq_true]
    constructor
    · rw [List.all_eq_true]
      intro d hd
      obtain ⟨o, ho, rfl⟩ := List.mem_map.mp hd
      have := h.ods o ho
      show (decide (o.1 ∈ [Str.ofString "all", Str.ofString "ready"]) && (decide (o.2.1 ∈ ws.map Ws.name) && (decide (o.2.2 ∈ ws.map Ws.name) && decide (o.2.1 ≠ o.2.2)))) = true
      rw [decide_eq_true this.a, decide_eq_true this.b, decide_eq_true this.ne, decide_eq_true]
      · rfl
      · rcases this.w with e | e <;> (rw [e]; simp)
    · rw [ndB_iff]
      refine List.pairwise_map.mpr (h.ondd.imp fun {a b} z e => z ?_)
      obtain ⟨a1, a2, a3⟩ := a
      obtain ⟨b1, b2, b3⟩ := b
      unfold odD at e
      injection e with e
      injection e with e1 e
      injection e with e2 e
      injection e with e3 e
      injection e1 with e1
      injection e2 with e2
      injection e3 with e3
      simp only at e1 e2 e3
      rw [e1, e2, e3]
  · show (decide ((ss.map D.str).length ≤ 4) && ((ss.map D.str).all nmD && ndB (ss.map D.str))) = true
    rw [List.length_map, decide_eq_true h.sfew, nd_strs, decide_eq_true h.snd, Bool.and_true, Bool.true_and, List.all_eq_true]
    intro d hd
    obtain ⟨x, hx, rfl⟩ := List.mem_map.mp hd
    exact h.snm x hx
theorem PnOk.th {ws : List Ws} {os : List Od} {ss : List Str} (h : PnOk ws os ss) : thD 6 (.tup (os.map odD)) ∧ thD 6 (.tup (ss.map D.str)) := by
  constructor
  · refine ⟨by rw [List.length_map]; have := h.many; omega, fun d hd => ?_⟩
    obtain ⟨o, ho, rfl⟩ := List.mem_map.mp hd
    have := h.ods o ho
    exact (pt_od this.w (h.nm this.a) (h.nm this.b)).t
  · refine ⟨by rw [List.length_map]; have := h.sfew; omega, fun d hd => ?_⟩
    obtain ⟨x, hx, rfl⟩ := List.mem_map.mp hd
    exact thD_nm (h.snm x hx)
/-- Plan(..) of what is right -/
theorem plan_ok {m : Mu} {q : Addr} {P : DK} {PX : DX} {ws : List Ws} {os : List Od} {ss : List Str} (hq : m q = none) (h : PnOk ws os ss) (k : P (plD2 ws os ss) m) :
    sp_Plan___init__ [.adr q, .lst (ws.map Ws.d), .tup (os.map odD), .tup (ss.map .str)] (mset m q (.ins "Plan" [])) (fun v m3 => v = .non ∧ ∃ fs, m3 q = some (.ins "Plan" fs) ∧ P (.ins "Plan" fs) (mdel m3 q)) PX := by
  refine ⟨q, ws, _, _, rfl, mset_same, by have := h.few; omega, fun W hm => (h.ok W hm).name, thg_of h.th.1, thg_of h.th.2, ?_⟩
  rw [decide_eq_true h.few, h.planB]
  refine ⟨rfl, _, mset_same, ?_⟩
  rw [mset_mset, mdel_mset hq]
  exact k
noncomputable def easeO (ks : List D) (os : List Od) : List Od := os.filter fun o => memB (odD o) ks
theorem PnOk.eased {ws : List Ws} {os : List Od} {ss : List Str} (h : PnOk ws os ss) (ks : List D) : PnOk (ws.map (easeW ks)) (easeO ks os) ss := by
  have en : (ws.map (easeW ks)).map Ws.name = ws.map Ws.name := by rw [List.map_map]; exact List.map_congr_left fun W _ => easeW_name ks W
  refine ⟨by rw [List.length_map]; exact h.few, fun W hW => ?_, by rw [en]; exact h.nd, Nat.le_trans (List.length_filter_le _ _) h.many, fun o ho => by rw [en]; exact h.ods o (List.mem_filter.mp ho).1, List.Sublist.nodup List.filter_sublist h.ondd, h.sfew, h.snd, h.snm⟩
  obtain ⟨V, hV, rfl⟩ := List.mem_map.mp hW
  exact easeW_ok (h.ok V hV) ks
def sp_eased : SpD := fun ds m P PX => ∃ (ws : List Ws) (os : List Od) (ss : List Str) (ks : List D), ds = [plD2 ws os ss, .lst ks] ∧ PnOk ws os ss ∧ ks.length ≤ 1000 ∧ (∀ k ∈ ks, PT k) ∧
  (match ks.all fun k => memB k (dems ws os) with
  | true => P (plD2 (ws.map (easeW ks)) (easeO ks os) ss) m
  | false => PX "BadPlan" [("why", .str "no demand")] m)
def rd_eased : DS :=
    sSeq (sSet 2 (rCall sp_demands [] (rCons (rV 0) (rNil))))
    (sSeq (sIf (rNot (rTru (rCB cAll (rCons (rLc (iAny (rV 1)) [6] (gN 6) (qYes) (rOp (oInN false) (rV 6) (rV 2))) (rNil))))) (sRaise "BadPlan" (rCons (rC (.str "no demand")) (rNil))) (sNext))
    (sSeq (sSet 3 (rCB cTup (rCons (rLc (iAny (rFld "Plan" "orders" (rV 0))) [4] (gN 4) (rTst (rOp (oInN false) (rV 4) (rV 1))) (rV 4)) (rNil))))
    (sRet (rMk "Plan" sp_Plan___init__ 1 2 (gI [0, 1, 2, 3]) (rCons (rLc (iAny (rMet "Plan" "wishes" sp_Plan_wishes 0 0 (gI [0]) (rV 0) (rNil) (rNil))) [5] (gN 5) (qYes) (rCall sp_eased_wish [] (rCons (rV 5) (rCons (rV 1) (rNil))))) (rNil)) (rCons (rV 3) (rCons (rFld "Plan" "strict" (rV 0)) (rNil)))))))
theorem ln_eased : ∀ ds m Q PX, sp_eased ds m Q PX → ds.length = 2 := fun ds m Q PX h => by (repeat (obtain ⟨_, h⟩ := h)); subst_vars; rfl
def T_eased_2 : DS := sSeq (sIf (rNot (rTru (rCB cAll (rCons (rLc (iAny (rV 1)) [6] (gN 6) (qYes) (rOp (oInN false) (rV 6) (rV 2))) (rNil))))) (sRaise "BadPlan" (rCons (rC (.str "no demand")) (rNil))) (sNext))
    (sSeq (sSet 3 (rCB cTup (rCons (rLc (iAny (rFld "Plan" "orders" (rV 0))) [4] (gN 4) (rTst (rOp (oInN false) (rV 4) (rV 1))) (rV 4)) (rNil))))
    (sRet (rMk "Plan" sp_Plan___init__ 1 2 (gI [0, 1, 2, 3]) (rCons (rLc (iAny (rMet "Plan" "wishes" sp_Plan_wishes 0 0 (gI [0]) (rV 0) (rNil) (rNil))) [5] (gN 5) (qYes) (rCall sp_eased_wish [] (rCons (rV 5) (rCons (rV 1) (rNil))))) (rNil)) (rCons (rV 3) (rCons (rFld "Plan" "strict" (rV 0)) (rNil))))))
def T_eased_3 : DS := sSeq (sSet 3 (rCB cTup (rCons (rLc (iAny (rFld "Plan" "orders" (rV 0))) [4] (gN 4) (rTst (rOp (oInN false) (rV 4) (rV 1))) (rV 4)) (rNil))))
    (sRet (rMk "Plan" sp_Plan___init__ 1 2 (gI [0, 1, 2, 3]) (rCons (rLc (iAny (rMet "Plan" "wishes" sp_Plan_wishes 0 0 (gI [0]) (rV 0) (rNil) (rNil))) [5] (gN 5) (qYes) (rCall sp_eased_wish [] (rCons (rV 5) (rCons (rV 1) (rNil))))) (rNil)) (rCons (rV 3) (rCons (rFld "Plan" "strict" (rV 0)) (rNil)))))
def T_eased_4 : DS := sRet (rMk "Plan" sp_Plan___init__ 1 2 (gI [0, 1, 2, 3]) (rCons (rLc (iAny (rMet "Plan" "wishes" sp_Plan_wishes 0 0 (gI [0]) (rV 0) (rNil) (rNil))) [5] (gN 5) (qYes) (rCall sp_eased_wish [] (rCons (rV 5) (rCons (rV 1) (rNil))))) (rNil)) (rCons (rV 3) (rCons (rFld "Plan" "strict" (rV 0)) (rNil))))
theorem pu_eased : ∀ ds m Q PX, sp_eased ds m Q PX → rd_eased (dEnds Q PX) (dstart ["plan", "kept", "known", "orders", "order", "wish", "demand"] ds) m := by
  rintro ds m Q PX ⟨ws, os, ss, ks, rfl, hp, hl, hk, h⟩
  have w5 := hp.few
  have o12 := hp.many
  have dl := dems_len ws os
  walk_at "go"
  refine ⟨ws, os, _, rfl, by omega, by omega, ?_⟩
  walk_at "go"
  refine comp_map (fun k => .bl (memB k (dems ws os))) (by omega) trivial (fun k hkk Q q => ?_) ?_
  · walk_at "go"
    refine ⟨shIn (hk k hkk) hp.pt (by omega), ?_⟩
    rw [if_neg (by decide), any_mem (hk k hkk)]
    exact q
  walk_at "dl"
  rw [show ks.map (fun k => D.bl (memB k (dems ws os))) = (ks.map fun k => memB k (dems ws os)).map D.bl from by rw [List.map_map]; rfl, boolsD_map]
  dsimp only
  rw [all_id]
  cases e : ks.all fun k => memB k (dems ws os) with
  | false => rw [e] at h; exact h
  | true =>
    rw [e] at h
    walk_at "go"
    refine comp_onf os odD odD (fun o => memB (odD o) ks) (by omega) trivial (fun o hm Kt Kf ht hf => ?_) ?_
    · have ho := hp.ods o hm
      have po := pt_od ho.w (hp.nm ho.a) (hp.nm ho.b)
      walk_at "go"
      refine ⟨shIn po hk (by omega), ?_⟩
      rw [if_neg (by decide), any_mem po]
      cases em : memB (odD o) ks with
      | true => exact ht em
      | false => exact hf em
    obtain ⟨os', hos⟩ : ∃ os', os' = easeO ks os := ⟨_, rfl⟩
    have lo' : (os'.map odD).length ≤ os.length := by rw [hos, List.length_map]; exact List.length_filter_le _ _
    rw [show (os.filter fun o => memB (odD o) ks) = os' from hos.symm]
    rw [← hos] at h
    walk_at "go"
    refine ⟨ws, _, _, rfl, by omega, ?_⟩
    walk_at "go"
    refine comp_on ws Ws.d (fun W => (easeW ks W).d) (by omega) trivial (fun W hm Q q => ?_) ?_
    · walk_at "go"
      exact ⟨W, ks, rfl, hp.ok W hm, by omega, hk, q⟩
    rw [show (ws.map fun W => (easeW ks W).d) = (ws.map (easeW ks)).map Ws.d from by rw [List.map_map]; rfl]
    walk_at "go"
    intro q hq
    have hp' := hp.eased ks
    rw [← hos] at hp'
    exact plan_ok hq hp' h
end DL

namespace DL
open PySem L2
local macro_rules | `(tactic| walk_at "dl") => `(tactic| ((conv => whnf); try dsimp only))
local macro_rules | `(tactic| walk_at "sd") => `(tactic| first | trivial | exact Nat.zero_le _ | assumption | decide | omega | exact len_line (by first | decide | omega | (simp; done) | (simp; omega)) | (simp; done) | (simp; omega) | exact ⟨by decide, by decide, by decide⟩ | exact .inl ⟨by decide, by decide⟩ | exact .inl ⟨by omega, by omega⟩ | exact wide_div (b := 64) (by decide) (by decide) (by decide) (by decide))
local macro_rules | `(tactic| walk_at "go") => `(tactic| ((conv => whnf); (try dsimp only); repeat ((with_reducible refine And.intro ?_ ?_); (focus (walk_at "sd")); (conv => whnf); (try dsimp only))))
local macro_rules | `(tactic| walk_at "th") => `(tactic| repeat' (first | assumption | exact thD_txt _ _ | exact thD_int | exact thD_non | exact thD_bl | (refine thD_mono _ _ _ ?_ (by assumption); decide) | refine List.forall_mem_cons.mpr (And.intro ?_ ?_) | exact List.forall_mem_nil _ | refine thD_tup (by simp) ?_ | refine thD_lst (by simp) ?_))
local macro_rules | `(tactic| walk_at "ln") => `(tactic| (intro ds m Q PX h; repeat (obtain ⟨_, h⟩ := h); subst_vars; rfl))
def sp__law_look_v3 : SpD := fun ds m P _ => ∃ (w : Addr) (base : Int), ds = [.adr w, .int base] ∧ Bd 140 base ∧ Dr w 5 (fun d => ∃ l : Lk, l.Good 142 ∧ d = l.d) m P
def rd__law_look_v3 : DS :=
    sSeq (sSet 2 (rCall sp__law_draw_v2 [] (rCons (rV 0) (rCons (rC (.int 9)) (rNil)))))
    (sSeq (sSet 3 (rOp oAdd (rV 1) (rCall sp__law_draw_v2 [] (rCons (rV 0) (rCons (rC (.int 4)) (rNil))))))
    (sSeq (sSet 4 (rLstM (rCons (rTup (rCons (rC (.str "any")) (rNil))) (rCons (rTup (rCons (rC (.str "is")) (rCons (rV 3) (rNil)))) (rCons (rTup (rCons (rC (.str "from")) (rCons (rV 3) (rNil)))) (rCons (rTup (rCons (rC (.str "to")) (rCons (rV 3) (rNil)))) (rCons (rTup (rCons (rC (.str "in")) (rCons (rV 3) (rCons (rOp oSub (rOp oAdd (rV 3) (rCall sp__law_draw_v2 [] (rCons (rV 0) (rCons (rC (.int 4)) (rNil))))) (rC (.int 1))) (rNil))))) (rNil))))))))
    (sSeq (sExpr (rApp (rV 4) (rTup (rCons (rC (.str "one")) (rCons (rOp oIx (rTup (rCons (rTup (rNil)) (rCons (rTup (rCons (rV 3) (rNil))) (rCons (rTup (rCons (rOp oAdd (rV 3) (rC (.int 2))) (rCons (rV 3) (rNil)))) (rNil))))) (rCall sp__law_draw_v2 [] (rCons (rV 0) (rCons (rC (.int 3)) (rNil))))) (rNil))))))
    (sSeq (sIf (rTst (rOp oLt (rV 2) (rC (.int 6)))) (sRet (rOp oIx (rV 4) (rV 2))) (sNext))
    (sRet (rTup (rCons (rC (.str "but")) (rCons (rOp oIx (rV 4) (rCall sp__law_draw_v2 [] (rCons (rV 0) (rCons (rC (.int 6)) (rNil))))) (rNil)))))))))
theorem ln__law_look_v3 : ∀ ds m Q PX, sp__law_look_v3 ds m Q PX → ds.length = 2 := fun ds m Q PX h => by (repeat (obtain ⟨_, h⟩ := h)); subst_vars; rfl
theorem pu__law_look_v3 : ∀ ds m Q PX, sp__law_look_v3 ds m Q PX → rd__law_look_v3 (dEnds Q PX) (dstart ["_law_well", "_law_base", "_law_way", "_law_low", "_law_some"] ds) m := by
  rintro ds m Q PX ⟨w, base, rfl, hb, k, wl, hk, h⟩
  walk_at "go"
  refine ⟨w, 9, rfl, by decide, by decide, k, wl, by omega, fun d m1 hd kp1 w1 => ?_⟩
  obtain ⟨way, y0, y1, rfl⟩ := hd
  walk_at "go"
  refine ⟨w, 4, rfl, by decide, by decide, _, w1, by omega, fun d m2 hd kp2 w2 => ?_⟩
  obtain ⟨lo, lo0, lo1, rfl⟩ := hd
  obtain ⟨low, hlow⟩ : ∃ low, low = base + lo := ⟨_, rfl⟩
  have hb2 : low.natAbs < 2 ^ 140 + 5 := by unfold Bd at hb; omega
  walk_at "go"
  rw [← hlow]
  refine ⟨w, 4, rfl, by decide, by decide, _, w2, by omega, fun d m3 hd kp3 w3 => ?_⟩
  obtain ⟨up, u0, u1, rfl⟩ := hd
  walk_at "go"
  intro q hq
  have hqw : q ≠ w := fun z => w3.some (z ▸ hq)
  have kn : Kp [] m3 (mset m3 q (.lst [Lk.any.d, (Lk.is low).d, (Lk.frm low).d, (Lk.upto low).d, (Lk.inn low (low + up - 1)).d])) := kp_new hq
  have w4 := w3.keep kn (by simp)
  walk_at "go"
  refine ⟨⟨_, mset_same⟩, ?_⟩
  walk_at "go"
  refine ⟨w, 3, rfl, by decide, by decide, _, w4, by omega, fun d m5 hd kp5 w5 => ?_⟩
  obtain ⟨cnt, c0, c1, rfl⟩ := hd
  have e5 : m5 q = some (.lst [Lk.any.d, (Lk.is low).d, (Lk.frm low).d, (Lk.upto low).d, (Lk.inn low (low + up - 1)).d]) := kp5 q _ (by simpa using hqw) mset_same
  walk_at "go"
  obtain ⟨us, hus, hu4, hun, hub⟩ : ∃ us : List Int, atI [D.tup [], .tup [.int low], .tup [.int (low + 2), .int low]] cnt = some (.tup (us.map .int)) ∧ us.length ≤ 4 ∧ us.Nodup ∧ ∀ n ∈ us, n.natAbs < 2 ^ 140 + 8 := by
    obtain rfl | rfl | rfl : cnt = 0 ∨ cnt = 1 ∨ cnt = 2 := by omega
    · exact ⟨[], rfl, by simp, by simp, fun _ z => by cases z⟩
    · exact ⟨[low], rfl, by simp, by simp, fun n hn => by rw [List.mem_singleton.mp hn]; omega⟩
    · refine ⟨[low + 2, low], rfl, by simp, by simp; omega, fun n hn => ?_⟩
      simp only [List.mem_cons, List.not_mem_nil, or_false] at hn
      rcases hn with rfl | rfl <;> omega
  rw [hus]
  walk_at "go"
  rw [e5]
  walk_at "go"
  have kpw : Kp [w] m m5 := ((kp1.trans kp2).trans (kp3.trans (kn.more (by simp)))).trans kp5
  have p140 : (2 : Nat) ^ 140 > 1000 := by decide
  have p142 : (2 : Nat) ^ 142 = 4 * 2 ^ 140 := by decide
  have low2 : Bd 142 low := by unfold Bd; omega
  have good : ∀ l ∈ [Lk.any, .is low, .frm low, .upto low, .inn low (low + up - 1), .one us], l.Good 142 ∧ l.dep ≤ 1 := by
    intro l hl
    simp only [List.mem_cons, List.not_mem_nil, or_false] at hl
    rcases hl with rfl | rfl | rfl | rfl | rfl | rfl
    · exact ⟨⟨by simp [Lk.nums], trivial, by simp [Lk.dep], trivial⟩, by simp [Lk.dep]⟩
    · exact ⟨⟨by simpa [Lk.nums] using low2, trivial, by simp [Lk.dep], trivial⟩, by simp [Lk.dep]⟩
    · exact ⟨⟨by simpa [Lk.nums] using low2, trivial, by simp [Lk.dep], trivial⟩, by simp [Lk.dep]⟩
    · exact ⟨⟨by simpa [Lk.nums] using low2, trivial, by simp [Lk.dep], trivial⟩, by simp [Lk.dep]⟩
    · refine ⟨⟨?_, trivial, by simp [Lk.dep], trivial⟩, by simp [Lk.dep]⟩
      intro n hn
      simp only [Lk.nums, List.mem_cons, List.not_mem_nil, or_false] at hn
      rcases hn with rfl | rfl
      · exact low2
      · unfold Bd; omega
    · refine ⟨⟨fun n hn => ?_, hu4, by simp [Lk.dep], hun⟩, by simp [Lk.dep]⟩
      have := hub n hn
      unfold Bd; omega
  generalize hm8 : mset m5 q _ = m8
  have e8 : m8 q = some (.lst ([Lk.any, .is low, .frm low, .upto low, .inn low (low + up - 1), .one us].map Lk.d)) := by rw [← hm8]; exact mset_same
  have kp8 : Kp [w] m m8 := by
    intro a o ha e
    rw [← hm8, mset_ne ?_]
    · exact kpw a o ha e
    · intro z
      have := ((kp1.trans kp2).trans kp3) a o ha e
      rw [z, hq] at this; cases this
  have w8 : Wl m8 w (k + 1 + 1 + 1 + 1) := by
    obtain ⟨a, b, c, e, r⟩ := w5.ex
    exact ⟨a, b, c, by rw [← hm8, mset_ne (fun z => hqw z.symm)]; exact e, r⟩
  have pick : ∀ i : Int, 0 ≤ i → i < 6 → ∃ l ∈ [Lk.any, .is low, .frm low, .upto low, .inn low (low + up - 1), .one us], atI ([Lk.any, .is low, .frm low, .upto low, .inn low (low + up - 1), .one us].map Lk.d) i = some l.d := by
    intro i i0 i1
    obtain ⟨x, a1, a2⟩ := atI_some (xs := [Lk.any, .is low, .frm low, .upto low, .inn low (low + up - 1), .one us].map Lk.d) i0 i1
    obtain ⟨l, hl, rfl⟩ := List.mem_map.mp (List.mem_of_getElem? a2)
    exact ⟨l, hl, a1⟩
  cases hw : decide (way < 6) with
  | true =>
    obtain ⟨l, hl, el⟩ := pick way y0 (of_decide_eq_true hw)
    walk_at "dl"
    rw [asL_adr e8]
    walk_at "dl"
    rw [el]
    exact h _ _ ⟨l, (good l hl).1, rfl⟩ kp8 (w8.mono (by omega))
  | false =>
    walk_at "dl"
    refine ⟨w, 6, rfl, by decide, by decide, _, w8, by omega, fun d m9 hd kp9 w9 => ?_⟩
    obtain ⟨i, i0, i1, rfl⟩ := hd
    obtain ⟨l, hl, el⟩ := pick i i0 i1
    have e9 := kp9 q _ (by simpa using hqw) e8
    walk_at "dl"
    rw [asL_adr e9]
    walk_at "dl"
    rw [el]
    obtain ⟨g1, g2⟩ := good l hl
    refine ⟨len_line (by simp), ?_⟩
    exact h _ _ ⟨.but l, ⟨g1.nm, g1.few, by show l.dep + 1 ≤ 2; omega, g1.un⟩, rfl⟩ (kp8.trans kp9) (w9.mono (by omega))
def sp__law_wish_v2 : SpD := fun ds m P _ => ∃ (w : Addr) (base : Int) (z : Str), ds = [.adr w, .int base, .str z] ∧ Bd 140 base ∧ (z.length = 1 ∧ z.cps.toList.all low = true) ∧ Dr w 36 (fun d => ∃ (W : Ws) (x : Str), d = W.row ∧ W.Ok ∧ W.name = x ++ z) m P
def rd__law_wish_v2 : DS :=
    sSeq (sSet 3 (rCall sp__law_one_v2 [] (rCons (rV 0) (rCons (rLst (rCons (rC (.str "shop")) (rCons (rC (.str "till")) (rNil)))) (rNil)))))
    (sSeq (sSet 4 (rCall sp__law_one_v2 [] (rCons (rV 0) (rCons (rLst (rCons (rC .non) (rCons (rOp oAdd (rCall sp__law_word [] (rCons (rV 0) (rCons (rC (.int 7)) (rNil)))) (rC (.str "d"))) (rCons (rC (.str "pay")) (rNil))))) (rNil)))))
    (sSeq (sSet 5 (rCall sp__law_draw_v2 [] (rCons (rV 0) (rCons (rC (.int 5)) (rNil)))))
    (sSeq (sSet 6 (rCall sp__law_one_v2 [] (rCons (rV 0) (rCons (rLst (rCons (rV 5) (rCons (rC .non) (rCons (rC (.int 4)) (rNil))))) (rNil)))))
    (sSeq (sSet 7 (rCall sp__law_one_v2 [] (rCons (rV 0) (rCons (rLst (rCons (rC .non) (rCons (rTup (rNil)) (rCons (rTup (rCons (rCall sp__law_look_v3 [] (rCons (rV 0) (rCons (rV 1) (rNil)))) (rNil))) (rCons (rTup (rCons (rCall sp__law_look_v3 [] (rCons (rV 0) (rCons (rV 1) (rNil)))) (rCons (rCall sp__law_look_v3 [] (rCons (rV 0) (rCons (rV 1) (rNil)))) (rNil)))) (rNil)))))) (rNil)))))
    (sRet (rTup (rCons (rV 3) (rCons (rV 4) (rCons (rV 7) (rCons (rOp oAdd (rCall sp__law_word [] (rCons (rV 0) (rCons (rC (.int 7)) (rNil)))) (rV 2)) (rCons (rV 5) (rCons (rV 6) (rNil)))))))))))))
theorem ln__law_wish_v2 : ∀ ds m Q PX, sp__law_wish_v2 ds m Q PX → ds.length = 3 := fun ds m Q PX h => by (repeat (obtain ⟨_, h⟩ := h)); subst_vars; rfl
def T__law_wish_v2_2 : DS := sSeq (sSet 4 (rCall sp__law_one_v2 [] (rCons (rV 0) (rCons (rLst (rCons (rC .non) (rCons (rOp oAdd (rCall sp__law_word [] (rCons (rV 0) (rCons (rC (.int 7)) (rNil)))) (rC (.str "d"))) (rCons (rC (.str "pay")) (rNil))))) (rNil)))))
    (sSeq (sSet 5 (rCall sp__law_draw_v2 [] (rCons (rV 0) (rCons (rC (.int 5)) (rNil)))))
    (sSeq (sSet 6 (rCall sp__law_one_v2 [] (rCons (rV 0) (rCons (rLst (rCons (rV 5) (rCons (rC .non) (rCons (rC (.int 4)) (rNil))))) (rNil)))))
    (sSeq (sSet 7 (rCall sp__law_one_v2 [] (rCons (rV 0) (rCons (rLst (rCons (rC .non) (rCons (rTup (rNil)) (rCons (rTup (rCons (rCall sp__law_look_v3 [] (rCons (rV 0) (rCons (rV 1) (rNil)))) (rNil))) (rCons (rTup (rCons (rCall sp__law_look_v3 [] (rCons (rV 0) (rCons (rV 1) (rNil)))) (rCons (rCall sp__law_look_v3 [] (rCons (rV 0) (rCons (rV 1) (rNil)))) (rNil)))) (rNil)))))) (rNil)))))
    (sRet (rTup (rCons (rV 3) (rCons (rV 4) (rCons (rV 7) (rCons (rOp oAdd (rCall sp__law_word [] (rCons (rV 0) (rCons (rC (.int 7)) (rNil)))) (rV 2)) (rCons (rV 5) (rCons (rV 6) (rNil))))))))))))
def T__law_wish_v2_3 : DS := sSeq (sSet 5 (rCall sp__law_draw_v2 [] (rCons (rV 0) (rCons (rC (.int 5)) (rNil)))))
    (sSeq (sSet 6 (rCall sp__law_one_v2 [] (rCons (rV 0) (rCons (rLst (rCons (rV 5) (rCons (rC .non) (rCons (rC (.int 4)) (rNil))))) (rNil)))))
    (sSeq (sSet 7 (rCall sp__law_one_v2 [] (rCons (rV 0) (rCons (rLst (rCons (rC .non) (rCons (rTup (rNil)) (rCons (rTup (rCons (rCall sp__law_look_v3 [] (rCons (rV 0) (rCons (rV 1) (rNil)))) (rNil))) (rCons (rTup (rCons (rCall sp__law_look_v3 [] (rCons (rV 0) (rCons (rV 1) (rNil)))) (rCons (rCall sp__law_look_v3 [] (rCons (rV 0) (rCons (rV 1) (rNil)))) (rNil)))) (rNil)))))) (rNil)))))
    (sRet (rTup (rCons (rV 3) (rCons (rV 4) (rCons (rV 7) (rCons (rOp oAdd (rCall sp__law_word [] (rCons (rV 0) (rCons (rC (.int 7)) (rNil)))) (rV 2)) (rCons (rV 5) (rCons (rV 6) (rNil)))))))))))
def T__law_wish_v2_4 : DS := sSeq (sSet 6 (rCall sp__law_one_v2 [] (rCons (rV 0) (rCons (rLst (rCons (rV 5) (rCons (rC .non) (rCons (rC (.int 4)) (rNil))))) (rNil)))))
    (sSeq (sSet 7 (rCall sp__law_one_v2 [] (rCons (rV 0) (rCons (rLst (rCons (rC .non) (rCons (rTup (rNil)) (rCons (rTup (rCons (rCall sp__law_look_v3 [] (rCons (rV 0) (rCons (rV 1) (rNil)))) (rNil))) (rCons (rTup (rCons (rCall sp__law_look_v3 [] (rCons (rV 0) (rCons (rV 1) (rNil)))) (rCons (rCall sp__law_look_v3 [] (rCons (rV 0) (rCons (rV 1) (rNil)))) (rNil)))) (rNil)))))) (rNil)))))
    (sRet (rTup (rCons (rV 3) (rCons (rV 4) (rCons (rV 7) (rCons (rOp oAdd (rCall sp__law_word [] (rCons (rV 0) (rCons (rC (.int 7)) (rNil)))) (rV 2)) (rCons (rV 5) (rCons (rV 6) (rNil))))))))))
def T__law_wish_v2_5 : DS := sSeq (sSet 7 (rCall sp__law_one_v2 [] (rCons (rV 0) (rCons (rLst (rCons (rC .non) (rCons (rTup (rNil)) (rCons (rTup (rCons (rCall sp__law_look_v3 [] (rCons (rV 0) (rCons (rV 1) (rNil)))) (rNil))) (rCons (rTup (rCons (rCall sp__law_look_v3 [] (rCons (rV 0) (rCons (rV 1) (rNil)))) (rCons (rCall sp__law_look_v3 [] (rCons (rV 0) (rCons (rV 1) (rNil)))) (rNil)))) (rNil)))))) (rNil)))))
    (sRet (rTup (rCons (rV 3) (rCons (rV 4) (rCons (rV 7) (rCons (rOp oAdd (rCall sp__law_word [] (rCons (rV 0) (rCons (rC (.int 7)) (rNil)))) (rV 2)) (rCons (rV 5) (rCons (rV 6) (rNil)))))))))
def T__law_wish_v2_6 : DS := sRet (rTup (rCons (rV 3) (rCons (rV 4) (rCons (rV 7) (rCons (rOp oAdd (rCall sp__law_word [] (rCons (rV 0) (rCons (rC (.int 7)) (rNil)))) (rV 2)) (rCons (rV 5) (rCons (rV 6) (rNil))))))))
theorem pu__law_wish_v2 : ∀ ds m Q PX, sp__law_wish_v2 ds m Q PX → rd__law_wish_v2 (dEnds Q PX) (dstart ["_law_well", "_law_base", "_law_last", "_law_part", "_law_deed", "_law_few", "_law_top", "_law_looks"] ds) m := by
  rintro ds m Q PX ⟨w, base, z, rfl, hb, hz, h⟩
  have z1 := hz.1
  have ld : (Str.ofString "d").length = 1 := rfl
  have lod : (Str.ofString "d").cps.toList.all low = true := by decide +kernel
  have npay : nmB (Str.ofString "pay") = true := by decide +kernel
  have nsh : nmB (Str.ofString "shop") = true := by decide +kernel
  have nti : nmB (Str.ofString "till") = true := by decide +kernel
  walk_at "go"
  refine ⟨w, _, _, rfl, .inl rfl, by simp, by simp, h.sub (by decide) fun d m1 hd kp1 h => ?_⟩
  obtain ⟨part, rfl, hpart⟩ : ∃ x : Str, d = .str x ∧ nmB x = true := by
    simp only [List.mem_cons, List.not_mem_nil, or_false] at hd
    rcases hd with rfl | rfl
    · exact ⟨_, rfl, nsh⟩
    · exact ⟨_, rfl, nti⟩
  clear hd
  walk_at "go"
  refine ⟨w, 7, rfl, by decide, by decide, h.sub (by decide) fun d m2 hd kp2 h => ?_⟩
  obtain ⟨x, rfl, hx7, hxl⟩ := hd
  walk_at "go"
  refine ⟨w, _, _, rfl, .inl rfl, by simp, by simp, h.sub (by decide) fun d m3 hd kp3 h => ?_⟩
  obtain ⟨deed, rfl, hdeed⟩ : ∃ x : Option Str, d = oS x ∧ ∀ y, x = some y → nmB y = true := by
    simp only [List.mem_cons, List.not_mem_nil, or_false] at hd
    rcases hd with rfl | rfl | rfl
    · exact ⟨none, rfl, fun _ e => by cases e⟩
    · refine ⟨some (x ++ Str.ofString "d"), rfl, fun y e => ?_⟩
      cases e
      exact nm9_nm (nm9_app hxl lod (by omega) (by omega)) (by rw [PySem.Str.length_append]; omega)
    · exact ⟨some (Str.ofString "pay"), rfl, fun y e => by cases e; exact npay⟩
  clear hd
  walk_at "go"
  refine h.num (by decide) (by decide) (by decide) fun few m4 f0 f1 kp4 h => ?_
  walk_at "go"
  refine ⟨w, _, _, rfl, .inl rfl, by simp, by simp, h.sub (by decide) fun d m5 hd kp5 h => ?_⟩
  obtain ⟨top, rfl, htop⟩ : ∃ x : Option Int, d = oN x ∧ ∀ y, x = some y → few ≤ y ∧ y ≤ 4 := by
    refine (?_ : ∀ d ∈ _, ∃ x : Option Int, d = oN x ∧ ∀ y, x = some y → few ≤ y ∧ y ≤ 4) d hd
    exact List.forall_mem_cons.mpr ⟨⟨some few, rfl, fun y e => by cases e; omega⟩, List.forall_mem_cons.mpr ⟨⟨none, rfl, fun _ e => by cases e⟩, List.forall_mem_cons.mpr ⟨⟨some 4, rfl, fun y e => by cases e; omega⟩, List.forall_mem_nil _⟩⟩⟩
  clear hd
  show T__law_wish_v2_5 (dEnds Q PX) [some (.adr w), some (.int base), some (.str z), some (.str part), some (oS deed), some (.int few), some (oN top), none] m5
  walk_at "go"
  refine ⟨w, base, rfl, hb, h.sub (by decide) fun d m6 hd kp6 h => ?_⟩
  obtain ⟨l1, g1, rfl⟩ := hd
  walk_at "go"
  refine ⟨w, base, rfl, hb, h.sub (by decide) fun d m7 hd kp7 h => ?_⟩
  obtain ⟨l2, g2, rfl⟩ := hd
  walk_at "go"
  refine ⟨w, base, rfl, hb, h.sub (by decide) fun d m8 hd kp8 h => ?_⟩
  obtain ⟨l3, g3, rfl⟩ := hd
  walk_at "go"
  refine ⟨w, _, _, rfl, .inl rfl, by simp, by simp, h.sub (by decide) fun d m9 hd kp9 h => ?_⟩
  obtain ⟨looks, rfl, hlk⟩ : ∃ x, d = oL x ∧ goodL x := by
    simp only [List.mem_cons, List.not_mem_nil, or_false] at hd
    rcases hd with rfl | rfl | rfl | rfl
    · exact ⟨none, rfl, fun _ e => by cases e⟩
    · exact ⟨some [], rfl, fun ls e => by cases e; exact ⟨by simp, fun _ z => by cases z⟩⟩
    · exact ⟨some [l1], rfl, fun ls e => by cases e; exact ⟨by simp, fun l hl => by rw [List.mem_singleton.mp hl]; exact g1⟩⟩
    · refine ⟨some [l2, l3], rfl, fun ls e => ?_⟩
      cases e
      refine ⟨by simp, fun l hl => ?_⟩
      simp only [List.mem_cons, List.not_mem_nil, or_false] at hl
      rcases hl with rfl | rfl
      · exact g2
      · exact g3
  clear hd
  show T__law_wish_v2_6 (dEnds Q PX) [some (.adr w), some (.int base), some (.str z), some (.str part), some (oS deed), some (.int few), some (oN top), some (oL looks)] m9
  walk_at "go"
  refine ⟨w, 7, rfl, by decide, by decide, h.sub (by decide) fun d m10 hd kp10 h => ?_⟩
  obtain ⟨y, rfl, hy7, hyl⟩ := hd
  walk_at "go"
  refine h.done ⟨⟨part, deed, looks, y ++ z, few, top⟩, y, rfl, ⟨⟨hpart, hdeed, hlk, ?_, ⟨f0, by show few ≤ 4; omega⟩, fun y e => ⟨by have := htop y e; omega, (htop y e).2⟩⟩, fun y e => (htop y e).1⟩, rfl⟩
  exact nm9_nm (nm9_app hyl hz.2 (by omega) (by omega)) (by rw [PySem.Str.length_append]; omega)
end DL

namespace DL
open PySem L2
local macro_rules | `(tactic| walk_at "dl") => `(tactic| ((conv => whnf); try dsimp only))
local macro_rules | `(tactic| walk_at "sd") => `(tactic| first | trivial | exact Nat.zero_le _ | assumption | decide | omega | exact len_line (by first | decide | omega | (simp; done) | (simp; omega)) | (simp; done) | (simp; omega) | exact ⟨by decide, by decide, by decide⟩ | exact .inl ⟨by decide, by decide⟩ | exact .inl ⟨by omega, by omega⟩ | exact wide_div (b := 64) (by decide) (by decide) (by decide) (by decide))
local macro_rules | `(tactic| walk_at "go") => `(tactic| ((conv => whnf); (try dsimp only); repeat ((with_reducible refine And.intro ?_ ?_); (focus (walk_at "sd")); (conv => whnf); (try dsimp only))))
local macro_rules | `(tactic| walk_at "th") => `(tactic| repeat' (first | assumption | exact thD_txt _ _ | exact thD_int | exact thD_non | exact thD_bl | (refine thD_mono _ _ _ ?_ (by assumption); decide) | refine List.forall_mem_cons.mpr (And.intro ?_ ?_) | exact List.forall_mem_nil _ | refine thD_tup (by simp) ?_ | refine thD_lst (by simp) ?_))
local macro_rules | `(tactic| walk_at "ln") => `(tactic| (intro ds m Q PX h; repeat (obtain ⟨_, h⟩ := h); subst_vars; rfl))
def isOds (xs : List Str) (d : D) : Prop := ∃ os : List Od, d = .lst (os.map odD) ∧ os.length ≤ 8 ∧ (∀ o ∈ os, OdOk xs o) ∧ os.Nodup
theorem odD_inj {a b : Od} (e : odD a = odD b) : a = b := by
  obtain ⟨a1, a2, a3⟩ := a
  obtain ⟨b1, b2, b3⟩ := b
  unfold odD at e
  injection e with e
  injection e with e1 e
  injection e with e2 e
  injection e with e3 e
  injection e1 with e1
  injection e2 with e2
  injection e3 with e3
  simp only at e1 e2 e3
  rw [e1, e2, e3]
theorem str_at {xs : List Str} {k : Int} (h0 : 0 ≤ k) (h1 : k < xs.length) : ∃ x, xs[k.toNat]? = some x ∧ atI (xs.map D.str) k = some (.str x) := by
  obtain ⟨d, e1, e2⟩ := atI_some (xs := xs.map D.str) h0 (by rw [List.length_map]; exact h1)
  rw [List.getElem?_map] at e2
  cases e : xs[k.toNat]? with
  | none => rw [e] at e2; cases e2
  | some x => rw [e] at e2; cases e2; exact ⟨x, rfl, e1⟩
def sp__law_orders : SpD := fun ds m P _ => ∃ (w : Addr) (xs : List Str), ds = [.adr w, .lst (xs.map .str)] ∧ xs.length ≤ 5 ∧ xs.Nodup ∧ (∀ x ∈ xs, nmB x = true) ∧ Dr w 25 (isOds xs) m P
def rd__law_orders : DS :=
    sSeq (sSet 2 (rLstM (rNil)))
    (sSeq (sFor (iRange (rCons (rOp oMul (rCall sp__law_draw_v2 [] (rCons (rV 0) (rCons (rC (.int 9)) (rNil)))) (rCB cInt (rCons (rOp oGt (rCB cLen (rCons (rV 1) (rNil))) (rC (.int 1))) (rNil)))) (rNil))) (gN 3) (sSeq (sSet 4 (rCall sp__law_draw_v2 [] (rCons (rV 0) (rCons (rCB cLen (rCons (rV 1) (rNil))) (rNil)))))
    (sSeq (sSet 5 (rOp oMod (rCB cInt (rCons (rOp oAdd (rOp oAdd (rV 4) (rC (.int 1))) (rCall sp__law_draw_v2 [] (rCons (rV 0) (rCons (rOp oSub (rCB cLen (rCons (rV 1) (rNil))) (rC (.int 1))) (rNil))))) (rNil))) (rCB cLen (rCons (rV 1) (rNil)))))
    (sSeq (sSet 6 (rTup (rCons (rCall sp__law_one_v2 [] (rCons (rV 0) (rCons (rLst (rCons (rC (.str "all")) (rCons (rC (.str "ready")) (rNil)))) (rNil)))) (rCons (rOp oIx (rV 1) (rV 4)) (rCons (rOp oIx (rV 1) (rV 5)) (rNil))))))
    (sIf (rTst (rOp (oInN true) (rV 6) (rV 2))) (sExpr (rApp (rV 2) (rV 6))) (sNext))))))
    (sRet (rSeal (rV 2))))
theorem ln__law_orders : ∀ ds m Q PX, sp__law_orders ds m Q PX → ds.length = 2 := fun ds m Q PX h => by (repeat (obtain ⟨_, h⟩ := h)); subst_vars; rfl
def T__law_orders_2 : DS := sSeq (sFor (iRange (rCons (rOp oMul (rCall sp__law_draw_v2 [] (rCons (rV 0) (rCons (rC (.int 9)) (rNil)))) (rCB cInt (rCons (rOp oGt (rCB cLen (rCons (rV 1) (rNil))) (rC (.int 1))) (rNil)))) (rNil))) (gN 3) (sSeq (sSet 4 (rCall sp__law_draw_v2 [] (rCons (rV 0) (rCons (rCB cLen (rCons (rV 1) (rNil))) (rNil)))))
    (sSeq (sSet 5 (rOp oMod (rCB cInt (rCons (rOp oAdd (rOp oAdd (rV 4) (rC (.int 1))) (rCall sp__law_draw_v2 [] (rCons (rV 0) (rCons (rOp oSub (rCB cLen (rCons (rV 1) (rNil))) (rC (.int 1))) (rNil))))) (rNil))) (rCB cLen (rCons (rV 1) (rNil)))))
    (sSeq (sSet 6 (rTup (rCons (rCall sp__law_one_v2 [] (rCons (rV 0) (rCons (rLst (rCons (rC (.str "all")) (rCons (rC (.str "ready")) (rNil)))) (rNil)))) (rCons (rOp oIx (rV 1) (rV 4)) (rCons (rOp oIx (rV 1) (rV 5)) (rNil))))))
    (sIf (rTst (rOp (oInN true) (rV 6) (rV 2))) (sExpr (rApp (rV 2) (rV 6))) (sNext))))))
    (sRet (rSeal (rV 2)))
def T__law_orders_3 : DS := sSeq (sSet 5 (rOp oMod (rCB cInt (rCons (rOp oAdd (rOp oAdd (rV 4) (rC (.int 1))) (rCall sp__law_draw_v2 [] (rCons (rV 0) (rCons (rOp oSub (rCB cLen (rCons (rV 1) (rNil))) (rC (.int 1))) (rNil))))) (rNil))) (rCB cLen (rCons (rV 1) (rNil)))))
    (sSeq (sSet 6 (rTup (rCons (rCall sp__law_one_v2 [] (rCons (rV 0) (rCons (rLst (rCons (rC (.str "all")) (rCons (rC (.str "ready")) (rNil)))) (rNil)))) (rCons (rOp oIx (rV 1) (rV 4)) (rCons (rOp oIx (rV 1) (rV 5)) (rNil))))))
    (sIf (rTst (rOp (oInN true) (rV 6) (rV 2))) (sExpr (rApp (rV 2) (rV 6))) (sNext)))
def T__law_orders_4 : DS := sSeq (sSet 6 (rTup (rCons (rCall sp__law_one_v2 [] (rCons (rV 0) (rCons (rLst (rCons (rC (.str "all")) (rCons (rC (.str "ready")) (rNil)))) (rNil)))) (rCons (rOp oIx (rV 1) (rV 4)) (rCons (rOp oIx (rV 1) (rV 5)) (rNil))))))
    (sIf (rTst (rOp (oInN true) (rV 6) (rV 2))) (sExpr (rApp (rV 2) (rV 6))) (sNext))
def T__law_orders_5 : DS := sIf (rTst (rOp (oInN true) (rV 6) (rV 2))) (sExpr (rApp (rV 2) (rV 6))) (sNext)
def T__law_orders_6 : DS := sRet (rSeal (rV 2))
theorem pu__law_orders : ∀ ds m Q PX, sp__law_orders ds m Q PX → rd__law_orders (dEnds Q PX) (dstart ["_law_well", "_law_names", "_law_found", "_law_k", "_law_one_here", "_law_two", "_law_order"] ds) m := by
  rintro ds m Q PX ⟨w, xs, rfl, hl, hnd, hnm, k, wl, hk, h⟩
  have big : (2 : Nat) ^ 200 > 1000 := by decide
  have lx : (xs.map D.str).length = xs.length := List.length_map _
  walk_at "go"
  intro q hq
  have hqw : q ≠ w := fun z => wl.some (z ▸ hq)
  have kn : Kp [] m (mset m q (.lst [])) := kp_new hq
  have w0 := wl.keep kn (by simp)
  walk_at "go"
  refine ⟨w, 9, rfl, by decide, by decide, _, w0, by omega, fun d m1 hd kp1 w1 => ?_⟩
  obtain ⟨r, r0, r1, rfl⟩ := hd
  have e1 := kp1 q _ (by simpa using hqw) mset_same
  have kpq : ∀ a o, a ≠ w → m a = some o → a ≠ q := fun a o _ e z => by rw [z, hq] at e; cases e
  have kp0 : ∀ a o, a ≠ w → m a = some o → m1 a = some o := fun a o ha e => kp1 a o (by simpa using ha) (kn a o (by simp) e)
  obtain ⟨M, hM⟩ : ∃ M : Int, M = r * (if decide ((1 : Int) < ((xs.map D.str).length : Nat)) then 1 else 0) := ⟨_, rfl⟩
  have hM8 : 0 ≤ M ∧ M ≤ 8 ∧ (0 < M → 1 < xs.length) := by
    by_cases hx : 1 < xs.length
    · rw [decide_eq_true (by omega), if_pos rfl, Int.mul_one] at hM
      omega
    · rw [decide_eq_false (by omega), if_neg (by decide), Int.mul_zero] at hM
      omega
  walk_at "go"
  rw [← hM]
  refine loop_inv (fun i δ m' => Wl m' w (k + 1 + 3 * i) ∧ (∀ a o, a ≠ w → m a = some o → m' a = some o) ∧ ∃ (os : List Od) (a3 a4 a5 a6 : Option D), m' q = some (.lst (os.map odD)) ∧ os.length ≤ i ∧ (∀ o ∈ os, OdOk xs o) ∧ os.Nodup ∧ δ = [some (.adr w), some (.lst (xs.map .str)), some (.adr q), a3, a4, a5, a6]) (fun i d δ m' e hh => ?_) (fun δ m' hh => ?_) ⟨w1, kp0, [], _, _, _, _, e1, Nat.le_refl _, (fun _ z => by cases z), List.nodup_nil, rfl⟩
  · obtain ⟨wi, kpi, os, a3, a4, a5, a6, hqm, hol, hoo, hon, rfl⟩ := hh
    obtain ⟨hi, rfl⟩ := rg_get e
    have hi8 : i < 8 := by omega
    have h2 : 1 < xs.length := hM8.2.2 (by omega)
    refine ⟨trivial, fun Nx k1 => ?_⟩
    obtain ⟨N, hN⟩ : ∃ N : Int, N = ((xs.map D.str).length : Int) := ⟨_, rfl⟩
    walk_at "go"
    rw [← hN]
    refine ⟨w, N, rfl, by omega, by omega, _, wi, by omega, fun d m2 hd kp2 w2 => ?_⟩
    obtain ⟨a, a0, a1, rfl⟩ := hd
    walk_at "go"
    rw [← hN]
    refine ⟨w, N - 1, rfl, by omega, by omega, _, w2, by omega, fun d m3 hd kp3 w3 => ?_⟩
    obtain ⟨b, b0, b1, rfl⟩ := hd
    walk_at "go"
    rw [← hN]
    obtain ⟨t, ht⟩ : ∃ t : Int, t = (a + 1 + b) % N := ⟨_, rfl⟩
    have t0 : 0 ≤ t := by rw [ht]; exact Int.emod_nonneg _ (by omega)
    have t1 : t < N := by rw [ht]; exact Int.emod_lt_of_pos _ (by omega)
    have tn : t ≠ a := by
      by_cases hlt : a + 1 + b < N
      · rw [ht, Int.emod_eq_of_lt (by omega) hlt]; omega
      · have : (a + 1 + b) % N = a + 1 + b - N := by
          rw [← Int.sub_emod_right]
          exact Int.emod_eq_of_lt (by omega) (by omega)
        rw [ht, this]; omega
    rw [← ht]
    walk_at "go"
    refine ⟨w, _, _, rfl, .inl rfl, by simp, by simp, _, w3, by omega, fun d m4 hd kp4 w4 => ?_⟩
    obtain ⟨wd, rfl, hwd⟩ : ∃ wd : Str, d = .str wd ∧ (wd = "all" ∨ wd = "ready") := by
      simp only [List.mem_cons, List.not_mem_nil, or_false] at hd
      rcases hd with rfl | rfl
      · exact ⟨_, rfl, .inl rfl⟩
      · exact ⟨_, rfl, .inr rfl⟩
    clear hd
    obtain ⟨x, x1, x2⟩ := str_at (xs := xs) a0 (by omega)
    obtain ⟨y, y1, y2⟩ := str_at (xs := xs) t0 (by omega)
    walk_at "dl"
    rw [x2]
    walk_at "dl"
    rw [y2]
    walk_at "dl"
    refine ⟨len_line (by simp), ?_⟩
    have hx := List.mem_of_getElem? x1
    have hy := List.mem_of_getElem? y1
    have hxy : x ≠ y := fun z => by
      have i1 := (List.getElem?_eq_some_iff.mp x1).1
      have := (List.getElem?_inj i1 hnd).mp (x1.trans (by rw [z]; exact y1.symm))
      omega
    have hok : OdOk xs (wd, x, y) := ⟨hwd, hx, hy, hxy⟩
    have po : PT (odD (wd, x, y)) := pt_od hwd (hnm x hx) (hnm y hy)
    have hpt : ∀ d ∈ os.map odD, PT d := fun d hd => by
      obtain ⟨o, ho, rfl⟩ := List.mem_map.mp hd
      have := hoo o ho
      exact pt_od this.w (hnm _ this.a) (hnm _ this.b)
    have kp234 : Kp [w] m' m4 := (kp2.trans kp3).trans kp4
    have e4 := kp234 q _ (by simpa using hqw) hqm
    show T__law_orders_5 { nx := Nx, rt := Q, bk := T__law_orders_6 (dEnds Q PX), ct := Nx, xx := fun c fs _ m => PX c fs m } [some (.adr w), some (.lst (xs.map .str)), some (.adr q), some (.int (0 + (i : Int))), some (.int a), some (.int t), some (odD (wd, x, y))] m4
    walk_at "dl"
    rw [asL_adr e4]
    refine ⟨shIn po hpt (by rw [List.length_map]; omega), ?_⟩
    rw [if_pos rfl, any_mem po]
    have kp' : ∀ a o, a ≠ w → m a = some o → m4 a = some o := fun a o ha e => kp234 a o (by simpa using ha) (kpi a o ha e)
    cases em : memB (odD (wd, x, y)) (os.map odD) with
    | true => exact k1 _ _ ⟨w4.mono (by omega), kp', os, _, _, _, _, e4, by omega, hoo, hon, rfl⟩
    | false =>
      walk_at "dl"
      refine ⟨⟨_, e4⟩, ?_⟩
      walk_at "dl"
      rw [e4]
      walk_at "dl"
      refine ⟨len_line (by rw [List.length_map]; omega), ?_⟩
      have hnew : (wd, x, y) ∉ os := fun z => by
        rw [(memB_iff po.p fun d hd => (hpt d hd).p).mpr (List.mem_map.mpr ⟨_, z, rfl⟩)] at em
        cases em
      refine k1 _ _ ⟨?_, fun a o ha e => ?_, os ++ [(wd, x, y)], _, _, _, _, ?_, by rw [List.length_append]; simp; omega, fun o ho => ?_, ?_, rfl⟩
      · obtain ⟨a, b, c, e, r⟩ := (w4.mono (by omega : _ ≤ k + 1 + 3 * (i + 1))).ex
        exact ⟨a, b, c, by rw [mset_ne (fun z => hqw z.symm)]; exact e, r⟩
      · rw [mset_ne (kpq a o ha e)]; exact kp' a o ha e
      · rw [mset_same, List.map_append]; rfl
      · rcases List.mem_append.mp ho with ho | ho
        · exact hoo o ho
        · rw [List.mem_singleton.mp ho]; exact hok
      · refine List.nodup_append.mpr ⟨hon, by simp, fun a ha b hb => ?_⟩
        rw [List.mem_singleton.mp hb]
        exact fun z => hnew (z ▸ ha)
  · obtain ⟨wi, kpi, os, a3, a4, a5, a6, hqm, hol, hoo, hon, rfl⟩ := hh
    rw [rg_len] at hol wi
    refine ⟨trivial, ?_⟩
    walk_at "dl"
    rw [hqm]
    refine h _ _ ⟨os, rfl, by omega, hoo, hon⟩ (fun a o ha e => ?_) ?_
    · have ha' : a ≠ w := by simpa using ha
      unfold mdel
      rw [if_neg (kpq a o ha' e)]
      exact kpi a o ha' e
    · obtain ⟨a, b, c, e, r⟩ := (wi.mono (by omega : _ ≤ k + 25)).ex
      exact ⟨a, b, c, by unfold mdel; rw [if_neg (fun z => hqw z.symm)]; exact e, r⟩
end DL

namespace DL
open PySem L2
local macro_rules | `(tactic| walk_at "dl") => `(tactic| ((conv => whnf); try dsimp only))
local macro_rules | `(tactic| walk_at "sd") => `(tactic| first | trivial | exact Nat.zero_le _ | assumption | decide | omega | exact len_line (by first | decide | omega | (simp; done) | (simp; omega)) | (simp; done) | (simp; omega) | exact ⟨by decide, by decide, by decide⟩ | exact .inl ⟨by decide, by decide⟩ | exact .inl ⟨by omega, by omega⟩ | exact wide_div (b := 64) (by decide) (by decide) (by decide) (by decide))
local macro_rules | `(tactic| walk_at "go") => `(tactic| ((conv => whnf); (try dsimp only); repeat ((with_reducible refine And.intro ?_ ?_); (focus (walk_at "sd")); (conv => whnf); (try dsimp only))))
local macro_rules | `(tactic| walk_at "th") => `(tactic| repeat' (first | assumption | exact thD_txt _ _ | exact thD_int | exact thD_non | exact thD_bl | (refine thD_mono _ _ _ ?_ (by assumption); decide) | refine List.forall_mem_cons.mpr (And.intro ?_ ?_) | exact List.forall_mem_nil _ | refine thD_tup (by simp) ?_ | refine thD_lst (by simp) ?_))
local macro_rules | `(tactic| walk_at "ln") => `(tactic| (intro ds m Q PX h; repeat (obtain ⟨_, h⟩ := h); subst_vars; rfl))
def sp__law_due_v3 : SpD := fun ds m P _ => ∃ (ws : List Ws) (os : List Od), ds = [.lst (ws.map Ws.row), .lst (os.map odD)] ∧ ws.length ≤ 1000 ∧ os.length ≤ 1000 ∧ P (.lst (dems ws os)) m
def rd__law_due_v3 : DS :=
    sRet (rOp oAdd (rLc (iAny (rV 0)) [2] (gN 2) (rTst (rOp oGt (rOp oIx (rV 2) (rC (.int 4))) (rC (.int 0)))) (rTup (rCons (rC (.str "least")) (rCons (rOp oIx (rV 2) (rC (.int 3))) (rNil))))) (rV 1))
theorem ln__law_due_v3 : ∀ ds m Q PX, sp__law_due_v3 ds m Q PX → ds.length = 2 := fun ds m Q PX h => by (repeat (obtain ⟨_, h⟩ := h)); subst_vars; rfl
theorem pu__law_due_v3 : ∀ ds m Q PX, sp__law_due_v3 ds m Q PX → rd__law_due_v3 (dEnds Q PX) (dstart ["_law_wishes", "_law_laid", "_law_wish_here"] ds) m := by
  rintro ds m Q PX ⟨ws, os, rfl, hl, ho, h⟩
  have lo : (os.map odD).length = os.length := List.length_map _
  walk_at "go"
  refine comp_onf ws Ws.row (fun W => lsD W.name) (fun W => decide (0 < W.least)) (by omega) trivial (fun W hm Kt Kf ht hf => ?_) ?_
  · walk_at "go"
    cases e : decide (0 < W.least) with
    | true =>
      walk_at "go"
      exact ht e
    | false => exact hf e
  obtain ⟨A, hA⟩ : ∃ A, A = (ws.filter fun W => decide (0 < W.least)).map fun W => lsD W.name := ⟨_, rfl⟩
  have lA : A.length ≤ ws.length := by rw [hA, List.length_map]; exact List.length_filter_le _ _
  unfold dems at h
  rw [← hA] at h
  rw [← hA]
  walk_at "go"
  exact h
def sp__law_row : SpD := fun ds m P _ => ∃ (W : Ws), ds = [W.d] ∧ P W.row m
def rd__law_row : DS :=
    sRet (rTup (rCons (rFld "Wish" "part" (rV 0)) (rCons (rFld "Wish" "deed" (rV 0)) (rCons (rFld "Wish" "looks" (rV 0)) (rCons (rFld "Wish" "name" (rV 0)) (rCons (rFld "Wish" "least" (rV 0)) (rCons (rFld "Wish" "most" (rV 0)) (rNil))))))))
theorem ln__law_row : ∀ ds m Q PX, sp__law_row ds m Q PX → ds.length = 1 := fun ds m Q PX h => by (repeat (obtain ⟨_, h⟩ := h)); subst_vars; rfl
theorem pu__law_row : ∀ ds m Q PX, sp__law_row ds m Q PX → rd__law_row (dEnds Q PX) (dstart ["_law_wish_here"] ds) m := by
  rintro ds m Q PX ⟨W, rfl, h⟩
  walk_at "go"
  exact h
theorem row_pur (W : Ws) : pur W.row = true := pur_tup fun d hd => by
  simp only [List.mem_cons, List.not_mem_nil, or_false] at hd
  rcases hd with rfl | rfl | rfl | rfl | rfl | rfl
  · rfl
  · exact pur_oS _
  · exact pur_oL _
  · rfl
  · rfl
  · exact pur_oN _
theorem Ws.Ok.thR {W : Ws} (h : W.Ok) : thD 6 W.row := by
  have t1 := thD_nm (n := 5) h.part
  have t2 : thD 5 (oS W.deed) := thD_oS h.deed
  have t3 : thD 5 (oL W.looks) := thD_mono 4 5 _ (by decide) (thD_oL h.looks)
  have t4 := thD_nm (n := 5) h.name
  have t5 : thD 5 (oN W.most) := thD_oN
  exact thD_tup (by simp) (by walk_at "th")
def Uq (ss : List Str) : Prop := ∀ ys zs : List Str, ys.Perm ss → zs.Perm ss → PyProof.Rows.sortedS ys = true → PyProof.Rows.sortedS zs = true → ys = zs
def sp__law_stays : SpD := fun ds m P _ => ∃ (ws : List Ws) (os : List Od) (ss : List Str), ds = [plD2 ws os ss, .lst (ws.map Ws.row), .lst (os.map odD), .tup (ss.map .str)] ∧ PnOk ws os ss ∧ Uq ss ∧ P (.bl true) m
def rd__law_stays : DS :=
    sSeq (sIf (rOr (rNot (rTru (rCB cIsG (rCons (rV 0) (rCons (rC (.glb "Plan")) (rNil)))))) (rTst (rOp oNe (rLc (iAny (rMet "Plan" "wishes" sp_Plan_wishes 0 0 (gI [0]) (rV 0) (rNil) (rNil))) [4] (gN 4) (qYes) (rCall sp__law_row [] (rCons (rV 4) (rNil)))) (rV 1)))) (sRet (rC (.bl false))) (sNext))
    (sRet (rAndV (rOp oEq (rCB cLst (rCons (rFld "Plan" "orders" (rV 0)) (rNil))) (rV 2)) (rOp oEq (rCB cSrtT (rCons (rFld "Plan" "strict" (rV 0)) (rNil))) (rCB cSrtT (rCons (rV 3) (rNil))))))
theorem ln__law_stays : ∀ ds m Q PX, sp__law_stays ds m Q PX → ds.length = 4 := fun ds m Q PX h => by (repeat (obtain ⟨_, h⟩ := h)); subst_vars; rfl
theorem pu__law_stays : ∀ ds m Q PX, sp__law_stays ds m Q PX → rd__law_stays (dEnds Q PX) (dstart ["_law_trial", "_law_wishes", "_law_laid", "_law_firm", "_law_wish_here"] ds) m := by
  rintro ds m Q PX ⟨ws, os, ss, rfl, hp, hu, h⟩
  have w5 := hp.few
  have o12 := hp.many
  have s4 := hp.sfew
  have lo : (os.map odD).length = os.length := List.length_map _
  have tr : thD 7 (.lst (ws.map Ws.row)) := ⟨by rw [List.length_map]; omega, fun d hd => by obtain ⟨W, hW, rfl⟩ := List.mem_map.mp hd; exact (hp.ok W hW).thR⟩
  have pr : pur (.lst (ws.map Ws.row)) = true := by rw [pur]; exact purL_all fun d hd => by obtain ⟨W, _, rfl⟩ := List.mem_map.mp hd; exact row_pur W
  have to : thD 6 (.lst (os.map odD)) := ⟨by omega, hp.th.1.2⟩
  have po : pur (.lst (os.map odD)) = true := by rw [pur]; exact purL_all fun d hd => by obtain ⟨o, _, rfl⟩ := List.mem_map.mp hd; rfl
  have de : ∀ m, deq (dat m (.lst (ws.map Ws.row))) (dat m (.lst (ws.map Ws.row))) = true := fun m => deqP pr pr (by simp)
  have deo : ∀ m, deq (dat m (.lst (os.map odD))) (dat m (.lst (os.map odD))) = true := fun m => deqP po po (by simp)
  walk_at "go"
  refine ⟨ws, _, _, rfl, by omega, ?_⟩
  walk_at "go"
  refine comp_on ws Ws.d Ws.row (by omega) trivial (fun W hm Q q => ?_) ?_
  · walk_at "go"
    exact ⟨W, rfl, q⟩
  walk_at "go"
  refine ⟨shpT tr, shpT tr, ?_⟩
  rw [if_pos rfl, de]
  walk_at "go"
  refine ⟨shpT to, shpT to, ?_⟩
  rw [if_neg (by decide), deo]
  walk_at "dl"
  rw [textsD_map]
  refine ⟨by omega, fun ys h1 h2 => ?_⟩
  walk_at "dl"
  rw [textsD_map]
  refine ⟨by omega, fun zs h3 h4 => ?_⟩
  obtain rfl := hu ys zs h1 h3 h2 h4
  have ly : ys.length ≤ 4 := by rw [h1.length_eq]; exact s4
  have ty : thD 3 (.lst (ys.map D.str)) := ⟨by rw [List.length_map]; omega, fun d hd => by
    obtain ⟨x, hx, rfl⟩ := List.mem_map.mp hd
    exact thD_nm (hp.snm x (h1.mem_iff.mp hx))⟩
  have py : pur (.lst (ys.map D.str)) = true := by rw [pur]; exact purL_all fun d hd => by obtain ⟨o, _, rfl⟩ := List.mem_map.mp hd; rfl
  have dy : ∀ m, deq (dat m (.lst (ys.map D.str))) (dat m (.lst (ys.map D.str))) = true := fun m => deqP py py (by simp)
  walk_at "go"
  refine ⟨shpT ty, shpT ty, ?_⟩
  rw [if_neg (by decide), dy]
  exact h
def sp__law_refused_v6 : SpD := fun ds m P _ => ∃ (ws : List Ws) (os : List Od) (ss : List Str) (ks : List D), ds = [plD2 ws os ss, .lst ks] ∧ PnOk ws os ss ∧ ks.length ≤ 1000 ∧ (∀ k ∈ ks, PT k) ∧ (∃ k ∈ ks, k ∉ dems ws os) ∧ P (.bl true) m
def rd__law_refused_v6 : DS :=
    sSeq (sTryA "BadPlan" 2 (sExpr (rCall sp_eased [] (rCons (rV 0) (rCons (rV 1) (rNil))))) (fun xa xc xd => sRet (rAndV (rCB (cIsX xa xc xd) (rCons (rV 2) (rCons (rC (.ty "ValueError")) (rNil)))) (rNotV (rCB (cIsX xa xc xd) (rCons (rV 2) (rCons (rTup (rCons (rC (.glb "BadAsk")) (rCons (rC (.glb "BadWish")) (rNil)))) (rNil))))))))
    (sRet (rC (.bl false)))
theorem ln__law_refused_v6 : ∀ ds m Q PX, sp__law_refused_v6 ds m Q PX → ds.length = 2 := fun ds m Q PX h => by (repeat (obtain ⟨_, h⟩ := h)); subst_vars; rfl
theorem pu__law_refused_v6 : ∀ ds m Q PX, sp__law_refused_v6 ds m Q PX → rd__law_refused_v6 (dEnds Q PX) (dstart ["_law_trial", "_law_some", "e"] ds) m := by
  rintro ds m Q PX ⟨ws, os, ss, ks, rfl, hp, hl, hk, ⟨k, k1, k2⟩, h⟩
  walk_at "go"
  refine ⟨ws, os, ss, ks, rfl, hp, hl, hk, ?_⟩
  have e : (ks.all fun k => memB k (dems ws os)) = false := by
    rw [List.all_eq_false]
    exact ⟨k, k1, fun z => k2 ((memB_iff (hk k k1).p fun d hd => (hp.pt d hd).p).mp z)⟩
  rw [e]
  refine ⟨by decide, ?_⟩
  walk_at "dl"
  intro a C dd ha
  walk_at "go"
  exact h
theorem ls_dem {ws : List Ws} {os : List Od} {x : Str} : lsD x ∈ dems ws os ↔ ∃ W ∈ ws, 0 < W.least ∧ W.name = x := by
  unfold dems
  rw [List.mem_append]
  constructor
  · rintro (h | h)
    · obtain ⟨W, hW, e⟩ := List.mem_map.mp h
      obtain ⟨h1, h2⟩ := List.mem_filter.mp hW
      refine ⟨W, h1, of_decide_eq_true h2, ?_⟩
      unfold lsD at e
      injection e with e; injection e with _ e; injection e with e _; injection e
    · obtain ⟨o, _, e⟩ := List.mem_map.mp h
      unfold lsD odD at e
      injection e with e; injection e with _ e; injection e with _ e; cases e
  · rintro ⟨W, h1, h2, rfl⟩
    exact .inl (List.mem_map.mpr ⟨W, List.mem_filter.mpr ⟨h1, decide_eq_true h2⟩, rfl⟩)
theorem od_dem {ws : List Ws} {os : List Od} {o : Od} : odD o ∈ dems ws os ↔ o ∈ os := by
  unfold dems
  rw [List.mem_append]
  constructor
  · rintro (h | h)
    · obtain ⟨W, _, e⟩ := List.mem_map.mp h
      unfold lsD odD at e
      injection e with e; injection e with _ e; injection e with _ e; cases e
    · obtain ⟨p, hp, e⟩ := List.mem_map.mp h
      rw [← odD_inj e]; exact hp
  · exact fun h => .inr (List.mem_map.mpr ⟨o, h, rfl⟩)
end DL

namespace DL
open PySem L2
local macro_rules | `(tactic| walk_at "dl") => `(tactic| ((conv => whnf); try dsimp only))
local macro_rules | `(tactic| walk_at "sd") => `(tactic| first | trivial | exact Nat.zero_le _ | assumption | decide | omega | exact len_line (by first | decide | omega | (simp; done) | (simp; omega)) | (simp; done) | (simp; omega) | exact ⟨by decide, by decide, by decide⟩ | exact .inl ⟨by decide, by decide⟩ | exact .inl ⟨by omega, by omega⟩ | exact wide_div (b := 64) (by decide) (by decide) (by decide) (by decide))
local macro_rules | `(tactic| walk_at "go") => `(tactic| ((conv => whnf); (try dsimp only); repeat ((with_reducible refine And.intro ?_ ?_); (focus (walk_at "sd")); (conv => whnf); (try dsimp only))))
local macro_rules | `(tactic| walk_at "th") => `(tactic| repeat' (first | assumption | exact thD_txt _ _ | exact thD_int | exact thD_non | exact thD_bl | (refine thD_mono _ _ _ ?_ (by assumption); decide) | refine List.forall_mem_cons.mpr (And.intro ?_ ?_) | exact List.forall_mem_nil _ | refine thD_tup (by simp) ?_ | refine thD_lst (by simp) ?_))
local macro_rules | `(tactic| walk_at "ln") => `(tactic| (intro ds m Q PX h; repeat (obtain ⟨_, h⟩ := h); subst_vars; rfl))
def othW (x : Str) : Str := if x = "all" then "ready" else "all"
def dWd : List (Key × D) := [((.inr "all" : Key), .str "ready"), (.inr "ready", .str "all")]
theorem dWd_get {x : Str} (h : x = "all" ∨ x = "ready") : valD dWd (.inr x) = some (.str (othW x)) := by
  rcases h with rfl | rfl
  · exact valD_pos rfl
  · unfold dWd
    rw [valD_neg (by decide +kernel)]
    exact valD_pos rfl
def mstD (x : Str) : D := .tup [.str "most", .str x]
def isNot (ws : List Ws) (os : List Od) (d : D) : Prop := PT d ∧ d ∉ dems ws os
def swO (o : Od) : Od := (o.1, o.2.2, o.2.1)
def otO (o : Od) : Od := (othW o.1, o.2.1, o.2.2)
theorem oth_ok (x : Str) : othW x = "all" ∨ othW x = "ready" := by unfold othW; split <;> simp
def sp__law_odd_v3 : SpD := fun ds m P _ => ∃ (w : Addr) (ws : List Ws) (os : List Od) (ss : List Str), ds = [.adr w, .lst (ws.map Ws.row), .lst (os.map odD)] ∧ PnOk ws os ss ∧ Dr w 1 (isNot ws os) m P
def rd__law_odd_v3 : DS :=
    sSeq (sSet 3 (rLst (rCons (rTup (rCons (rC (.str "least")) (rCons (rC (.str "nosuchname")) (rNil)))) (rCons (rTup (rCons (rC (.str "most")) (rCons (rC (.str "nosuchname")) (rNil)))) (rCons (rTup (rCons (rC (.str "ready")) (rCons (rC (.str "nosuchname")) (rCons (rC (.str "notthisone")) (rNil))))) (rNil))))))
    (sSeq (sSet 3 (rOp oAdd (rV 3) (rLc (iAny (rV 1)) [5] (gN 5) (rTst (rOp oEq (rOp oIx (rV 5) (rC (.int 4))) (rC (.int 0)))) (rTup (rCons (rC (.str "least")) (rCons (rOp oIx (rV 5) (rC (.int 3))) (rNil)))))))
    (sSeq (sSet 3 (rOp oAdd (rV 3) (rLc (iAny (rV 1)) [5] (gN 5) (qYes) (rTup (rCons (rC (.str "most")) (rCons (rOp oIx (rV 5) (rC (.int 3))) (rNil)))))))
    (sSeq (sSet 3 (rOp oAdd (rV 3) (rLc (iAny (rV 2)) [6, 7, 8] (gT [6, 7, 8]) (rTst (rOp (oInN true) (rTup (rCons (rV 6) (rCons (rV 8) (rCons (rV 7) (rNil))))) (rV 2))) (rTup (rCons (rV 6) (rCons (rV 8) (rCons (rV 7) (rNil))))))))
    (sSeq (sSet 4 (rDctN [(rC (.str "all"), rC (.str "ready")), (rC (.str "ready"), rC (.str "all"))]))
    (sSeq (sSet 3 (rOp oAdd (rV 3) (rLc (iAny (rV 2)) [6, 7, 8] (gT [6, 7, 8]) (rTst (rOp (oInN true) (rTup (rCons (rOp oDGet (rV 4) (rV 6)) (rCons (rV 7) (rCons (rV 8) (rNil))))) (rV 2))) (rTup (rCons (rOp oDGet (rV 4) (rV 6)) (rCons (rV 7) (rCons (rV 8) (rNil))))))))
    (sRet (rCall sp__law_one_v2 [] (rCons (rV 0) (rCons (rV 3) (rNil))))))))))
theorem ln__law_odd_v3 : ∀ ds m Q PX, sp__law_odd_v3 ds m Q PX → ds.length = 3 := fun ds m Q PX h => by (repeat (obtain ⟨_, h⟩ := h)); subst_vars; rfl
def T__law_odd_v3_2 : DS := sSeq (sSet 3 (rOp oAdd (rV 3) (rLc (iAny (rV 1)) [5] (gN 5) (rTst (rOp oEq (rOp oIx (rV 5) (rC (.int 4))) (rC (.int 0)))) (rTup (rCons (rC (.str "least")) (rCons (rOp oIx (rV 5) (rC (.int 3))) (rNil)))))))
    (sSeq (sSet 3 (rOp oAdd (rV 3) (rLc (iAny (rV 1)) [5] (gN 5) (qYes) (rTup (rCons (rC (.str "most")) (rCons (rOp oIx (rV 5) (rC (.int 3))) (rNil)))))))
    (sSeq (sSet 3 (rOp oAdd (rV 3) (rLc (iAny (rV 2)) [6, 7, 8] (gT [6, 7, 8]) (rTst (rOp (oInN true) (rTup (rCons (rV 6) (rCons (rV 8) (rCons (rV 7) (rNil))))) (rV 2))) (rTup (rCons (rV 6) (rCons (rV 8) (rCons (rV 7) (rNil))))))))
    (sSeq (sSet 4 (rDctN [(rC (.str "all"), rC (.str "ready")), (rC (.str "ready"), rC (.str "all"))]))
    (sSeq (sSet 3 (rOp oAdd (rV 3) (rLc (iAny (rV 2)) [6, 7, 8] (gT [6, 7, 8]) (rTst (rOp (oInN true) (rTup (rCons (rOp oDGet (rV 4) (rV 6)) (rCons (rV 7) (rCons (rV 8) (rNil))))) (rV 2))) (rTup (rCons (rOp oDGet (rV 4) (rV 6)) (rCons (rV 7) (rCons (rV 8) (rNil))))))))
    (sRet (rCall sp__law_one_v2 [] (rCons (rV 0) (rCons (rV 3) (rNil)))))))))
def T__law_odd_v3_3 : DS := sSeq (sSet 3 (rOp oAdd (rV 3) (rLc (iAny (rV 1)) [5] (gN 5) (qYes) (rTup (rCons (rC (.str "most")) (rCons (rOp oIx (rV 5) (rC (.int 3))) (rNil)))))))
    (sSeq (sSet 3 (rOp oAdd (rV 3) (rLc (iAny (rV 2)) [6, 7, 8] (gT [6, 7, 8]) (rTst (rOp (oInN true) (rTup (rCons (rV 6) (rCons (rV 8) (rCons (rV 7) (rNil))))) (rV 2))) (rTup (rCons (rV 6) (rCons (rV 8) (rCons (rV 7) (rNil))))))))
    (sSeq (sSet 4 (rDctN [(rC (.str "all"), rC (.str "ready")), (rC (.str "ready"), rC (.str "all"))]))
    (sSeq (sSet 3 (rOp oAdd (rV 3) (rLc (iAny (rV 2)) [6, 7, 8] (gT [6, 7, 8]) (rTst (rOp (oInN true) (rTup (rCons (rOp oDGet (rV 4) (rV 6)) (rCons (rV 7) (rCons (rV 8) (rNil))))) (rV 2))) (rTup (rCons (rOp oDGet (rV 4) (rV 6)) (rCons (rV 7) (rCons (rV 8) (rNil))))))))
    (sRet (rCall sp__law_one_v2 [] (rCons (rV 0) (rCons (rV 3) (rNil))))))))
def T__law_odd_v3_4 : DS := sSeq (sSet 3 (rOp oAdd (rV 3) (rLc (iAny (rV 2)) [6, 7, 8] (gT [6, 7, 8]) (rTst (rOp (oInN true) (rTup (rCons (rV 6) (rCons (rV 8) (rCons (rV 7) (rNil))))) (rV 2))) (rTup (rCons (rV 6) (rCons (rV 8) (rCons (rV 7) (rNil))))))))
    (sSeq (sSet 4 (rDctN [(rC (.str "all"), rC (.str "ready")), (rC (.str "ready"), rC (.str "all"))]))
    (sSeq (sSet 3 (rOp oAdd (rV 3) (rLc (iAny (rV 2)) [6, 7, 8] (gT [6, 7, 8]) (rTst (rOp (oInN true) (rTup (rCons (rOp oDGet (rV 4) (rV 6)) (rCons (rV 7) (rCons (rV 8) (rNil))))) (rV 2))) (rTup (rCons (rOp oDGet (rV 4) (rV 6)) (rCons (rV 7) (rCons (rV 8) (rNil))))))))
    (sRet (rCall sp__law_one_v2 [] (rCons (rV 0) (rCons (rV 3) (rNil)))))))
def T__law_odd_v3_5 : DS := sSeq (sSet 4 (rDctN [(rC (.str "all"), rC (.str "ready")), (rC (.str "ready"), rC (.str "all"))]))
    (sSeq (sSet 3 (rOp oAdd (rV 3) (rLc (iAny (rV 2)) [6, 7, 8] (gT [6, 7, 8]) (rTst (rOp (oInN true) (rTup (rCons (rOp oDGet (rV 4) (rV 6)) (rCons (rV 7) (rCons (rV 8) (rNil))))) (rV 2))) (rTup (rCons (rOp oDGet (rV 4) (rV 6)) (rCons (rV 7) (rCons (rV 8) (rNil))))))))
    (sRet (rCall sp__law_one_v2 [] (rCons (rV 0) (rCons (rV 3) (rNil))))))
def T__law_odd_v3_6 : DS := sSeq (sSet 3 (rOp oAdd (rV 3) (rLc (iAny (rV 2)) [6, 7, 8] (gT [6, 7, 8]) (rTst (rOp (oInN true) (rTup (rCons (rOp oDGet (rV 4) (rV 6)) (rCons (rV 7) (rCons (rV 8) (rNil))))) (rV 2))) (rTup (rCons (rOp oDGet (rV 4) (rV 6)) (rCons (rV 7) (rCons (rV 8) (rNil))))))))
    (sRet (rCall sp__law_one_v2 [] (rCons (rV 0) (rCons (rV 3) (rNil)))))
def T__law_odd_v3_7 : DS := sRet (rCall sp__law_one_v2 [] (rCons (rV 0) (rCons (rV 3) (rNil))))
theorem most_no {ws : List Ws} {os : List Od} {x : Str} : mstD x ∉ dems ws os := by
  unfold dems
  intro h
  rcases List.mem_append.mp h with h | h
  · obtain ⟨W, _, e⟩ := List.mem_map.mp h
    unfold lsD mstD at e
    injection e with e; injection e with e _; injection e with e
    revert e; decide +kernel
  · obtain ⟨o, _, e⟩ := List.mem_map.mp h
    unfold mstD odD at e
    injection e with e; injection e with _ e; injection e with _ e; cases e
theorem pu__law_odd_v3 : ∀ ds m Q PX, sp__law_odd_v3 ds m Q PX → rd__law_odd_v3 (dEnds Q PX) (dstart ["_law_well", "_law_wishes", "_law_laid", "_law_some", "_law_other", "_law_wish_here", "_law_word_here", "_law_one_here", "_law_two"] ds) m := by
  rintro ds m Q PX ⟨w, ws, os, ss, rfl, hp, h⟩
  have w5 := hp.few
  have o12 := hp.many
  have lw : (ws.map Ws.row).length = ws.length := List.length_map _
  have lo : (os.map odD).length = os.length := List.length_map _
  have hpt : ∀ d ∈ os.map odD, PT d := fun d hd => by
    obtain ⟨o, ho, rfl⟩ := List.mem_map.mp hd
    have := hp.ods o ho
    exact pt_od this.w (hp.nm this.a) (hp.nm this.b)
  obtain ⟨B, hB⟩ : ∃ B, B = [lsD "nosuchname", mstD "nosuchname", odD ("ready", "nosuchname", "notthisone")] := ⟨_, rfl⟩
  have lB : B.length = 3 := by rw [hB]; rfl
  walk_at "go"
  show T__law_odd_v3_2 (dEnds Q PX) [some (.adr w), some (.lst (ws.map Ws.row)), some (.lst (os.map odD)), some (.lst [lsD "nosuchname", mstD "nosuchname", odD ("ready", "nosuchname", "notthisone")]), none, none, none, none, none] m
  rw [← hB]
  walk_at "go"
  refine comp_onf ws Ws.row (fun W => lsD W.name) (fun W => decide (W.least = 0)) (by omega) trivial (fun W hm Kt Kf ht hf => ?_) ?_
  · walk_at "go"
    rw [if_neg (by decide)]
    cases e : decide (W.least = 0) with
    | true =>
      walk_at "go"
      exact ht e
    | false => exact hf e
  obtain ⟨A1, hA1⟩ : ∃ A, A = (ws.filter fun W => decide (W.least = 0)).map fun W => lsD W.name := ⟨_, rfl⟩
  have l1 : A1.length ≤ ws.length := by rw [hA1, List.length_map]; exact List.length_filter_le _ _
  rw [← hA1]
  walk_at "go"
  refine comp_on ws Ws.row (fun W => mstD W.name) (by omega) trivial (fun W hm Q q => ?_) ?_
  · walk_at "go"
    exact q
  obtain ⟨A2, hA2⟩ : ∃ A, A = ws.map fun W => mstD W.name := ⟨_, rfl⟩
  have l2 : A2.length = ws.length := by rw [hA2, List.length_map]
  rw [← hA2]
  walk_at "go"
  refine comp_onf os odD (fun o => odD (swO o)) (fun o => !memB (odD (swO o)) (os.map odD)) (by omega) trivial (fun o hm Kt Kf ht hf => ?_) ?_
  · have ho := hp.ods o hm
    have po : PT (odD (swO o)) := pt_od ho.w (hp.nm ho.b) (hp.nm ho.a)
    walk_at "go"
    refine ⟨shIn po hpt (by omega), ?_⟩
    rw [if_pos rfl]
    show (match !((os.map odD).any fun z => deq z (dat m (odD (swO o)))) with | true => _ | false => _)
    rw [any_mem po]
    cases e : !memB (odD (swO o)) (os.map odD) with
    | true =>
      walk_at "go"
      exact ht e
    | false => exact hf e
  obtain ⟨A3, hA3⟩ : ∃ A, A = (os.filter fun o => !memB (odD (swO o)) (os.map odD)).map fun o => odD (swO o) := ⟨_, rfl⟩
  have l3 : A3.length ≤ os.length := by rw [hA3, List.length_map]; exact List.length_filter_le _ _
  rw [← hA3]
  walk_at "go"
  have em : mergeD [] [((.inr (Str.ofString "all") : Key), D.str (Str.ofString "ready")), (.inr (Str.ofString "ready"), D.str (Str.ofString "all"))] = dWd := merge_nd _ [] (by show [(.inr "all" : Key), .inr "ready"].Nodup; decide)
  rw [em]
  refine comp_onf os odD (fun o => odD (otO o)) (fun o => !memB (odD (otO o)) (os.map odD)) (by omega) trivial (fun o hm Kt Kf ht hf => ?_) ?_
  · have ho := hp.ods o hm
    have po : PT (odD (otO o)) := pt_od (oth_ok _) (hp.nm ho.a) (hp.nm ho.b)
    have ev := dWd_get ho.w
    walk_at "go"
    rw [ev]
    walk_at "go"
    refine ⟨shIn po hpt (by omega), ?_⟩
    rw [if_pos rfl]
    show (match !((os.map odD).any fun z => deq z (dat m (odD (otO o)))) with | true => _ | false => _)
    rw [any_mem po]
    cases e : !memB (odD (otO o)) (os.map odD) with
    | true =>
      walk_at "go"
      rw [ev]
      walk_at "go"
      exact ht e
    | false => exact hf e
  obtain ⟨A4, hA4⟩ : ∃ A, A = (os.filter fun o => !memB (odD (otO o)) (os.map odD)).map fun o => odD (otO o) := ⟨_, rfl⟩
  have l4 : A4.length ≤ os.length := by rw [hA4, List.length_map]; exact List.length_filter_le _ _
  rw [← hA4]
  walk_at "go"
  refine ⟨w, _, _, rfl, .inl rfl, by simp only [List.length_append]; omega, by simp only [List.length_append]; omega, h.imp (fun d hd => ?_) fun d m' _ _ p => p⟩
  have nno : nmB "nosuchname" = false := by decide +kernel
  have tn : thD 4 (.str "nosuchname") := thD_txt _ _
  have tn2 : thD 4 (.str "notthisone") := thD_txt _ _
  rcases List.mem_append.mp hd with hd | hd
  · rcases List.mem_append.mp hd with hd | hd
    · rcases List.mem_append.mp hd with hd | hd
      · rcases List.mem_append.mp hd with hd | hd
        · rw [hB] at hd
          simp only [List.mem_cons, List.not_mem_nil, or_false] at hd
          rcases hd with rfl | rfl | rfl
          · refine ⟨⟨rfl, thD_tup (by simp) (by walk_at "th")⟩, fun z => ?_⟩
            obtain ⟨W, hW, _, e⟩ := ls_dem.mp z
            have := (hp.ok W hW).name
            rw [e, nno] at this; cases this
          · exact ⟨⟨rfl, thD_tup (by simp) (by walk_at "th")⟩, most_no⟩
          · refine ⟨⟨rfl, thD_tup (by simp) (by walk_at "th")⟩, fun z => ?_⟩
            have := hp.nm (hp.ods _ (od_dem.mp z)).a
            rw [nno] at this; cases this
        · rw [hA1] at hd
          obtain ⟨W, hW, rfl⟩ := List.mem_map.mp hd
          obtain ⟨h1, h2⟩ := List.mem_filter.mp hW
          refine ⟨pt_ls (hp.ok W h1).name, fun z => ?_⟩
          obtain ⟨V, hV, v0, e⟩ := ls_dem.mp z
          have hVW : V = W := by
            obtain ⟨i, hi⟩ := List.getElem?_of_mem hV
            obtain ⟨j, hj⟩ := List.getElem?_of_mem h1
            have i1 := (List.getElem?_eq_some_iff.mp hi).1
            have e1 : (ws.map Ws.name)[i]? = (ws.map Ws.name)[j]? := by rw [List.getElem?_map, List.getElem?_map, hi, hj]; show some V.name = some W.name; rw [e]
            have := (List.getElem?_inj (by rw [List.length_map]; exact i1) hp.nd).mp e1
            rw [this, hj] at hi
            injection hi with hi
            exact hi.symm
          have := of_decide_eq_true h2
          rw [hVW] at v0; omega
      · rw [hA2] at hd
        obtain ⟨W, hW, rfl⟩ := List.mem_map.mp hd
        have tW := thD_nm (n := 4) (hp.ok W hW).name
        exact ⟨⟨rfl, thD_tup (by simp) (by walk_at "th")⟩, most_no⟩
    · rw [hA3] at hd
      obtain ⟨o, ho, rfl⟩ := List.mem_map.mp hd
      obtain ⟨h1, h2⟩ := List.mem_filter.mp ho
      have hok := hp.ods o h1
      have po : PT (odD (swO o)) := pt_od hok.w (hp.nm hok.b) (hp.nm hok.a)
      refine ⟨po, fun z => ?_⟩
      rw [(memB_iff po.p fun d hd => (hpt d hd).p).mpr (List.mem_map.mpr ⟨_, od_dem.mp z, rfl⟩)] at h2
      cases h2
  · rw [hA4] at hd
    obtain ⟨o, ho, rfl⟩ := List.mem_map.mp hd
    obtain ⟨h1, h2⟩ := List.mem_filter.mp ho
    have hok := hp.ods o h1
    have po : PT (odD (otO o)) := pt_od (oth_ok _) (hp.nm hok.a) (hp.nm hok.b)
    refine ⟨po, fun z => ?_⟩
    rw [(memB_iff po.p fun d hd => (hpt d hd).p).mpr (List.mem_map.mpr ⟨_, od_dem.mp z, rfl⟩)] at h2
    cases h2
end DL

namespace DL
open PySem L2
local macro_rules | `(tactic| walk_at "dl") => `(tactic| ((conv => whnf); try dsimp only))
local macro_rules | `(tactic| walk_at "sd") => `(tactic| first | trivial | exact Nat.zero_le _ | assumption | decide | omega | exact len_line (by first | decide | omega | (simp; done) | (simp; omega)) | (simp; done) | (simp; omega) | exact ⟨by decide, by decide, by decide⟩ | exact .inl ⟨by decide, by decide⟩ | exact .inl ⟨by omega, by omega⟩ | exact wide_div (b := 64) (by decide) (by decide) (by decide) (by decide))
local macro_rules | `(tactic| walk_at "go") => `(tactic| ((conv => whnf); (try dsimp only); repeat ((with_reducible refine And.intro ?_ ?_); (focus (walk_at "sd")); (conv => whnf); (try dsimp only))))
local macro_rules | `(tactic| walk_at "th") => `(tactic| repeat' (first | assumption | exact thD_txt _ _ | exact thD_int | exact thD_non | exact thD_bl | (refine thD_mono _ _ _ ?_ (by assumption); decide) | refine List.forall_mem_cons.mpr (And.intro ?_ ?_) | exact List.forall_mem_nil _ | refine thD_tup (by simp) ?_ | refine thD_lst (by simp) ?_))
local macro_rules | `(tactic| walk_at "ln") => `(tactic| (intro ds m Q PX h; repeat (obtain ⟨_, h⟩ := h); subst_vars; rfl))
/-! ### eased to some demands: just these are left -/
theorem filter_sub : ∀ {l L : List D}, l.Sublist L → L.Nodup → (∀ d ∈ L, pur d = true) → L.filter (fun d => memB d l) = l
  | _, _, .slnil, _, _ => rfl
  | l, x :: L, .cons _ h, hn, hp => by
    obtain ⟨h1, h2⟩ := List.nodup_cons.mp hn
    have ih := filter_sub h h2 fun d hd => hp d (List.mem_cons_of_mem _ hd)
    have hx : memB x l = false := by
      cases e : memB x l with
      | false => rfl
      | true =>
        have := (memB_iff (hp x List.mem_cons_self) fun d hd => hp d (List.mem_cons_of_mem _ (h.subset hd))).mp e
        exact (h1 (h.subset this)).elim
    rw [List.filter_cons, if_neg (by rw [hx]; decide)]
    exact ih
  | x :: l, _ :: L, .cons₂ _ h, hn, hp => by
    obtain ⟨h1, h2⟩ := List.nodup_cons.mp hn
    have ih := filter_sub h h2 fun d hd => hp d (List.mem_cons_of_mem _ hd)
    have pl : ∀ d ∈ l, pur d = true := fun d hd => hp d (List.mem_cons_of_mem _ (h.subset hd))
    have px := hp x List.mem_cons_self
    have hx : memB x (x :: l) = true := (memB_iff px fun d hd => by rcases List.mem_cons.mp hd with rfl | hd; exact px; exact pl d hd).mpr List.mem_cons_self
    rw [List.filter_cons, if_pos hx]
    congr 1
    refine Eq.trans (List.filter_congr fun d hd => ?_) ih
    have pd := hp d (List.mem_cons_of_mem _ hd)
    have hne : d ≠ x := fun z => h1 (z ▸ hd)
    rw [Bool.eq_iff_iff, memB_iff pd (fun d hd => by rcases List.mem_cons.mp hd with rfl | hd; exact px; exact pl d hd), memB_iff pd pl]
    simp [hne]
theorem ls_inj {a b : Str} (e : lsD a = lsD b) : a = b := by
  unfold lsD at e
  injection e with e; injection e with _ e; injection e with e _; injection e
theorem PnOk.dnd {ws : List Ws} {os : List Od} {ss : List Str} (h : PnOk ws os ss) : (dems ws os).Nodup := by
  unfold dems
  refine List.nodup_append.mpr ⟨?_, List.pairwise_map.mpr (h.ondd.imp fun z e => z (odD_inj e)), fun a ha b hb z => ?_⟩
  · have : (ws.map Ws.name).Nodup := h.nd
    have h1 : ((ws.filter fun W => decide (0 < W.least)).map Ws.name).Nodup := List.Sublist.nodup (List.Sublist.map _ List.filter_sublist) this
    rw [show ((ws.filter fun W => decide (0 < W.least)).map fun W => lsD W.name) = ((ws.filter fun W => decide (0 < W.least)).map Ws.name).map lsD from by rw [List.map_map]; rfl]
    exact List.pairwise_map.mpr (h1.imp fun z e => z (ls_inj e))
  · obtain ⟨W, _, rfl⟩ := List.mem_map.mp ha
    obtain ⟨o, _, e⟩ := List.mem_map.mp hb
    rw [← z] at e
    unfold lsD odD at e
    injection e with e; injection e with _ e; injection e with _ e; cases e
theorem dems_eased {ws : List Ws} {os : List Od} (ks : List D) (h0 : ∀ W ∈ ws, 0 ≤ W.least) : dems (ws.map (easeW ks)) (easeO ks os) = (dems ws os).filter fun d => memB d ks := by
  unfold dems
  rw [List.filter_append]
  congr 1
  · induction ws with
    | nil => rfl
    | cons W ws ih =>
      have ih := ih fun V hV => h0 V (List.mem_cons_of_mem _ hV)
      have w0 := h0 W List.mem_cons_self
      rw [List.map_cons, List.filter_cons, List.filter_cons]
      unfold easeW
      by_cases hm : memB (lsD W.name) ks = true
      · rw [if_pos hm]
        by_cases hl : 0 < W.least
        · rw [if_pos (decide_eq_true hl), if_pos (decide_eq_true hl), List.map_cons, List.map_cons, List.filter_cons, if_pos hm]
          congr 1
        · rw [if_neg (by rw [decide_eq_false hl]; decide), if_neg (by rw [decide_eq_false hl]; decide)]
          exact ih
      · rw [if_neg hm, if_neg (by show ¬ decide ((0 : Int) < 0) = true; decide)]
        by_cases hl : 0 < W.least
        · rw [if_pos (decide_eq_true hl), List.map_cons, List.filter_cons, if_neg hm]
          exact ih
        · rw [if_neg (by rw [decide_eq_false hl]; decide)]
          exact ih
  · unfold easeO
    rw [List.filter_map]; rfl
theorem ease_congr {ks ls : List D} (h : ∀ x, PT x → memB x ks = memB x ls) {ws : List Ws} {os : List Od} {ss : List Str} (hp : PnOk ws os ss) : ws.map (easeW ks) = ws.map (easeW ls) ∧ easeO ks os = easeO ls os := by
  constructor
  · refine List.map_congr_left fun W hW => ?_
    unfold easeW
    rw [h _ (pt_ls (hp.ok W hW).name)]
  · refine List.filter_congr fun o ho => ?_
    have := hp.ods o ho
    exact h _ (pt_od this.w (hp.nm this.a) (hp.nm this.b))
theorem mem_congr {ks ls : List D} (hk : ∀ k ∈ ks, PT k) (hl : ∀ k ∈ ls, PT k) (h : ∀ x, x ∈ ks ↔ x ∈ ls) : ∀ x, PT x → memB x ks = memB x ls := fun x hx => by
  rw [Bool.eq_iff_iff, memB_iff hx.p fun d hd => (hk d hd).p, memB_iff hx.p fun d hd => (hl d hd).p]
  exact h x
theorem plan_okK {m : Mu} {q : Addr} {KK : DK} {KX : DX} {ws : List Ws} {os : List Od} {ss : List Str} (h : PnOk ws os ss) (k : KK .non (mset m q (.ins "Plan" (pFs (.tup (ws.map Ws.d)) (.tup (os.map odD)) (.tup (ss.map .str)))))) :
    sp_Plan___init__ [.adr q, .lst (ws.map Ws.d), .tup (os.map odD), .tup (ss.map .str)] (mset m q (.ins "Plan" [])) KK KX := by
  refine ⟨q, ws, _, _, rfl, mset_same, by have := h.few; omega, fun W hm => (h.ok W hm).name, thg_of h.th.1, thg_of h.th.2, ?_⟩
  rw [decide_eq_true h.few, h.planB, mset_mset]
  exact k
end DL

namespace Lw
open PySem L2 DL
local macro_rules | `(tactic| walk_at "dl") => `(tactic| ((conv => whnf); try dsimp only))
local macro_rules | `(tactic| walk_at "sd") => `(tactic| first | trivial | exact Nat.zero_le _ | assumption | decide | omega | exact len_line (by first | decide | omega | (simp; done) | (simp; omega)) | (simp; done) | (simp; omega) | exact ⟨by decide, by decide, by decide⟩ | exact .inl ⟨by decide, by decide⟩ | exact .inl ⟨by omega, by omega⟩ | exact wide_div (b := 64) (by decide) (by decide) (by decide) (by decide))
local macro_rules | `(tactic| walk_at "go") => `(tactic| ((conv => whnf); (try dsimp only); repeat ((with_reducible refine And.intro ?_ ?_); (focus (walk_at "sd")); (conv => whnf); (try dsimp only))))
local macro_rules | `(tactic| walk_at "th") => `(tactic| repeat' (first | assumption | exact thD_txt _ _ | exact thD_int | exact thD_non | exact thD_bl | (refine thD_mono _ _ _ ?_ (by assumption); decide) | refine List.forall_mem_cons.mpr (And.intro ?_ ?_) | exact List.forall_mem_nil _ | refine thD_tup (by simp) ?_ | refine thD_lst (by simp) ?_))
local macro_rules | `(tactic| walk_at "ln") => `(tactic| (intro ds m Q PX h; repeat (obtain ⟨_, h⟩ := h); subst_vars; rfl))
def top (i : Nat) : Stmt := PySem.Challenge.pw_stoodin_k38_plans_eased.main.body.getD i (.Pass ⟨0, 0, 0, 0⟩)
abbrev s_is_whole : Stmt := top 10
abbrev N_is_whole : List Str := ["thing"]
abbrev s_is_name : Stmt := top 11
abbrev N_is_name : List Str := ["thing", "sign"]
abbrev s_are_unlike : Stmt := top 12
abbrev N_are_unlike : List Str := ["some", "at", "one"]
abbrev s_is_one : Stmt := top 16
abbrev N_is_one : List Str := ["numbers", "number"]
abbrev s_is_plain : Stmt := top 17
abbrev N_is_plain : List Str := ["look", "word", "rest", "number"]
abbrev s_is_look : Stmt := top 18
abbrev N_is_look : List Str := ["look"]
abbrev s_are_looks : Stmt := top 23
abbrev N_are_looks : List Str := ["looks", "look"]
abbrev s_is_count : Stmt := top 25
abbrev N_is_count : List Str := ["thing", "least"]
abbrev s_Wish___init__ : Stmt := clsSt (top 26) 0
abbrev N_Wish___init__ : List Str := ["self", "part", "deed", "looks", "name", "least", "most"]
abbrev s_is_order : Stmt := top 32
abbrev N_is_order : List Str := ["row", "names", "word", "one", "other"]
abbrev s_are_orders : Stmt := top 33
abbrev N_are_orders : List Str := ["orders", "names", "row"]
abbrev s_are_strict : Stmt := top 34
abbrev N_are_strict : List Str := ["strict", "part"]
abbrev s_Plan___init__ : Stmt := clsSt (top 35) 0
abbrev N_Plan___init__ : List Str := ["self", "wishes", "orders", "strict", "names", "wish"]
abbrev s_Plan_wishes : Stmt := clsSt (top 35) 3
abbrev N_Plan_wishes : List Str := ["self"]
abbrev s_demands : Stmt := top 37
abbrev N_demands : List Str := ["plan", "wish"]
abbrev s_eased_wish : Stmt := top 38
abbrev N_eased_wish : List Str := ["wish", "kept", "least"]
abbrev s_eased : Stmt := top 39
abbrev N_eased : List Str := ["plan", "kept", "known", "orders", "order", "wish", "demand"]
abbrev s__law_cell_at : Stmt := top 41
abbrev N__law_cell_at : List Str := ["_law_script", "_law_k"]
abbrev s__law_spring : Stmt := top 42
abbrev N__law_spring : List Str := ["_law_cell"]
abbrev s__law_draw : Stmt := top 43
abbrev N__law_draw : List Str := ["_law_well", "_law_many", "_law_number", "_law_digit"]
abbrev s__law_one : Stmt := top 44
abbrev N__law_one : List Str := ["_law_well", "_law_some"]
abbrev s__law_word : Stmt := top 45
abbrev N__law_word : List Str := ["_law_well", "_law_size", "_law_letters", "_law_k"]
abbrev s__law_look : Stmt := top 46
abbrev N__law_look : List Str := ["_law_well", "_law_base", "_law_way", "_law_low", "_law_some"]
abbrev s__law_wish : Stmt := top 47
abbrev N__law_wish : List Str := ["_law_well", "_law_base", "_law_last", "_law_part", "_law_deed", "_law_few", "_law_top", "_law_looks"]
abbrev s__law_orders : Stmt := top 48
abbrev N__law_orders : List Str := ["_law_well", "_law_names", "_law_found", "_law_k", "_law_one_here", "_law_two", "_law_order"]
abbrev s__law_due : Stmt := top 49
abbrev N__law_due : List Str := ["_law_wishes", "_law_laid", "_law_wish_here"]
abbrev s__law_row : Stmt := top 50
abbrev N__law_row : List Str := ["_law_wish_here"]
abbrev s__law_stays : Stmt := top 51
abbrev N__law_stays : List Str := ["_law_trial", "_law_wishes", "_law_laid", "_law_firm", "_law_wish_here"]
abbrev s__law_refused : Stmt := top 52
abbrev N__law_refused : List Str := ["_law_trial", "_law_some", "e"]
abbrev s__law_odd : Stmt := top 53
abbrev N__law_odd : List Str := ["_law_well", "_law_wishes", "_law_laid", "_law_some", "_law_other", "_law_wish_here", "_law_word_here", "_law_one_here", "_law_two"]
abbrev s_law : Stmt := top 54
abbrev N_law : List Str := ["_law_script", "_law_well", "_law_size", "_law_far", "_law_base", "_law_wishes", "_law_laid", "_law_firm", "_law_some", "_law_one_here", "_law_trial", "_law_due_here", "_law_cell", "_law_way", "_law_held", "_law_handed", "_law_copied", "_law_found", "_law_less", "_law_at", "_law_last", "_law_wish_here", "_law_demand", "_law_order"]
abbrev s_TrialError___init__ : Stmt := clsSt (top 2) 0
def rd_law : DS :=
    sSeq (sSet 1 (rCall sp__law_spring [] (rCons (rCall sp__law_cell_at [] (rCons (rV 0) (rCons (rC (.int 0)) (rNil)))) (rNil))))
    (sSeq (sSet 2 (rCall sp__law_draw_v2 [] (rCons (rV 1) (rCons (rC (.int 6)) (rNil)))))
    (sSeq (sSet 3 (rCall sp__law_draw_v2 [] (rCons (rV 1) (rCons (rC (.int 2)) (rNil)))))
    (sSeq (sSet 4 (rOp oIx (rLst (rCons (rOp oSub (rCall sp__law_draw_v2 [] (rCons (rV 1) (rCons (rC (.int 9)) (rNil)))) (rC (.int 4))) (rCons (rOp oSub (rCall sp__law_draw_v2 [] (rCons (rV 1) (rCons (rOp oMul (rC (.int 2)) (rOp oPow (rC (.int 10)) (rC (.int 40)))) (rNil)))) (rOp oPow (rC (.int 10)) (rC (.int 40)))) (rNil)))) (rV 3)))
    (sSeq (sSet 5 (rLc (iAny (rSl (rLst (rCons (rC (.str "m")) (rCons (rC (.str "x")) (rCons (rC (.str "c")) (rCons (rC (.str "a")) (rCons (rC (.str "z")) (rNil))))))) rNoP (rPart (rV 2)))) [20] (gN 20) (qYes) (rCall sp__law_wish_v2 [] (rCons (rV 1) (rCons (rV 4) (rCons (rV 20) (rNil)))))))
    (sSeq (sSet 1 (rCall sp__law_spring [] (rCons (rCall sp__law_cell_at [] (rCons (rV 0) (rCons (rC (.int 1)) (rNil)))) (rNil))))
    (sSeq (sSet 6 (rCall sp__law_orders [] (rCons (rV 1) (rCons (rLc (iAny (rV 5)) [21] (gN 21) (qYes) (rOp oIx (rV 21) (rC (.int 3)))) (rNil)))))
    (sSeq (sSet 7 (rCall sp__law_one_v2 [] (rCons (rV 1) (rCons (rLst (rCons (rTup (rNil)) (rCons (rTup (rCons (rC (.str "shop")) (rNil))) (rCons (rTup (rCons (rC (.str "yard")) (rCons (rC (.str "till")) (rNil)))) (rCons (rTup (rCons (rC (.str "till")) (rCons (rC (.str "shop")) (rCons (rC (.str "yard")) (rNil))))) (rNil)))))) (rNil)))))
    (sSeq (sSet 8 (rLstM (rNil)))
    (sSeq (sFor (iAny (rV 5)) (gN 9) (sExpr (rApp (rV 8) (rMk "Wish" sp_Wish___init__ 3 3 (fun ds es => gI [0, 1, 2, 3, 4, 5, 6] (ds ++ es) [.non, .non]) (rCons (rOp oIx (rV 9) (rC (.int 0))) (rCons (rOp oIx (rV 9) (rC (.int 1))) (rCons (rOp oIx (rV 9) (rC (.int 2))) (rNil)))) (rCons (rOp oIx (rV 9) (rC (.int 3))) (rCons (rOp oIx (rV 9) (rC (.int 4))) (rCons (rOp oIx (rV 9) (rC (.int 5))) (rNil))))))))
    (sSeq (sSet 10 (rMk "Plan" sp_Plan___init__ 1 2 (gI [0, 1, 2, 3]) (rCons (rSeal (rV 8)) (rNil)) (rCons (rCB cTup (rCons (rV 6) (rNil))) (rCons (rV 7) (rNil)))))
    (sSeq (sSet 11 (rCall sp__law_due_v3 [] (rCons (rV 5) (rCons (rV 6) (rNil)))))
    (sSeq (sIf (rOr (rTst (rOp oNe (rCall sp_demands [] (rCons (rV 10) (rNil))) (rV 11))) (rTst (rOp oNe (rCallK sp_demands 0 1 (gI [0]) rNil (rCons (rV 10) (rNil))) (rV 11)))) (sRet (rC (.bl false))) (sNext))
    (sSeq (sFor (iAny (rOp oAdd (rLst (rCons (rCall sp__law_cell_at [] (rCons (rV 0) (rCons (rC (.int 2)) (rNil)))) (rNil))) (rSl (rV 0) (rPart (rC (.int 3))) (rPart (rC (.int 6)))))) (gN 12) (sSeq (sSet 1 (rCall sp__law_spring [] (rCons (rV 12) (rNil))))
    (sSeq (sSet 13 (rCall sp__law_draw_v2 [] (rCons (rV 1) (rCons (rC (.int 3)) (rNil)))))
    (sSeq (sSet 14 (rLc (iAny (rV 11)) [22] (gN 22) (rTst (rOp oEq (rCall sp__law_draw_v2 [] (rCons (rV 1) (rCons (rC (.int 2)) (rNil)))) (rC (.int 1)))) (rV 22)))
    (sSeq (sSet 15 (rOp oIx (rLst (rCons (rV 14) (rCons (rRev (rV 14)) (rCons (rOp oAdd (rV 14) (rSl (rV 14) rNoP (rPart (rC (.int 1))))) (rNil))))) (rV 13)))
    (sSeq (sSet 16 (rCB cLst (rCons (rV 15) (rNil))))
    (sSeq (sSet 17 (rCall sp_eased [] (rCons (rV 10) (rCons (rV 15) (rNil)))))
    (sSeq (sSet 18 (rLc (iAny (rV 5)) [21] (gN 21) (qYes) (rOp oAdd (rSl (rV 21) rNoP (rPart (rC (.int 4)))) (rTup (rCons (rOp oMul (rOp oIx (rV 21) (rC (.int 4))) (rCB cInt (rCons (rOp (oInN false) (rTup (rCons (rC (.str "least")) (rCons (rOp oIx (rV 21) (rC (.int 3))) (rNil)))) (rV 14)) (rNil)))) (rCons (rOp oIx (rV 21) (rC (.int 5))) (rNil)))))))
    (sSeq (sSet 8 (rLcM (iAny (rV 6)) [23] (gN 23) (rTst (rOp (oInN false) (rV 23) (rV 14))) (rV 23)))
    (sSeq (sIf (rOr (rNot (rTru (rCall sp__law_stays [] (rCons (rV 17) (rCons (rV 18) (rCons (rSeal (rV 8)) (rCons (rV 7) (rNil)))))))) (rTst (rOp oNe (rV 15) (rV 16)))) (sRet (rC (.bl false))) (sNext))
    (sSeq (sSet 19 (rCall sp__law_draw_v2 [] (rCons (rV 1) (rCons (rOp oAdd (rCB cLen (rCons (rV 14) (rNil))) (rC (.int 1))) (rNil)))))
    (sSeq (sIf (rNot (rTru (rCall sp__law_refused_v6 [] (rCons (rV 10) (rCons (rOp oAdd (rOp oAdd (rSl (rV 14) rNoP (rPart (rV 19))) (rLst (rCons (rCall sp__law_odd_v3 [] (rCons (rV 1) (rCons (rV 5) (rCons (rV 6) (rNil))))) (rNil)))) (rSl (rV 14) (rPart (rV 19)) rNoP)) (rNil)))))) (sRet (rC (.bl false))) (sNext))
    (sIf (rOr (rNot (rTru (rCall sp__law_stays [] (rCons (rV 10) (rCons (rV 5) (rCons (rV 6) (rCons (rV 7) (rNil)))))))) (rTst (rOp oNe (rCall sp_demands [] (rCons (rCallK sp_eased 0 2 (gI [1, 0]) rNil (rCons (rV 14) (rCons (rV 10) (rNil)))) (rNil))) (rV 14)))) (sRet (rC (.bl false))) (sNext))))))))))))))
    (sRet (rC (.bl true))))))))))))))))
def T_law_2 : DS := sSeq (sSet 2 (rCall sp__law_draw_v2 [] (rCons (rV 1) (rCons (rC (.int 6)) (rNil)))))
    (sSeq (sSet 3 (rCall sp__law_draw_v2 [] (rCons (rV 1) (rCons (rC (.int 2)) (rNil)))))
    (sSeq (sSet 4 (rOp oIx (rLst (rCons (rOp oSub (rCall sp__law_draw_v2 [] (rCons (rV 1) (rCons (rC (.int 9)) (rNil)))) (rC (.int 4))) (rCons (rOp oSub (rCall sp__law_draw_v2 [] (rCons (rV 1) (rCons (rOp oMul (rC (.int 2)) (rOp oPow (rC (.int 10)) (rC (.int 40)))) (rNil)))) (rOp oPow (rC (.int 10)) (rC (.int 40)))) (rNil)))) (rV 3)))
    (sSeq (sSet 5 (rLc (iAny (rSl (rLst (rCons (rC (.str "m")) (rCons (rC (.str "x")) (rCons (rC (.str "c")) (rCons (rC (.str "a")) (rCons (rC (.str "z")) (rNil))))))) rNoP (rPart (rV 2)))) [20] (gN 20) (qYes) (rCall sp__law_wish_v2 [] (rCons (rV 1) (rCons (rV 4) (rCons (rV 20) (rNil)))))))
    (sSeq (sSet 1 (rCall sp__law_spring [] (rCons (rCall sp__law_cell_at [] (rCons (rV 0) (rCons (rC (.int 1)) (rNil)))) (rNil))))
    (sSeq (sSet 6 (rCall sp__law_orders [] (rCons (rV 1) (rCons (rLc (iAny (rV 5)) [21] (gN 21) (qYes) (rOp oIx (rV 21) (rC (.int 3)))) (rNil)))))
    (sSeq (sSet 7 (rCall sp__law_one_v2 [] (rCons (rV 1) (rCons (rLst (rCons (rTup (rNil)) (rCons (rTup (rCons (rC (.str "shop")) (rNil))) (rCons (rTup (rCons (rC (.str "yard")) (rCons (rC (.str "till")) (rNil)))) (rCons (rTup (rCons (rC (.str "till")) (rCons (rC (.str "shop")) (rCons (rC (.str "yard")) (rNil))))) (rNil)))))) (rNil)))))
    (sSeq (sSet 8 (rLstM (rNil)))
    (sSeq (sFor (iAny (rV 5)) (gN 9) (sExpr (rApp (rV 8) (rMk "Wish" sp_Wish___init__ 3 3 (fun ds es => gI [0, 1, 2, 3, 4, 5, 6] (ds ++ es) [.non, .non]) (rCons (rOp oIx (rV 9) (rC (.int 0))) (rCons (rOp oIx (rV 9) (rC (.int 1))) (rCons (rOp oIx (rV 9) (rC (.int 2))) (rNil)))) (rCons (rOp oIx (rV 9) (rC (.int 3))) (rCons (rOp oIx (rV 9) (rC (.int 4))) (rCons (rOp oIx (rV 9) (rC (.int 5))) (rNil))))))))
    (sSeq (sSet 10 (rMk "Plan" sp_Plan___init__ 1 2 (gI [0, 1, 2, 3]) (rCons (rSeal (rV 8)) (rNil)) (rCons (rCB cTup (rCons (rV 6) (rNil))) (rCons (rV 7) (rNil)))))
    (sSeq (sSet 11 (rCall sp__law_due_v3 [] (rCons (rV 5) (rCons (rV 6) (rNil)))))
    (sSeq (sIf (rOr (rTst (rOp oNe (rCall sp_demands [] (rCons (rV 10) (rNil))) (rV 11))) (rTst (rOp oNe (rCallK sp_demands 0 1 (gI [0]) rNil (rCons (rV 10) (rNil))) (rV 11)))) (sRet (rC (.bl false))) (sNext))
    (sSeq (sFor (iAny (rOp oAdd (rLst (rCons (rCall sp__law_cell_at [] (rCons (rV 0) (rCons (rC (.int 2)) (rNil)))) (rNil))) (rSl (rV 0) (rPart (rC (.int 3))) (rPart (rC (.int 6)))))) (gN 12) (sSeq (sSet 1 (rCall sp__law_spring [] (rCons (rV 12) (rNil))))
    (sSeq (sSet 13 (rCall sp__law_draw_v2 [] (rCons (rV 1) (rCons (rC (.int 3)) (rNil)))))
    (sSeq (sSet 14 (rLc (iAny (rV 11)) [22] (gN 22) (rTst (rOp oEq (rCall sp__law_draw_v2 [] (rCons (rV 1) (rCons (rC (.int 2)) (rNil)))) (rC (.int 1)))) (rV 22)))
    (sSeq (sSet 15 (rOp oIx (rLst (rCons (rV 14) (rCons (rRev (rV 14)) (rCons (rOp oAdd (rV 14) (rSl (rV 14) rNoP (rPart (rC (.int 1))))) (rNil))))) (rV 13)))
    (sSeq (sSet 16 (rCB cLst (rCons (rV 15) (rNil))))
    (sSeq (sSet 17 (rCall sp_eased [] (rCons (rV 10) (rCons (rV 15) (rNil)))))
    (sSeq (sSet 18 (rLc (iAny (rV 5)) [21] (gN 21) (qYes) (rOp oAdd (rSl (rV 21) rNoP (rPart (rC (.int 4)))) (rTup (rCons (rOp oMul (rOp oIx (rV 21) (rC (.int 4))) (rCB cInt (rCons (rOp (oInN false) (rTup (rCons (rC (.str "least")) (rCons (rOp oIx (rV 21) (rC (.int 3))) (rNil)))) (rV 14)) (rNil)))) (rCons (rOp oIx (rV 21) (rC (.int 5))) (rNil)))))))
    (sSeq (sSet 8 (rLcM (iAny (rV 6)) [23] (gN 23) (rTst (rOp (oInN false) (rV 23) (rV 14))) (rV 23)))
    (sSeq (sIf (rOr (rNot (rTru (rCall sp__law_stays [] (rCons (rV 17) (rCons (rV 18) (rCons (rSeal (rV 8)) (rCons (rV 7) (rNil)))))))) (rTst (rOp oNe (rV 15) (rV 16)))) (sRet (rC (.bl false))) (sNext))
    (sSeq (sSet 19 (rCall sp__law_draw_v2 [] (rCons (rV 1) (rCons (rOp oAdd (rCB cLen (rCons (rV 14) (rNil))) (rC (.int 1))) (rNil)))))
    (sSeq (sIf (rNot (rTru (rCall sp__law_refused_v6 [] (rCons (rV 10) (rCons (rOp oAdd (rOp oAdd (rSl (rV 14) rNoP (rPart (rV 19))) (rLst (rCons (rCall sp__law_odd_v3 [] (rCons (rV 1) (rCons (rV 5) (rCons (rV 6) (rNil))))) (rNil)))) (rSl (rV 14) (rPart (rV 19)) rNoP)) (rNil)))))) (sRet (rC (.bl false))) (sNext))
    (sIf (rOr (rNot (rTru (rCall sp__law_stays [] (rCons (rV 10) (rCons (rV 5) (rCons (rV 6) (rCons (rV 7) (rNil)))))))) (rTst (rOp oNe (rCall sp_demands [] (rCons (rCallK sp_eased 0 2 (gI [1, 0]) rNil (rCons (rV 14) (rCons (rV 10) (rNil)))) (rNil))) (rV 14)))) (sRet (rC (.bl false))) (sNext))))))))))))))
    (sRet (rC (.bl true)))))))))))))))
def T_law_3 : DS := sSeq (sSet 3 (rCall sp__law_draw_v2 [] (rCons (rV 1) (rCons (rC (.int 2)) (rNil)))))
    (sSeq (sSet 4 (rOp oIx (rLst (rCons (rOp oSub (rCall sp__law_draw_v2 [] (rCons (rV 1) (rCons (rC (.int 9)) (rNil)))) (rC (.int 4))) (rCons (rOp oSub (rCall sp__law_draw_v2 [] (rCons (rV 1) (rCons (rOp oMul (rC (.int 2)) (rOp oPow (rC (.int 10)) (rC (.int 40)))) (rNil)))) (rOp oPow (rC (.int 10)) (rC (.int 40)))) (rNil)))) (rV 3)))
    (sSeq (sSet 5 (rLc (iAny (rSl (rLst (rCons (rC (.str "m")) (rCons (rC (.str "x")) (rCons (rC (.str "c")) (rCons (rC (.str "a")) (rCons (rC (.str "z")) (rNil))))))) rNoP (rPart (rV 2)))) [20] (gN 20) (qYes) (rCall sp__law_wish_v2 [] (rCons (rV 1) (rCons (rV 4) (rCons (rV 20) (rNil)))))))
    (sSeq (sSet 1 (rCall sp__law_spring [] (rCons (rCall sp__law_cell_at [] (rCons (rV 0) (rCons (rC (.int 1)) (rNil)))) (rNil))))
    (sSeq (sSet 6 (rCall sp__law_orders [] (rCons (rV 1) (rCons (rLc (iAny (rV 5)) [21] (gN 21) (qYes) (rOp oIx (rV 21) (rC (.int 3)))) (rNil)))))
    (sSeq (sSet 7 (rCall sp__law_one_v2 [] (rCons (rV 1) (rCons (rLst (rCons (rTup (rNil)) (rCons (rTup (rCons (rC (.str "shop")) (rNil))) (rCons (rTup (rCons (rC (.str "yard")) (rCons (rC (.str "till")) (rNil)))) (rCons (rTup (rCons (rC (.str "till")) (rCons (rC (.str "shop")) (rCons (rC (.str "yard")) (rNil))))) (rNil)))))) (rNil)))))
    (sSeq (sSet 8 (rLstM (rNil)))
    (sSeq (sFor (iAny (rV 5)) (gN 9) (sExpr (rApp (rV 8) (rMk "Wish" sp_Wish___init__ 3 3 (fun ds es => gI [0, 1, 2, 3, 4, 5, 6] (ds ++ es) [.non, .non]) (rCons (rOp oIx (rV 9) (rC (.int 0))) (rCons (rOp oIx (rV 9) (rC (.int 1))) (rCons (rOp oIx (rV 9) (rC (.int 2))) (rNil)))) (rCons (rOp oIx (rV 9) (rC (.int 3))) (rCons (rOp oIx (rV 9) (rC (.int 4))) (rCons (rOp oIx (rV 9) (rC (.int 5))) (rNil))))))))
    (sSeq (sSet 10 (rMk "Plan" sp_Plan___init__ 1 2 (gI [0, 1, 2, 3]) (rCons (rSeal (rV 8)) (rNil)) (rCons (rCB cTup (rCons (rV 6) (rNil))) (rCons (rV 7) (rNil)))))
    (sSeq (sSet 11 (rCall sp__law_due_v3 [] (rCons (rV 5) (rCons (rV 6) (rNil)))))
    (sSeq (sIf (rOr (rTst (rOp oNe (rCall sp_demands [] (rCons (rV 10) (rNil))) (rV 11))) (rTst (rOp oNe (rCallK sp_demands 0 1 (gI [0]) rNil (rCons (rV 10) (rNil))) (rV 11)))) (sRet (rC (.bl false))) (sNext))
    (sSeq (sFor (iAny (rOp oAdd (rLst (rCons (rCall sp__law_cell_at [] (rCons (rV 0) (rCons (rC (.int 2)) (rNil)))) (rNil))) (rSl (rV 0) (rPart (rC (.int 3))) (rPart (rC (.int 6)))))) (gN 12) (sSeq (sSet 1 (rCall sp__law_spring [] (rCons (rV 12) (rNil))))
    (sSeq (sSet 13 (rCall sp__law_draw_v2 [] (rCons (rV 1) (rCons (rC (.int 3)) (rNil)))))
    (sSeq (sSet 14 (rLc (iAny (rV 11)) [22] (gN 22) (rTst (rOp oEq (rCall sp__law_draw_v2 [] (rCons (rV 1) (rCons (rC (.int 2)) (rNil)))) (rC (.int 1)))) (rV 22)))
    (sSeq (sSet 15 (rOp oIx (rLst (rCons (rV 14) (rCons (rRev (rV 14)) (rCons (rOp oAdd (rV 14) (rSl (rV 14) rNoP (rPart (rC (.int 1))))) (rNil))))) (rV 13)))
    (sSeq (sSet 16 (rCB cLst (rCons (rV 15) (rNil))))
    (sSeq (sSet 17 (rCall sp_eased [] (rCons (rV 10) (rCons (rV 15) (rNil)))))
    (sSeq (sSet 18 (rLc (iAny (rV 5)) [21] (gN 21) (qYes) (rOp oAdd (rSl (rV 21) rNoP (rPart (rC (.int 4)))) (rTup (rCons (rOp oMul (rOp oIx (rV 21) (rC (.int 4))) (rCB cInt (rCons (rOp (oInN false) (rTup (rCons (rC (.str "least")) (rCons (rOp oIx (rV 21) (rC (.int 3))) (rNil)))) (rV 14)) (rNil)))) (rCons (rOp oIx (rV 21) (rC (.int 5))) (rNil)))))))
    (sSeq (sSet 8 (rLcM (iAny (rV 6)) [23] (gN 23) (rTst (rOp (oInN false) (rV 23) (rV 14))) (rV 23)))
    (sSeq (sIf (rOr (rNot (rTru (rCall sp__law_stays [] (rCons (rV 17) (rCons (rV 18) (rCons (rSeal (rV 8)) (rCons (rV 7) (rNil)))))))) (rTst (rOp oNe (rV 15) (rV 16)))) (sRet (rC (.bl false))) (sNext))
    (sSeq (sSet 19 (rCall sp__law_draw_v2 [] (rCons (rV 1) (rCons (rOp oAdd (rCB cLen (rCons (rV 14) (rNil))) (rC (.int 1))) (rNil)))))
    (sSeq (sIf (rNot (rTru (rCall sp__law_refused_v6 [] (rCons (rV 10) (rCons (rOp oAdd (rOp oAdd (rSl (rV 14) rNoP (rPart (rV 19))) (rLst (rCons (rCall sp__law_odd_v3 [] (rCons (rV 1) (rCons (rV 5) (rCons (rV 6) (rNil))))) (rNil)))) (rSl (rV 14) (rPart (rV 19)) rNoP)) (rNil)))))) (sRet (rC (.bl false))) (sNext))
    (sIf (rOr (rNot (rTru (rCall sp__law_stays [] (rCons (rV 10) (rCons (rV 5) (rCons (rV 6) (rCons (rV 7) (rNil)))))))) (rTst (rOp oNe (rCall sp_demands [] (rCons (rCallK sp_eased 0 2 (gI [1, 0]) rNil (rCons (rV 14) (rCons (rV 10) (rNil)))) (rNil))) (rV 14)))) (sRet (rC (.bl false))) (sNext))))))))))))))
    (sRet (rC (.bl true))))))))))))))
def T_law_4 : DS := sSeq (sSet 4 (rOp oIx (rLst (rCons (rOp oSub (rCall sp__law_draw_v2 [] (rCons (rV 1) (rCons (rC (.int 9)) (rNil)))) (rC (.int 4))) (rCons (rOp oSub (rCall sp__law_draw_v2 [] (rCons (rV 1) (rCons (rOp oMul (rC (.int 2)) (rOp oPow (rC (.int 10)) (rC (.int 40)))) (rNil)))) (rOp oPow (rC (.int 10)) (rC (.int 40)))) (rNil)))) (rV 3)))
    (sSeq (sSet 5 (rLc (iAny (rSl (rLst (rCons (rC (.str "m")) (rCons (rC (.str "x")) (rCons (rC (.str "c")) (rCons (rC (.str "a")) (rCons (rC (.str "z")) (rNil))))))) rNoP (rPart (rV 2)))) [20] (gN 20) (qYes) (rCall sp__law_wish_v2 [] (rCons (rV 1) (rCons (rV 4) (rCons (rV 20) (rNil)))))))
    (sSeq (sSet 1 (rCall sp__law_spring [] (rCons (rCall sp__law_cell_at [] (rCons (rV 0) (rCons (rC (.int 1)) (rNil)))) (rNil))))
    (sSeq (sSet 6 (rCall sp__law_orders [] (rCons (rV 1) (rCons (rLc (iAny (rV 5)) [21] (gN 21) (qYes) (rOp oIx (rV 21) (rC (.int 3)))) (rNil)))))
    (sSeq (sSet 7 (rCall sp__law_one_v2 [] (rCons (rV 1) (rCons (rLst (rCons (rTup (rNil)) (rCons (rTup (rCons (rC (.str "shop")) (rNil))) (rCons (rTup (rCons (rC (.str "yard")) (rCons (rC (.str "till")) (rNil)))) (rCons (rTup (rCons (rC (.str "till")) (rCons (rC (.str "shop")) (rCons (rC (.str "yard")) (rNil))))) (rNil)))))) (rNil)))))
    (sSeq (sSet 8 (rLstM (rNil)))
    (sSeq (sFor (iAny (rV 5)) (gN 9) (sExpr (rApp (rV 8) (rMk "Wish" sp_Wish___init__ 3 3 (fun ds es => gI [0, 1, 2, 3, 4, 5, 6] (ds ++ es) [.non, .non]) (rCons (rOp oIx (rV 9) (rC (.int 0))) (rCons (rOp oIx (rV 9) (rC (.int 1))) (rCons (rOp oIx (rV 9) (rC (.int 2))) (rNil)))) (rCons (rOp oIx (rV 9) (rC (.int 3))) (rCons (rOp oIx (rV 9) (rC (.int 4))) (rCons (rOp oIx (rV 9) (rC (.int 5))) (rNil))))))))
    (sSeq (sSet 10 (rMk "Plan" sp_Plan___init__ 1 2 (gI [0, 1, 2, 3]) (rCons (rSeal (rV 8)) (rNil)) (rCons (rCB cTup (rCons (rV 6) (rNil))) (rCons (rV 7) (rNil)))))
    (sSeq (sSet 11 (rCall sp__law_due_v3 [] (rCons (rV 5) (rCons (rV 6) (rNil)))))
    (sSeq (sIf (rOr (rTst (rOp oNe (rCall sp_demands [] (rCons (rV 10) (rNil))) (rV 11))) (rTst (rOp oNe (rCallK sp_demands 0 1 (gI [0]) rNil (rCons (rV 10) (rNil))) (rV 11)))) (sRet (rC (.bl false))) (sNext))
    (sSeq (sFor (iAny (rOp oAdd (rLst (rCons (rCall sp__law_cell_at [] (rCons (rV 0) (rCons (rC (.int 2)) (rNil)))) (rNil))) (rSl (rV 0) (rPart (rC (.int 3))) (rPart (rC (.int 6)))))) (gN 12) (sSeq (sSet 1 (rCall sp__law_spring [] (rCons (rV 12) (rNil))))
    (sSeq (sSet 13 (rCall sp__law_draw_v2 [] (rCons (rV 1) (rCons (rC (.int 3)) (rNil)))))
    (sSeq (sSet 14 (rLc (iAny (rV 11)) [22] (gN 22) (rTst (rOp oEq (rCall sp__law_draw_v2 [] (rCons (rV 1) (rCons (rC (.int 2)) (rNil)))) (rC (.int 1)))) (rV 22)))
    (sSeq (sSet 15 (rOp oIx (rLst (rCons (rV 14) (rCons (rRev (rV 14)) (rCons (rOp oAdd (rV 14) (rSl (rV 14) rNoP (rPart (rC (.int 1))))) (rNil))))) (rV 13)))
    (sSeq (sSet 16 (rCB cLst (rCons (rV 15) (rNil))))
    (sSeq (sSet 17 (rCall sp_eased [] (rCons (rV 10) (rCons (rV 15) (rNil)))))
    (sSeq (sSet 18 (rLc (iAny (rV 5)) [21] (gN 21) (qYes) (rOp oAdd (rSl (rV 21) rNoP (rPart (rC (.int 4)))) (rTup (rCons (rOp oMul (rOp oIx (rV 21) (rC (.int 4))) (rCB cInt (rCons (rOp (oInN false) (rTup (rCons (rC (.str "least")) (rCons (rOp oIx (rV 21) (rC (.int 3))) (rNil)))) (rV 14)) (rNil)))) (rCons (rOp oIx (rV 21) (rC (.int 5))) (rNil)))))))
    (sSeq (sSet 8 (rLcM (iAny (rV 6)) [23] (gN 23) (rTst (rOp (oInN false) (rV 23) (rV 14))) (rV 23)))
    (sSeq (sIf (rOr (rNot (rTru (rCall sp__law_stays [] (rCons (rV 17) (rCons (rV 18) (rCons (rSeal (rV 8)) (rCons (rV 7) (rNil)))))))) (rTst (rOp oNe (rV 15) (rV 16)))) (sRet (rC (.bl false))) (sNext))
    (sSeq (sSet 19 (rCall sp__law_draw_v2 [] (rCons (rV 1) (rCons (rOp oAdd (rCB cLen (rCons (rV 14) (rNil))) (rC (.int 1))) (rNil)))))
    (sSeq (sIf (rNot (rTru (rCall sp__law_refused_v6 [] (rCons (rV 10) (rCons (rOp oAdd (rOp oAdd (rSl (rV 14) rNoP (rPart (rV 19))) (rLst (rCons (rCall sp__law_odd_v3 [] (rCons (rV 1) (rCons (rV 5) (rCons (rV 6) (rNil))))) (rNil)))) (rSl (rV 14) (rPart (rV 19)) rNoP)) (rNil)))))) (sRet (rC (.bl false))) (sNext))
    (sIf (rOr (rNot (rTru (rCall sp__law_stays [] (rCons (rV 10) (rCons (rV 5) (rCons (rV 6) (rCons (rV 7) (rNil)))))))) (rTst (rOp oNe (rCall sp_demands [] (rCons (rCallK sp_eased 0 2 (gI [1, 0]) rNil (rCons (rV 14) (rCons (rV 10) (rNil)))) (rNil))) (rV 14)))) (sRet (rC (.bl false))) (sNext))))))))))))))
    (sRet (rC (.bl true)))))))))))))
def T_law_5 : DS := sSeq (sSet 5 (rLc (iAny (rSl (rLst (rCons (rC (.str "m")) (rCons (rC (.str "x")) (rCons (rC (.str "c")) (rCons (rC (.str "a")) (rCons (rC (.str "z")) (rNil))))))) rNoP (rPart (rV 2)))) [20] (gN 20) (qYes) (rCall sp__law_wish_v2 [] (rCons (rV 1) (rCons (rV 4) (rCons (rV 20) (rNil)))))))
    (sSeq (sSet 1 (rCall sp__law_spring [] (rCons (rCall sp__law_cell_at [] (rCons (rV 0) (rCons (rC (.int 1)) (rNil)))) (rNil))))
    (sSeq (sSet 6 (rCall sp__law_orders [] (rCons (rV 1) (rCons (rLc (iAny (rV 5)) [21] (gN 21) (qYes) (rOp oIx (rV 21) (rC (.int 3)))) (rNil)))))
    (sSeq (sSet 7 (rCall sp__law_one_v2 [] (rCons (rV 1) (rCons (rLst (rCons (rTup (rNil)) (rCons (rTup (rCons (rC (.str "shop")) (rNil))) (rCons (rTup (rCons (rC (.str "yard")) (rCons (rC (.str "till")) (rNil)))) (rCons (rTup (rCons (rC (.str "till")) (rCons (rC (.str "shop")) (rCons (rC (.str "yard")) (rNil))))) (rNil)))))) (rNil)))))
    (sSeq (sSet 8 (rLstM (rNil)))
    (sSeq (sFor (iAny (rV 5)) (gN 9) (sExpr (rApp (rV 8) (rMk "Wish" sp_Wish___init__ 3 3 (fun ds es => gI [0, 1, 2, 3, 4, 5, 6] (ds ++ es) [.non, .non]) (rCons (rOp oIx (rV 9) (rC (.int 0))) (rCons (rOp oIx (rV 9) (rC (.int 1))) (rCons (rOp oIx (rV 9) (rC (.int 2))) (rNil)))) (rCons (rOp oIx (rV 9) (rC (.int 3))) (rCons (rOp oIx (rV 9) (rC (.int 4))) (rCons (rOp oIx (rV 9) (rC (.int 5))) (rNil))))))))
    (sSeq (sSet 10 (rMk "Plan" sp_Plan___init__ 1 2 (gI [0, 1, 2, 3]) (rCons (rSeal (rV 8)) (rNil)) (rCons (rCB cTup (rCons (rV 6) (rNil))) (rCons (rV 7) (rNil)))))
    (sSeq (sSet 11 (rCall sp__law_due_v3 [] (rCons (rV 5) (rCons (rV 6) (rNil)))))
    (sSeq (sIf (rOr (rTst (rOp oNe (rCall sp_demands [] (rCons (rV 10) (rNil))) (rV 11))) (rTst (rOp oNe (rCallK sp_demands 0 1 (gI [0]) rNil (rCons (rV 10) (rNil))) (rV 11)))) (sRet (rC (.bl false))) (sNext))
    (sSeq (sFor (iAny (rOp oAdd (rLst (rCons (rCall sp__law_cell_at [] (rCons (rV 0) (rCons (rC (.int 2)) (rNil)))) (rNil))) (rSl (rV 0) (rPart (rC (.int 3))) (rPart (rC (.int 6)))))) (gN 12) (sSeq (sSet 1 (rCall sp__law_spring [] (rCons (rV 12) (rNil))))
    (sSeq (sSet 13 (rCall sp__law_draw_v2 [] (rCons (rV 1) (rCons (rC (.int 3)) (rNil)))))
    (sSeq (sSet 14 (rLc (iAny (rV 11)) [22] (gN 22) (rTst (rOp oEq (rCall sp__law_draw_v2 [] (rCons (rV 1) (rCons (rC (.int 2)) (rNil)))) (rC (.int 1)))) (rV 22)))
    (sSeq (sSet 15 (rOp oIx (rLst (rCons (rV 14) (rCons (rRev (rV 14)) (rCons (rOp oAdd (rV 14) (rSl (rV 14) rNoP (rPart (rC (.int 1))))) (rNil))))) (rV 13)))
    (sSeq (sSet 16 (rCB cLst (rCons (rV 15) (rNil))))
    (sSeq (sSet 17 (rCall sp_eased [] (rCons (rV 10) (rCons (rV 15) (rNil)))))
    (sSeq (sSet 18 (rLc (iAny (rV 5)) [21] (gN 21) (qYes) (rOp oAdd (rSl (rV 21) rNoP (rPart (rC (.int 4)))) (rTup (rCons (rOp oMul (rOp oIx (rV 21) (rC (.int 4))) (rCB cInt (rCons (rOp (oInN false) (rTup (rCons (rC (.str "least")) (rCons (rOp oIx (rV 21) (rC (.int 3))) (rNil)))) (rV 14)) (rNil)))) (rCons (rOp oIx (rV 21) (rC (.int 5))) (rNil)))))))
    (sSeq (sSet 8 (rLcM (iAny (rV 6)) [23] (gN 23) (rTst (rOp (oInN false) (rV 23) (rV 14))) (rV 23)))
    (sSeq (sIf (rOr (rNot (rTru (rCall sp__law_stays [] (rCons (rV 17) (rCons (rV 18) (rCons (rSeal (rV 8)) (rCons (rV 7) (rNil)))))))) (rTst (rOp oNe (rV 15) (rV 16)))) (sRet (rC (.bl false))) (sNext))
    (sSeq (sSet 19 (rCall sp__law_draw_v2 [] (rCons (rV 1) (rCons (rOp oAdd (rCB cLen (rCons (rV 14) (rNil))) (rC (.int 1))) (rNil)))))
    (sSeq (sIf (rNot (rTru (rCall sp__law_refused_v6 [] (rCons (rV 10) (rCons (rOp oAdd (rOp oAdd (rSl (rV 14) rNoP (rPart (rV 19))) (rLst (rCons (rCall sp__law_odd_v3 [] (rCons (rV 1) (rCons (rV 5) (rCons (rV 6) (rNil))))) (rNil)))) (rSl (rV 14) (rPart (rV 19)) rNoP)) (rNil)))))) (sRet (rC (.bl false))) (sNext))
    (sIf (rOr (rNot (rTru (rCall sp__law_stays [] (rCons (rV 10) (rCons (rV 5) (rCons (rV 6) (rCons (rV 7) (rNil)))))))) (rTst (rOp oNe (rCall sp_demands [] (rCons (rCallK sp_eased 0 2 (gI [1, 0]) rNil (rCons (rV 14) (rCons (rV 10) (rNil)))) (rNil))) (rV 14)))) (sRet (rC (.bl false))) (sNext))))))))))))))
    (sRet (rC (.bl true))))))))))))
def T_law_6 : DS := sSeq (sSet 1 (rCall sp__law_spring [] (rCons (rCall sp__law_cell_at [] (rCons (rV 0) (rCons (rC (.int 1)) (rNil)))) (rNil))))
    (sSeq (sSet 6 (rCall sp__law_orders [] (rCons (rV 1) (rCons (rLc (iAny (rV 5)) [21] (gN 21) (qYes) (rOp oIx (rV 21) (rC (.int 3)))) (rNil)))))
    (sSeq (sSet 7 (rCall sp__law_one_v2 [] (rCons (rV 1) (rCons (rLst (rCons (rTup (rNil)) (rCons (rTup (rCons (rC (.str "shop")) (rNil))) (rCons (rTup (rCons (rC (.str "yard")) (rCons (rC (.str "till")) (rNil)))) (rCons (rTup (rCons (rC (.str "till")) (rCons (rC (.str "shop")) (rCons (rC (.str "yard")) (rNil))))) (rNil)))))) (rNil)))))
    (sSeq (sSet 8 (rLstM (rNil)))
    (sSeq (sFor (iAny (rV 5)) (gN 9) (sExpr (rApp (rV 8) (rMk "Wish" sp_Wish___init__ 3 3 (fun ds es => gI [0, 1, 2, 3, 4, 5, 6] (ds ++ es) [.non, .non]) (rCons (rOp oIx (rV 9) (rC (.int 0))) (rCons (rOp oIx (rV 9) (rC (.int 1))) (rCons (rOp oIx (rV 9) (rC (.int 2))) (rNil)))) (rCons (rOp oIx (rV 9) (rC (.int 3))) (rCons (rOp oIx (rV 9) (rC (.int 4))) (rCons (rOp oIx (rV 9) (rC (.int 5))) (rNil))))))))
    (sSeq (sSet 10 (rMk "Plan" sp_Plan___init__ 1 2 (gI [0, 1, 2, 3]) (rCons (rSeal (rV 8)) (rNil)) (rCons (rCB cTup (rCons (rV 6) (rNil))) (rCons (rV 7) (rNil)))))
    (sSeq (sSet 11 (rCall sp__law_due_v3 [] (rCons (rV 5) (rCons (rV 6) (rNil)))))
    (sSeq (sIf (rOr (rTst (rOp oNe (rCall sp_demands [] (rCons (rV 10) (rNil))) (rV 11))) (rTst (rOp oNe (rCallK sp_demands 0 1 (gI [0]) rNil (rCons (rV 10) (rNil))) (rV 11)))) (sRet (rC (.bl false))) (sNext))
    (sSeq (sFor (iAny (rOp oAdd (rLst (rCons (rCall sp__law_cell_at [] (rCons (rV 0) (rCons (rC (.int 2)) (rNil)))) (rNil))) (rSl (rV 0) (rPart (rC (.int 3))) (rPart (rC (.int 6)))))) (gN 12) (sSeq (sSet 1 (rCall sp__law_spring [] (rCons (rV 12) (rNil))))
    (sSeq (sSet 13 (rCall sp__law_draw_v2 [] (rCons (rV 1) (rCons (rC (.int 3)) (rNil)))))
    (sSeq (sSet 14 (rLc (iAny (rV 11)) [22] (gN 22) (rTst (rOp oEq (rCall sp__law_draw_v2 [] (rCons (rV 1) (rCons (rC (.int 2)) (rNil)))) (rC (.int 1)))) (rV 22)))
    (sSeq (sSet 15 (rOp oIx (rLst (rCons (rV 14) (rCons (rRev (rV 14)) (rCons (rOp oAdd (rV 14) (rSl (rV 14) rNoP (rPart (rC (.int 1))))) (rNil))))) (rV 13)))
    (sSeq (sSet 16 (rCB cLst (rCons (rV 15) (rNil))))
    (sSeq (sSet 17 (rCall sp_eased [] (rCons (rV 10) (rCons (rV 15) (rNil)))))
    (sSeq (sSet 18 (rLc (iAny (rV 5)) [21] (gN 21) (qYes) (rOp oAdd (rSl (rV 21) rNoP (rPart (rC (.int 4)))) (rTup (rCons (rOp oMul (rOp oIx (rV 21) (rC (.int 4))) (rCB cInt (rCons (rOp (oInN false) (rTup (rCons (rC (.str "least")) (rCons (rOp oIx (rV 21) (rC (.int 3))) (rNil)))) (rV 14)) (rNil)))) (rCons (rOp oIx (rV 21) (rC (.int 5))) (rNil)))))))
    (sSeq (sSet 8 (rLcM (iAny (rV 6)) [23] (gN 23) (rTst (rOp (oInN false) (rV 23) (rV 14))) (rV 23)))
    (sSeq (sIf (rOr (rNot (rTru (rCall sp__law_stays [] (rCons (rV 17) (rCons (rV 18) (rCons (rSeal (rV 8)) (rCons (rV 7) (rNil)))))))) (rTst (rOp oNe (rV 15) (rV 16)))) (sRet (rC (.bl false))) (sNext))
    (sSeq (sSet 19 (rCall sp__law_draw_v2 [] (rCons (rV 1) (rCons (rOp oAdd (rCB cLen (rCons (rV 14) (rNil))) (rC (.int 1))) (rNil)))))
    (sSeq (sIf (rNot (rTru (rCall sp__law_refused_v6 [] (rCons (rV 10) (rCons (rOp oAdd (rOp oAdd (rSl (rV 14) rNoP (rPart (rV 19))) (rLst (rCons (rCall sp__law_odd_v3 [] (rCons (rV 1) (rCons (rV 5) (rCons (rV 6) (rNil))))) (rNil)))) (rSl (rV 14) (rPart (rV 19)) rNoP)) (rNil)))))) (sRet (rC (.bl false))) (sNext))
    (sIf (rOr (rNot (rTru (rCall sp__law_stays [] (rCons (rV 10) (rCons (rV 5) (rCons (rV 6) (rCons (rV 7) (rNil)))))))) (rTst (rOp oNe (rCall sp_demands [] (rCons (rCallK sp_eased 0 2 (gI [1, 0]) rNil (rCons (rV 14) (rCons (rV 10) (rNil)))) (rNil))) (rV 14)))) (sRet (rC (.bl false))) (sNext))))))))))))))
    (sRet (rC (.bl true)))))))))))
def T_law_7 : DS := sSeq (sSet 6 (rCall sp__law_orders [] (rCons (rV 1) (rCons (rLc (iAny (rV 5)) [21] (gN 21) (qYes) (rOp oIx (rV 21) (rC (.int 3)))) (rNil)))))
    (sSeq (sSet 7 (rCall sp__law_one_v2 [] (rCons (rV 1) (rCons (rLst (rCons (rTup (rNil)) (rCons (rTup (rCons (rC (.str "shop")) (rNil))) (rCons (rTup (rCons (rC (.str "yard")) (rCons (rC (.str "till")) (rNil)))) (rCons (rTup (rCons (rC (.str "till")) (rCons (rC (.str "shop")) (rCons (rC (.str "yard")) (rNil))))) (rNil)))))) (rNil)))))
    (sSeq (sSet 8 (rLstM (rNil)))
    (sSeq (sFor (iAny (rV 5)) (gN 9) (sExpr (rApp (rV 8) (rMk "Wish" sp_Wish___init__ 3 3 (fun ds es => gI [0, 1, 2, 3, 4, 5, 6] (ds ++ es) [.non, .non]) (rCons (rOp oIx (rV 9) (rC (.int 0))) (rCons (rOp oIx (rV 9) (rC (.int 1))) (rCons (rOp oIx (rV 9) (rC (.int 2))) (rNil)))) (rCons (rOp oIx (rV 9) (rC (.int 3))) (rCons (rOp oIx (rV 9) (rC (.int 4))) (rCons (rOp oIx (rV 9) (rC (.int 5))) (rNil))))))))
    (sSeq (sSet 10 (rMk "Plan" sp_Plan___init__ 1 2 (gI [0, 1, 2, 3]) (rCons (rSeal (rV 8)) (rNil)) (rCons (rCB cTup (rCons (rV 6) (rNil))) (rCons (rV 7) (rNil)))))
    (sSeq (sSet 11 (rCall sp__law_due_v3 [] (rCons (rV 5) (rCons (rV 6) (rNil)))))
    (sSeq (sIf (rOr (rTst (rOp oNe (rCall sp_demands [] (rCons (rV 10) (rNil))) (rV 11))) (rTst (rOp oNe (rCallK sp_demands 0 1 (gI [0]) rNil (rCons (rV 10) (rNil))) (rV 11)))) (sRet (rC (.bl false))) (sNext))
    (sSeq (sFor (iAny (rOp oAdd (rLst (rCons (rCall sp__law_cell_at [] (rCons (rV 0) (rCons (rC (.int 2)) (rNil)))) (rNil))) (rSl (rV 0) (rPart (rC (.int 3))) (rPart (rC (.int 6)))))) (gN 12) (sSeq (sSet 1 (rCall sp__law_spring [] (rCons (rV 12) (rNil))))
    (sSeq (sSet 13 (rCall sp__law_draw_v2 [] (rCons (rV 1) (rCons (rC (.int 3)) (rNil)))))
    (sSeq (sSet 14 (rLc (iAny (rV 11)) [22] (gN 22) (rTst (rOp oEq (rCall sp__law_draw_v2 [] (rCons (rV 1) (rCons (rC (.int 2)) (rNil)))) (rC (.int 1)))) (rV 22)))
    (sSeq (sSet 15 (rOp oIx (rLst (rCons (rV 14) (rCons (rRev (rV 14)) (rCons (rOp oAdd (rV 14) (rSl (rV 14) rNoP (rPart (rC (.int 1))))) (rNil))))) (rV 13)))
    (sSeq (sSet 16 (rCB cLst (rCons (rV 15) (rNil))))
    (sSeq (sSet 17 (rCall sp_eased [] (rCons (rV 10) (rCons (rV 15) (rNil)))))
    (sSeq (sSet 18 (rLc (iAny (rV 5)) [21] (gN 21) (qYes) (rOp oAdd (rSl (rV 21) rNoP (rPart (rC (.int 4)))) (rTup (rCons (rOp oMul (rOp oIx (rV 21) (rC (.int 4))) (rCB cInt (rCons (rOp (oInN false) (rTup (rCons (rC (.str "least")) (rCons (rOp oIx (rV 21) (rC (.int 3))) (rNil)))) (rV 14)) (rNil)))) (rCons (rOp oIx (rV 21) (rC (.int 5))) (rNil)))))))
    (sSeq (sSet 8 (rLcM (iAny (rV 6)) [23] (gN 23) (rTst (rOp (oInN false) (rV 23) (rV 14))) (rV 23)))
    (sSeq (sIf (rOr (rNot (rTru (rCall sp__law_stays [] (rCons (rV 17) (rCons (rV 18) (rCons (rSeal (rV 8)) (rCons (rV 7) (rNil)))))))) (rTst (rOp oNe (rV 15) (rV 16)))) (sRet (rC (.bl false))) (sNext))
    (sSeq (sSet 19 (rCall sp__law_draw_v2 [] (rCons (rV 1) (rCons (rOp oAdd (rCB cLen (rCons (rV 14) (rNil))) (rC (.int 1))) (rNil)))))
    (sSeq (sIf (rNot (rTru (rCall sp__law_refused_v6 [] (rCons (rV 10) (rCons (rOp oAdd (rOp oAdd (rSl (rV 14) rNoP (rPart (rV 19))) (rLst (rCons (rCall sp__law_odd_v3 [] (rCons (rV 1) (rCons (rV 5) (rCons (rV 6) (rNil))))) (rNil)))) (rSl (rV 14) (rPart (rV 19)) rNoP)) (rNil)))))) (sRet (rC (.bl false))) (sNext))
    (sIf (rOr (rNot (rTru (rCall sp__law_stays [] (rCons (rV 10) (rCons (rV 5) (rCons (rV 6) (rCons (rV 7) (rNil)))))))) (rTst (rOp oNe (rCall sp_demands [] (rCons (rCallK sp_eased 0 2 (gI [1, 0]) rNil (rCons (rV 14) (rCons (rV 10) (rNil)))) (rNil))) (rV 14)))) (sRet (rC (.bl false))) (sNext))))))))))))))
    (sRet (rC (.bl true))))))))))
def T_law_8 : DS := sSeq (sSet 7 (rCall sp__law_one_v2 [] (rCons (rV 1) (rCons (rLst (rCons (rTup (rNil)) (rCons (rTup (rCons (rC (.str "shop")) (rNil))) (rCons (rTup (rCons (rC (.str "yard")) (rCons (rC (.str "till")) (rNil)))) (rCons (rTup (rCons (rC (.str "till")) (rCons (rC (.str "shop")) (rCons (rC (.str "yard")) (rNil))))) (rNil)))))) (rNil)))))
    (sSeq (sSet 8 (rLstM (rNil)))
    (sSeq (sFor (iAny (rV 5)) (gN 9) (sExpr (rApp (rV 8) (rMk "Wish" sp_Wish___init__ 3 3 (fun ds es => gI [0, 1, 2, 3, 4, 5, 6] (ds ++ es) [.non, .non]) (rCons (rOp oIx (rV 9) (rC (.int 0))) (rCons (rOp oIx (rV 9) (rC (.int 1))) (rCons (rOp oIx (rV 9) (rC (.int 2))) (rNil)))) (rCons (rOp oIx (rV 9) (rC (.int 3))) (rCons (rOp oIx (rV 9) (rC (.int 4))) (rCons (rOp oIx (rV 9) (rC (.int 5))) (rNil))))))))
    (sSeq (sSet 10 (rMk "Plan" sp_Plan___init__ 1 2 (gI [0, 1, 2, 3]) (rCons (rSeal (rV 8)) (rNil)) (rCons (rCB cTup (rCons (rV 6) (rNil))) (rCons (rV 7) (rNil)))))
    (sSeq (sSet 11 (rCall sp__law_due_v3 [] (rCons (rV 5) (rCons (rV 6) (rNil)))))
    (sSeq (sIf (rOr (rTst (rOp oNe (rCall sp_demands [] (rCons (rV 10) (rNil))) (rV 11))) (rTst (rOp oNe (rCallK sp_demands 0 1 (gI [0]) rNil (rCons (rV 10) (rNil))) (rV 11)))) (sRet (rC (.bl false))) (sNext))
    (sSeq (sFor (iAny (rOp oAdd (rLst (rCons (rCall sp__law_cell_at [] (rCons (rV 0) (rCons (rC (.int 2)) (rNil)))) (rNil))) (rSl (rV 0) (rPart (rC (.int 3))) (rPart (rC (.int 6)))))) (gN 12) (sSeq (sSet 1 (rCall sp__law_spring [] (rCons (rV 12) (rNil))))
    (sSeq (sSet 13 (rCall sp__law_draw_v2 [] (rCons (rV 1) (rCons (rC (.int 3)) (rNil)))))
    (sSeq (sSet 14 (rLc (iAny (rV 11)) [22] (gN 22) (rTst (rOp oEq (rCall sp__law_draw_v2 [] (rCons (rV 1) (rCons (rC (.int 2)) (rNil)))) (rC (.int 1)))) (rV 22)))
    (sSeq (sSet 15 (rOp oIx (rLst (rCons (rV 14) (rCons (rRev (rV 14)) (rCons (rOp oAdd (rV 14) (rSl (rV 14) rNoP (rPart (rC (.int 1))))) (rNil))))) (rV 13)))
    (sSeq (sSet 16 (rCB cLst (rCons (rV 15) (rNil))))
    (sSeq (sSet 17 (rCall sp_eased [] (rCons (rV 10) (rCons (rV 15) (rNil)))))
    (sSeq (sSet 18 (rLc (iAny (rV 5)) [21] (gN 21) (qYes) (rOp oAdd (rSl (rV 21) rNoP (rPart (rC (.int 4)))) (rTup (rCons (rOp oMul (rOp oIx (rV 21) (rC (.int 4))) (rCB cInt (rCons (rOp (oInN false) (rTup (rCons (rC (.str "least")) (rCons (rOp oIx (rV 21) (rC (.int 3))) (rNil)))) (rV 14)) (rNil)))) (rCons (rOp oIx (rV 21) (rC (.int 5))) (rNil)))))))
    (sSeq (sSet 8 (rLcM (iAny (rV 6)) [23] (gN 23) (rTst (rOp (oInN false) (rV 23) (rV 14))) (rV 23)))
    (sSeq (sIf (rOr (rNot (rTru (rCall sp__law_stays [] (rCons (rV 17) (rCons (rV 18) (rCons (rSeal (rV 8)) (rCons (rV 7) (rNil)))))))) (rTst (rOp oNe (rV 15) (rV 16)))) (sRet (rC (.bl false))) (sNext))
    (sSeq (sSet 19 (rCall sp__law_draw_v2 [] (rCons (rV 1) (rCons (rOp oAdd (rCB cLen (rCons (rV 14) (rNil))) (rC (.int 1))) (rNil)))))
    (sSeq (sIf (rNot (rTru (rCall sp__law_refused_v6 [] (rCons (rV 10) (rCons (rOp oAdd (rOp oAdd (rSl (rV 14) rNoP (rPart (rV 19))) (rLst (rCons (rCall sp__law_odd_v3 [] (rCons (rV 1) (rCons (rV 5) (rCons (rV 6) (rNil))))) (rNil)))) (rSl (rV 14) (rPart (rV 19)) rNoP)) (rNil)))))) (sRet (rC (.bl false))) (sNext))
    (sIf (rOr (rNot (rTru (rCall sp__law_stays [] (rCons (rV 10) (rCons (rV 5) (rCons (rV 6) (rCons (rV 7) (rNil)))))))) (rTst (rOp oNe (rCall sp_demands [] (rCons (rCallK sp_eased 0 2 (gI [1, 0]) rNil (rCons (rV 14) (rCons (rV 10) (rNil)))) (rNil))) (rV 14)))) (sRet (rC (.bl false))) (sNext))))))))))))))
    (sRet (rC (.bl true)))))))))
def T_law_9 : DS := sSeq (sSet 8 (rLstM (rNil)))
    (sSeq (sFor (iAny (rV 5)) (gN 9) (sExpr (rApp (rV 8) (rMk "Wish" sp_Wish___init__ 3 3 (fun ds es => gI [0, 1, 2, 3, 4, 5, 6] (ds ++ es) [.non, .non]) (rCons (rOp oIx (rV 9) (rC (.int 0))) (rCons (rOp oIx (rV 9) (rC (.int 1))) (rCons (rOp oIx (rV 9) (rC (.int 2))) (rNil)))) (rCons (rOp oIx (rV 9) (rC (.int 3))) (rCons (rOp oIx (rV 9) (rC (.int 4))) (rCons (rOp oIx (rV 9) (rC (.int 5))) (rNil))))))))
    (sSeq (sSet 10 (rMk "Plan" sp_Plan___init__ 1 2 (gI [0, 1, 2, 3]) (rCons (rSeal (rV 8)) (rNil)) (rCons (rCB cTup (rCons (rV 6) (rNil))) (rCons (rV 7) (rNil)))))
    (sSeq (sSet 11 (rCall sp__law_due_v3 [] (rCons (rV 5) (rCons (rV 6) (rNil)))))
    (sSeq (sIf (rOr (rTst (rOp oNe (rCall sp_demands [] (rCons (rV 10) (rNil))) (rV 11))) (rTst (rOp oNe (rCallK sp_demands 0 1 (gI [0]) rNil (rCons (rV 10) (rNil))) (rV 11)))) (sRet (rC (.bl false))) (sNext))
    (sSeq (sFor (iAny (rOp oAdd (rLst (rCons (rCall sp__law_cell_at [] (rCons (rV 0) (rCons (rC (.int 2)) (rNil)))) (rNil))) (rSl (rV 0) (rPart (rC (.int 3))) (rPart (rC (.int 6)))))) (gN 12) (sSeq (sSet 1 (rCall sp__law_spring [] (rCons (rV 12) (rNil))))
    (sSeq (sSet 13 (rCall sp__law_draw_v2 [] (rCons (rV 1) (rCons (rC (.int 3)) (rNil)))))
    (sSeq (sSet 14 (rLc (iAny (rV 11)) [22] (gN 22) (rTst (rOp oEq (rCall sp__law_draw_v2 [] (rCons (rV 1) (rCons (rC (.int 2)) (rNil)))) (rC (.int 1)))) (rV 22)))
    (sSeq (sSet 15 (rOp oIx (rLst (rCons (rV 14) (rCons (rRev (rV 14)) (rCons (rOp oAdd (rV 14) (rSl (rV 14) rNoP (rPart (rC (.int 1))))) (rNil))))) (rV 13)))
    (sSeq (sSet 16 (rCB cLst (rCons (rV 15) (rNil))))
    (sSeq (sSet 17 (rCall sp_eased [] (rCons (rV 10) (rCons (rV 15) (rNil)))))
    (sSeq (sSet 18 (rLc (iAny (rV 5)) [21] (gN 21) (qYes) (rOp oAdd (rSl (rV 21) rNoP (rPart (rC (.int 4)))) (rTup (rCons (rOp oMul (rOp oIx (rV 21) (rC (.int 4))) (rCB cInt (rCons (rOp (oInN false) (rTup (rCons (rC (.str "least")) (rCons (rOp oIx (rV 21) (rC (.int 3))) (rNil)))) (rV 14)) (rNil)))) (rCons (rOp oIx (rV 21) (rC (.int 5))) (rNil)))))))
    (sSeq (sSet 8 (rLcM (iAny (rV 6)) [23] (gN 23) (rTst (rOp (oInN false) (rV 23) (rV 14))) (rV 23)))
    (sSeq (sIf (rOr (rNot (rTru (rCall sp__law_stays [] (rCons (rV 17) (rCons (rV 18) (rCons (rSeal (rV 8)) (rCons (rV 7) (rNil)))))))) (rTst (rOp oNe (rV 15) (rV 16)))) (sRet (rC (.bl false))) (sNext))
    (sSeq (sSet 19 (rCall sp__law_draw_v2 [] (rCons (rV 1) (rCons (rOp oAdd (rCB cLen (rCons (rV 14) (rNil))) (rC (.int 1))) (rNil)))))
    (sSeq (sIf (rNot (rTru (rCall sp__law_refused_v6 [] (rCons (rV 10) (rCons (rOp oAdd (rOp oAdd (rSl (rV 14) rNoP (rPart (rV 19))) (rLst (rCons (rCall sp__law_odd_v3 [] (rCons (rV 1) (rCons (rV 5) (rCons (rV 6) (rNil))))) (rNil)))) (rSl (rV 14) (rPart (rV 19)) rNoP)) (rNil)))))) (sRet (rC (.bl false))) (sNext))
    (sIf (rOr (rNot (rTru (rCall sp__law_stays [] (rCons (rV 10) (rCons (rV 5) (rCons (rV 6) (rCons (rV 7) (rNil)))))))) (rTst (rOp oNe (rCall sp_demands [] (rCons (rCallK sp_eased 0 2 (gI [1, 0]) rNil (rCons (rV 14) (rCons (rV 10) (rNil)))) (rNil))) (rV 14)))) (sRet (rC (.bl false))) (sNext))))))))))))))
    (sRet (rC (.bl true))))))))
def T_law_10 : DS := sSeq (sFor (iAny (rV 5)) (gN 9) (sExpr (rApp (rV 8) (rMk "Wish" sp_Wish___init__ 3 3 (fun ds es => gI [0, 1, 2, 3, 4, 5, 6] (ds ++ es) [.non, .non]) (rCons (rOp oIx (rV 9) (rC (.int 0))) (rCons (rOp oIx (rV 9) (rC (.int 1))) (rCons (rOp oIx (rV 9) (rC (.int 2))) (rNil)))) (rCons (rOp oIx (rV 9) (rC (.int 3))) (rCons (rOp oIx (rV 9) (rC (.int 4))) (rCons (rOp oIx (rV 9) (rC (.int 5))) (rNil))))))))
    (sSeq (sSet 10 (rMk "Plan" sp_Plan___init__ 1 2 (gI [0, 1, 2, 3]) (rCons (rSeal (rV 8)) (rNil)) (rCons (rCB cTup (rCons (rV 6) (rNil))) (rCons (rV 7) (rNil)))))
    (sSeq (sSet 11 (rCall sp__law_due_v3 [] (rCons (rV 5) (rCons (rV 6) (rNil)))))
    (sSeq (sIf (rOr (rTst (rOp oNe (rCall sp_demands [] (rCons (rV 10) (rNil))) (rV 11))) (rTst (rOp oNe (rCallK sp_demands 0 1 (gI [0]) rNil (rCons (rV 10) (rNil))) (rV 11)))) (sRet (rC (.bl false))) (sNext))
    (sSeq (sFor (iAny (rOp oAdd (rLst (rCons (rCall sp__law_cell_at [] (rCons (rV 0) (rCons (rC (.int 2)) (rNil)))) (rNil))) (rSl (rV 0) (rPart (rC (.int 3))) (rPart (rC (.int 6)))))) (gN 12) (sSeq (sSet 1 (rCall sp__law_spring [] (rCons (rV 12) (rNil))))
    (sSeq (sSet 13 (rCall sp__law_draw_v2 [] (rCons (rV 1) (rCons (rC (.int 3)) (rNil)))))
    (sSeq (sSet 14 (rLc (iAny (rV 11)) [22] (gN 22) (rTst (rOp oEq (rCall sp__law_draw_v2 [] (rCons (rV 1) (rCons (rC (.int 2)) (rNil)))) (rC (.int 1)))) (rV 22)))
    (sSeq (sSet 15 (rOp oIx (rLst (rCons (rV 14) (rCons (rRev (rV 14)) (rCons (rOp oAdd (rV 14) (rSl (rV 14) rNoP (rPart (rC (.int 1))))) (rNil))))) (rV 13)))
    (sSeq (sSet 16 (rCB cLst (rCons (rV 15) (rNil))))
    (sSeq (sSet 17 (rCall sp_eased [] (rCons (rV 10) (rCons (rV 15) (rNil)))))
    (sSeq (sSet 18 (rLc (iAny (rV 5)) [21] (gN 21) (qYes) (rOp oAdd (rSl (rV 21) rNoP (rPart (rC (.int 4)))) (rTup (rCons (rOp oMul (rOp oIx (rV 21) (rC (.int 4))) (rCB cInt (rCons (rOp (oInN false) (rTup (rCons (rC (.str "least")) (rCons (rOp oIx (rV 21) (rC (.int 3))) (rNil)))) (rV 14)) (rNil)))) (rCons (rOp oIx (rV 21) (rC (.int 5))) (rNil)))))))
    (sSeq (sSet 8 (rLcM (iAny (rV 6)) [23] (gN 23) (rTst (rOp (oInN false) (rV 23) (rV 14))) (rV 23)))
    (sSeq (sIf (rOr (rNot (rTru (rCall sp__law_stays [] (rCons (rV 17) (rCons (rV 18) (rCons (rSeal (rV 8)) (rCons (rV 7) (rNil)))))))) (rTst (rOp oNe (rV 15) (rV 16)))) (sRet (rC (.bl false))) (sNext))
    (sSeq (sSet 19 (rCall sp__law_draw_v2 [] (rCons (rV 1) (rCons (rOp oAdd (rCB cLen (rCons (rV 14) (rNil))) (rC (.int 1))) (rNil)))))
    (sSeq (sIf (rNot (rTru (rCall sp__law_refused_v6 [] (rCons (rV 10) (rCons (rOp oAdd (rOp oAdd (rSl (rV 14) rNoP (rPart (rV 19))) (rLst (rCons (rCall sp__law_odd_v3 [] (rCons (rV 1) (rCons (rV 5) (rCons (rV 6) (rNil))))) (rNil)))) (rSl (rV 14) (rPart (rV 19)) rNoP)) (rNil)))))) (sRet (rC (.bl false))) (sNext))
    (sIf (rOr (rNot (rTru (rCall sp__law_stays [] (rCons (rV 10) (rCons (rV 5) (rCons (rV 6) (rCons (rV 7) (rNil)))))))) (rTst (rOp oNe (rCall sp_demands [] (rCons (rCallK sp_eased 0 2 (gI [1, 0]) rNil (rCons (rV 14) (rCons (rV 10) (rNil)))) (rNil))) (rV 14)))) (sRet (rC (.bl false))) (sNext))))))))))))))
    (sRet (rC (.bl true)))))))
def T_law_11 : DS := sSeq (sSet 10 (rMk "Plan" sp_Plan___init__ 1 2 (gI [0, 1, 2, 3]) (rCons (rSeal (rV 8)) (rNil)) (rCons (rCB cTup (rCons (rV 6) (rNil))) (rCons (rV 7) (rNil)))))
    (sSeq (sSet 11 (rCall sp__law_due_v3 [] (rCons (rV 5) (rCons (rV 6) (rNil)))))
    (sSeq (sIf (rOr (rTst (rOp oNe (rCall sp_demands [] (rCons (rV 10) (rNil))) (rV 11))) (rTst (rOp oNe (rCallK sp_demands 0 1 (gI [0]) rNil (rCons (rV 10) (rNil))) (rV 11)))) (sRet (rC (.bl false))) (sNext))
    (sSeq (sFor (iAny (rOp oAdd (rLst (rCons (rCall sp__law_cell_at [] (rCons (rV 0) (rCons (rC (.int 2)) (rNil)))) (rNil))) (rSl (rV 0) (rPart (rC (.int 3))) (rPart (rC (.int 6)))))) (gN 12) (sSeq (sSet 1 (rCall sp__law_spring [] (rCons (rV 12) (rNil))))
    (sSeq (sSet 13 (rCall sp__law_draw_v2 [] (rCons (rV 1) (rCons (rC (.int 3)) (rNil)))))
    (sSeq (sSet 14 (rLc (iAny (rV 11)) [22] (gN 22) (rTst (rOp oEq (rCall sp__law_draw_v2 [] (rCons (rV 1) (rCons (rC (.int 2)) (rNil)))) (rC (.int 1)))) (rV 22)))
    (sSeq (sSet 15 (rOp oIx (rLst (rCons (rV 14) (rCons (rRev (rV 14)) (rCons (rOp oAdd (rV 14) (rSl (rV 14) rNoP (rPart (rC (.int 1))))) (rNil))))) (rV 13)))
    (sSeq (sSet 16 (rCB cLst (rCons (rV 15) (rNil))))
    (sSeq (sSet 17 (rCall sp_eased [] (rCons (rV 10) (rCons (rV 15) (rNil)))))
    (sSeq (sSet 18 (rLc (iAny (rV 5)) [21] (gN 21) (qYes) (rOp oAdd (rSl (rV 21) rNoP (rPart (rC (.int 4)))) (rTup (rCons (rOp oMul (rOp oIx (rV 21) (rC (.int 4))) (rCB cInt (rCons (rOp (oInN false) (rTup (rCons (rC (.str "least")) (rCons (rOp oIx (rV 21) (rC (.int 3))) (rNil)))) (rV 14)) (rNil)))) (rCons (rOp oIx (rV 21) (rC (.int 5))) (rNil)))))))
    (sSeq (sSet 8 (rLcM (iAny (rV 6)) [23] (gN 23) (rTst (rOp (oInN false) (rV 23) (rV 14))) (rV 23)))
    (sSeq (sIf (rOr (rNot (rTru (rCall sp__law_stays [] (rCons (rV 17) (rCons (rV 18) (rCons (rSeal (rV 8)) (rCons (rV 7) (rNil)))))))) (rTst (rOp oNe (rV 15) (rV 16)))) (sRet (rC (.bl false))) (sNext))
    (sSeq (sSet 19 (rCall sp__law_draw_v2 [] (rCons (rV 1) (rCons (rOp oAdd (rCB cLen (rCons (rV 14) (rNil))) (rC (.int 1))) (rNil)))))
    (sSeq (sIf (rNot (rTru (rCall sp__law_refused_v6 [] (rCons (rV 10) (rCons (rOp oAdd (rOp oAdd (rSl (rV 14) rNoP (rPart (rV 19))) (rLst (rCons (rCall sp__law_odd_v3 [] (rCons (rV 1) (rCons (rV 5) (rCons (rV 6) (rNil))))) (rNil)))) (rSl (rV 14) (rPart (rV 19)) rNoP)) (rNil)))))) (sRet (rC (.bl false))) (sNext))
    (sIf (rOr (rNot (rTru (rCall sp__law_stays [] (rCons (rV 10) (rCons (rV 5) (rCons (rV 6) (rCons (rV 7) (rNil)))))))) (rTst (rOp oNe (rCall sp_demands [] (rCons (rCallK sp_eased 0 2 (gI [1, 0]) rNil (rCons (rV 14) (rCons (rV 10) (rNil)))) (rNil))) (rV 14)))) (sRet (rC (.bl false))) (sNext))))))))))))))
    (sRet (rC (.bl true))))))
def T_law_12 : DS := sSeq (sSet 11 (rCall sp__law_due_v3 [] (rCons (rV 5) (rCons (rV 6) (rNil)))))
    (sSeq (sIf (rOr (rTst (rOp oNe (rCall sp_demands [] (rCons (rV 10) (rNil))) (rV 11))) (rTst (rOp oNe (rCallK sp_demands 0 1 (gI [0]) rNil (rCons (rV 10) (rNil))) (rV 11)))) (sRet (rC (.bl false))) (sNext))
    (sSeq (sFor (iAny (rOp oAdd (rLst (rCons (rCall sp__law_cell_at [] (rCons (rV 0) (rCons (rC (.int 2)) (rNil)))) (rNil))) (rSl (rV 0) (rPart (rC (.int 3))) (rPart (rC (.int 6)))))) (gN 12) (sSeq (sSet 1 (rCall sp__law_spring [] (rCons (rV 12) (rNil))))
    (sSeq (sSet 13 (rCall sp__law_draw_v2 [] (rCons (rV 1) (rCons (rC (.int 3)) (rNil)))))
    (sSeq (sSet 14 (rLc (iAny (rV 11)) [22] (gN 22) (rTst (rOp oEq (rCall sp__law_draw_v2 [] (rCons (rV 1) (rCons (rC (.int 2)) (rNil)))) (rC (.int 1)))) (rV 22)))
    (sSeq (sSet 15 (rOp oIx (rLst (rCons (rV 14) (rCons (rRev (rV 14)) (rCons (rOp oAdd (rV 14) (rSl (rV 14) rNoP (rPart (rC (.int 1))))) (rNil))))) (rV 13)))
    (sSeq (sSet 16 (rCB cLst (rCons (rV 15) (rNil))))
    (sSeq (sSet 17 (rCall sp_eased [] (rCons (rV 10) (rCons (rV 15) (rNil)))))
    (sSeq (sSet 18 (rLc (iAny (rV 5)) [21] (gN 21) (qYes) (rOp oAdd (rSl (rV 21) rNoP (rPart (rC (.int 4)))) (rTup (rCons (rOp oMul (rOp oIx (rV 21) (rC (.int 4))) (rCB cInt (rCons (rOp (oInN false) (rTup (rCons (rC (.str "least")) (rCons (rOp oIx (rV 21) (rC (.int 3))) (rNil)))) (rV 14)) (rNil)))) (rCons (rOp oIx (rV 21) (rC (.int 5))) (rNil)))))))
    (sSeq (sSet 8 (rLcM (iAny (rV 6)) [23] (gN 23) (rTst (rOp (oInN false) (rV 23) (rV 14))) (rV 23)))
    (sSeq (sIf (rOr (rNot (rTru (rCall sp__law_stays [] (rCons (rV 17) (rCons (rV 18) (rCons (rSeal (rV 8)) (rCons (rV 7) (rNil)))))))) (rTst (rOp oNe (rV 15) (rV 16)))) (sRet (rC (.bl false))) (sNext))
    (sSeq (sSet 19 (rCall sp__law_draw_v2 [] (rCons (rV 1) (rCons (rOp oAdd (rCB cLen (rCons (rV 14) (rNil))) (rC (.int 1))) (rNil)))))
    (sSeq (sIf (rNot (rTru (rCall sp__law_refused_v6 [] (rCons (rV 10) (rCons (rOp oAdd (rOp oAdd (rSl (rV 14) rNoP (rPart (rV 19))) (rLst (rCons (rCall sp__law_odd_v3 [] (rCons (rV 1) (rCons (rV 5) (rCons (rV 6) (rNil))))) (rNil)))) (rSl (rV 14) (rPart (rV 19)) rNoP)) (rNil)))))) (sRet (rC (.bl false))) (sNext))
    (sIf (rOr (rNot (rTru (rCall sp__law_stays [] (rCons (rV 10) (rCons (rV 5) (rCons (rV 6) (rCons (rV 7) (rNil)))))))) (rTst (rOp oNe (rCall sp_demands [] (rCons (rCallK sp_eased 0 2 (gI [1, 0]) rNil (rCons (rV 14) (rCons (rV 10) (rNil)))) (rNil))) (rV 14)))) (sRet (rC (.bl false))) (sNext))))))))))))))
    (sRet (rC (.bl true)))))
def T_law_13 : DS := sSeq (sIf (rOr (rTst (rOp oNe (rCall sp_demands [] (rCons (rV 10) (rNil))) (rV 11))) (rTst (rOp oNe (rCallK sp_demands 0 1 (gI [0]) rNil (rCons (rV 10) (rNil))) (rV 11)))) (sRet (rC (.bl false))) (sNext))
    (sSeq (sFor (iAny (rOp oAdd (rLst (rCons (rCall sp__law_cell_at [] (rCons (rV 0) (rCons (rC (.int 2)) (rNil)))) (rNil))) (rSl (rV 0) (rPart (rC (.int 3))) (rPart (rC (.int 6)))))) (gN 12) (sSeq (sSet 1 (rCall sp__law_spring [] (rCons (rV 12) (rNil))))
    (sSeq (sSet 13 (rCall sp__law_draw_v2 [] (rCons (rV 1) (rCons (rC (.int 3)) (rNil)))))
    (sSeq (sSet 14 (rLc (iAny (rV 11)) [22] (gN 22) (rTst (rOp oEq (rCall sp__law_draw_v2 [] (rCons (rV 1) (rCons (rC (.int 2)) (rNil)))) (rC (.int 1)))) (rV 22)))
    (sSeq (sSet 15 (rOp oIx (rLst (rCons (rV 14) (rCons (rRev (rV 14)) (rCons (rOp oAdd (rV 14) (rSl (rV 14) rNoP (rPart (rC (.int 1))))) (rNil))))) (rV 13)))
    (sSeq (sSet 16 (rCB cLst (rCons (rV 15) (rNil))))
    (sSeq (sSet 17 (rCall sp_eased [] (rCons (rV 10) (rCons (rV 15) (rNil)))))
    (sSeq (sSet 18 (rLc (iAny (rV 5)) [21] (gN 21) (qYes) (rOp oAdd (rSl (rV 21) rNoP (rPart (rC (.int 4)))) (rTup (rCons (rOp oMul (rOp oIx (rV 21) (rC (.int 4))) (rCB cInt (rCons (rOp (oInN false) (rTup (rCons (rC (.str "least")) (rCons (rOp oIx (rV 21) (rC (.int 3))) (rNil)))) (rV 14)) (rNil)))) (rCons (rOp oIx (rV 21) (rC (.int 5))) (rNil)))))))
    (sSeq (sSet 8 (rLcM (iAny (rV 6)) [23] (gN 23) (rTst (rOp (oInN false) (rV 23) (rV 14))) (rV 23)))
    (sSeq (sIf (rOr (rNot (rTru (rCall sp__law_stays [] (rCons (rV 17) (rCons (rV 18) (rCons (rSeal (rV 8)) (rCons (rV 7) (rNil)))))))) (rTst (rOp oNe (rV 15) (rV 16)))) (sRet (rC (.bl false))) (sNext))
    (sSeq (sSet 19 (rCall sp__law_draw_v2 [] (rCons (rV 1) (rCons (rOp oAdd (rCB cLen (rCons (rV 14) (rNil))) (rC (.int 1))) (rNil)))))
    (sSeq (sIf (rNot (rTru (rCall sp__law_refused_v6 [] (rCons (rV 10) (rCons (rOp oAdd (rOp oAdd (rSl (rV 14) rNoP (rPart (rV 19))) (rLst (rCons (rCall sp__law_odd_v3 [] (rCons (rV 1) (rCons (rV 5) (rCons (rV 6) (rNil))))) (rNil)))) (rSl (rV 14) (rPart (rV 19)) rNoP)) (rNil)))))) (sRet (rC (.bl false))) (sNext))
    (sIf (rOr (rNot (rTru (rCall sp__law_stays [] (rCons (rV 10) (rCons (rV 5) (rCons (rV 6) (rCons (rV 7) (rNil)))))))) (rTst (rOp oNe (rCall sp_demands [] (rCons (rCallK sp_eased 0 2 (gI [1, 0]) rNil (rCons (rV 14) (rCons (rV 10) (rNil)))) (rNil))) (rV 14)))) (sRet (rC (.bl false))) (sNext))))))))))))))
    (sRet (rC (.bl true))))
def T_law_14 : DS := sSeq (sFor (iAny (rOp oAdd (rLst (rCons (rCall sp__law_cell_at [] (rCons (rV 0) (rCons (rC (.int 2)) (rNil)))) (rNil))) (rSl (rV 0) (rPart (rC (.int 3))) (rPart (rC (.int 6)))))) (gN 12) (sSeq (sSet 1 (rCall sp__law_spring [] (rCons (rV 12) (rNil))))
    (sSeq (sSet 13 (rCall sp__law_draw_v2 [] (rCons (rV 1) (rCons (rC (.int 3)) (rNil)))))
    (sSeq (sSet 14 (rLc (iAny (rV 11)) [22] (gN 22) (rTst (rOp oEq (rCall sp__law_draw_v2 [] (rCons (rV 1) (rCons (rC (.int 2)) (rNil)))) (rC (.int 1)))) (rV 22)))
    (sSeq (sSet 15 (rOp oIx (rLst (rCons (rV 14) (rCons (rRev (rV 14)) (rCons (rOp oAdd (rV 14) (rSl (rV 14) rNoP (rPart (rC (.int 1))))) (rNil))))) (rV 13)))
    (sSeq (sSet 16 (rCB cLst (rCons (rV 15) (rNil))))
    (sSeq (sSet 17 (rCall sp_eased [] (rCons (rV 10) (rCons (rV 15) (rNil)))))
    (sSeq (sSet 18 (rLc (iAny (rV 5)) [21] (gN 21) (qYes) (rOp oAdd (rSl (rV 21) rNoP (rPart (rC (.int 4)))) (rTup (rCons (rOp oMul (rOp oIx (rV 21) (rC (.int 4))) (rCB cInt (rCons (rOp (oInN false) (rTup (rCons (rC (.str "least")) (rCons (rOp oIx (rV 21) (rC (.int 3))) (rNil)))) (rV 14)) (rNil)))) (rCons (rOp oIx (rV 21) (rC (.int 5))) (rNil)))))))
    (sSeq (sSet 8 (rLcM (iAny (rV 6)) [23] (gN 23) (rTst (rOp (oInN false) (rV 23) (rV 14))) (rV 23)))
    (sSeq (sIf (rOr (rNot (rTru (rCall sp__law_stays [] (rCons (rV 17) (rCons (rV 18) (rCons (rSeal (rV 8)) (rCons (rV 7) (rNil)))))))) (rTst (rOp oNe (rV 15) (rV 16)))) (sRet (rC (.bl false))) (sNext))
    (sSeq (sSet 19 (rCall sp__law_draw_v2 [] (rCons (rV 1) (rCons (rOp oAdd (rCB cLen (rCons (rV 14) (rNil))) (rC (.int 1))) (rNil)))))
    (sSeq (sIf (rNot (rTru (rCall sp__law_refused_v6 [] (rCons (rV 10) (rCons (rOp oAdd (rOp oAdd (rSl (rV 14) rNoP (rPart (rV 19))) (rLst (rCons (rCall sp__law_odd_v3 [] (rCons (rV 1) (rCons (rV 5) (rCons (rV 6) (rNil))))) (rNil)))) (rSl (rV 14) (rPart (rV 19)) rNoP)) (rNil)))))) (sRet (rC (.bl false))) (sNext))
    (sIf (rOr (rNot (rTru (rCall sp__law_stays [] (rCons (rV 10) (rCons (rV 5) (rCons (rV 6) (rCons (rV 7) (rNil)))))))) (rTst (rOp oNe (rCall sp_demands [] (rCons (rCallK sp_eased 0 2 (gI [1, 0]) rNil (rCons (rV 14) (rCons (rV 10) (rNil)))) (rNil))) (rV 14)))) (sRet (rC (.bl false))) (sNext))))))))))))))
    (sRet (rC (.bl true)))
def T_law_15 : DS := sSeq (sSet 13 (rCall sp__law_draw_v2 [] (rCons (rV 1) (rCons (rC (.int 3)) (rNil)))))
    (sSeq (sSet 14 (rLc (iAny (rV 11)) [22] (gN 22) (rTst (rOp oEq (rCall sp__law_draw_v2 [] (rCons (rV 1) (rCons (rC (.int 2)) (rNil)))) (rC (.int 1)))) (rV 22)))
    (sSeq (sSet 15 (rOp oIx (rLst (rCons (rV 14) (rCons (rRev (rV 14)) (rCons (rOp oAdd (rV 14) (rSl (rV 14) rNoP (rPart (rC (.int 1))))) (rNil))))) (rV 13)))
    (sSeq (sSet 16 (rCB cLst (rCons (rV 15) (rNil))))
    (sSeq (sSet 17 (rCall sp_eased [] (rCons (rV 10) (rCons (rV 15) (rNil)))))
    (sSeq (sSet 18 (rLc (iAny (rV 5)) [21] (gN 21) (qYes) (rOp oAdd (rSl (rV 21) rNoP (rPart (rC (.int 4)))) (rTup (rCons (rOp oMul (rOp oIx (rV 21) (rC (.int 4))) (rCB cInt (rCons (rOp (oInN false) (rTup (rCons (rC (.str "least")) (rCons (rOp oIx (rV 21) (rC (.int 3))) (rNil)))) (rV 14)) (rNil)))) (rCons (rOp oIx (rV 21) (rC (.int 5))) (rNil)))))))
    (sSeq (sSet 8 (rLcM (iAny (rV 6)) [23] (gN 23) (rTst (rOp (oInN false) (rV 23) (rV 14))) (rV 23)))
    (sSeq (sIf (rOr (rNot (rTru (rCall sp__law_stays [] (rCons (rV 17) (rCons (rV 18) (rCons (rSeal (rV 8)) (rCons (rV 7) (rNil)))))))) (rTst (rOp oNe (rV 15) (rV 16)))) (sRet (rC (.bl false))) (sNext))
    (sSeq (sSet 19 (rCall sp__law_draw_v2 [] (rCons (rV 1) (rCons (rOp oAdd (rCB cLen (rCons (rV 14) (rNil))) (rC (.int 1))) (rNil)))))
    (sSeq (sIf (rNot (rTru (rCall sp__law_refused_v6 [] (rCons (rV 10) (rCons (rOp oAdd (rOp oAdd (rSl (rV 14) rNoP (rPart (rV 19))) (rLst (rCons (rCall sp__law_odd_v3 [] (rCons (rV 1) (rCons (rV 5) (rCons (rV 6) (rNil))))) (rNil)))) (rSl (rV 14) (rPart (rV 19)) rNoP)) (rNil)))))) (sRet (rC (.bl false))) (sNext))
    (sIf (rOr (rNot (rTru (rCall sp__law_stays [] (rCons (rV 10) (rCons (rV 5) (rCons (rV 6) (rCons (rV 7) (rNil)))))))) (rTst (rOp oNe (rCall sp_demands [] (rCons (rCallK sp_eased 0 2 (gI [1, 0]) rNil (rCons (rV 14) (rCons (rV 10) (rNil)))) (rNil))) (rV 14)))) (sRet (rC (.bl false))) (sNext)))))))))))
def T_law_16 : DS := sSeq (sSet 14 (rLc (iAny (rV 11)) [22] (gN 22) (rTst (rOp oEq (rCall sp__law_draw_v2 [] (rCons (rV 1) (rCons (rC (.int 2)) (rNil)))) (rC (.int 1)))) (rV 22)))
    (sSeq (sSet 15 (rOp oIx (rLst (rCons (rV 14) (rCons (rRev (rV 14)) (rCons (rOp oAdd (rV 14) (rSl (rV 14) rNoP (rPart (rC (.int 1))))) (rNil))))) (rV 13)))
    (sSeq (sSet 16 (rCB cLst (rCons (rV 15) (rNil))))
    (sSeq (sSet 17 (rCall sp_eased [] (rCons (rV 10) (rCons (rV 15) (rNil)))))
    (sSeq (sSet 18 (rLc (iAny (rV 5)) [21] (gN 21) (qYes) (rOp oAdd (rSl (rV 21) rNoP (rPart (rC (.int 4)))) (rTup (rCons (rOp oMul (rOp oIx (rV 21) (rC (.int 4))) (rCB cInt (rCons (rOp (oInN false) (rTup (rCons (rC (.str "least")) (rCons (rOp oIx (rV 21) (rC (.int 3))) (rNil)))) (rV 14)) (rNil)))) (rCons (rOp oIx (rV 21) (rC (.int 5))) (rNil)))))))
    (sSeq (sSet 8 (rLcM (iAny (rV 6)) [23] (gN 23) (rTst (rOp (oInN false) (rV 23) (rV 14))) (rV 23)))
    (sSeq (sIf (rOr (rNot (rTru (rCall sp__law_stays [] (rCons (rV 17) (rCons (rV 18) (rCons (rSeal (rV 8)) (rCons (rV 7) (rNil)))))))) (rTst (rOp oNe (rV 15) (rV 16)))) (sRet (rC (.bl false))) (sNext))
    (sSeq (sSet 19 (rCall sp__law_draw_v2 [] (rCons (rV 1) (rCons (rOp oAdd (rCB cLen (rCons (rV 14) (rNil))) (rC (.int 1))) (rNil)))))
    (sSeq (sIf (rNot (rTru (rCall sp__law_refused_v6 [] (rCons (rV 10) (rCons (rOp oAdd (rOp oAdd (rSl (rV 14) rNoP (rPart (rV 19))) (rLst (rCons (rCall sp__law_odd_v3 [] (rCons (rV 1) (rCons (rV 5) (rCons (rV 6) (rNil))))) (rNil)))) (rSl (rV 14) (rPart (rV 19)) rNoP)) (rNil)))))) (sRet (rC (.bl false))) (sNext))
    (sIf (rOr (rNot (rTru (rCall sp__law_stays [] (rCons (rV 10) (rCons (rV 5) (rCons (rV 6) (rCons (rV 7) (rNil)))))))) (rTst (rOp oNe (rCall sp_demands [] (rCons (rCallK sp_eased 0 2 (gI [1, 0]) rNil (rCons (rV 14) (rCons (rV 10) (rNil)))) (rNil))) (rV 14)))) (sRet (rC (.bl false))) (sNext))))))))))
def T_law_17 : DS := sSeq (sSet 15 (rOp oIx (rLst (rCons (rV 14) (rCons (rRev (rV 14)) (rCons (rOp oAdd (rV 14) (rSl (rV 14) rNoP (rPart (rC (.int 1))))) (rNil))))) (rV 13)))
    (sSeq (sSet 16 (rCB cLst (rCons (rV 15) (rNil))))
    (sSeq (sSet 17 (rCall sp_eased [] (rCons (rV 10) (rCons (rV 15) (rNil)))))
    (sSeq (sSet 18 (rLc (iAny (rV 5)) [21] (gN 21) (qYes) (rOp oAdd (rSl (rV 21) rNoP (rPart (rC (.int 4)))) (rTup (rCons (rOp oMul (rOp oIx (rV 21) (rC (.int 4))) (rCB cInt (rCons (rOp (oInN false) (rTup (rCons (rC (.str "least")) (rCons (rOp oIx (rV 21) (rC (.int 3))) (rNil)))) (rV 14)) (rNil)))) (rCons (rOp oIx (rV 21) (rC (.int 5))) (rNil)))))))
    (sSeq (sSet 8 (rLcM (iAny (rV 6)) [23] (gN 23) (rTst (rOp (oInN false) (rV 23) (rV 14))) (rV 23)))
    (sSeq (sIf (rOr (rNot (rTru (rCall sp__law_stays [] (rCons (rV 17) (rCons (rV 18) (rCons (rSeal (rV 8)) (rCons (rV 7) (rNil)))))))) (rTst (rOp oNe (rV 15) (rV 16)))) (sRet (rC (.bl false))) (sNext))
    (sSeq (sSet 19 (rCall sp__law_draw_v2 [] (rCons (rV 1) (rCons (rOp oAdd (rCB cLen (rCons (rV 14) (rNil))) (rC (.int 1))) (rNil)))))
    (sSeq (sIf (rNot (rTru (rCall sp__law_refused_v6 [] (rCons (rV 10) (rCons (rOp oAdd (rOp oAdd (rSl (rV 14) rNoP (rPart (rV 19))) (rLst (rCons (rCall sp__law_odd_v3 [] (rCons (rV 1) (rCons (rV 5) (rCons (rV 6) (rNil))))) (rNil)))) (rSl (rV 14) (rPart (rV 19)) rNoP)) (rNil)))))) (sRet (rC (.bl false))) (sNext))
    (sIf (rOr (rNot (rTru (rCall sp__law_stays [] (rCons (rV 10) (rCons (rV 5) (rCons (rV 6) (rCons (rV 7) (rNil)))))))) (rTst (rOp oNe (rCall sp_demands [] (rCons (rCallK sp_eased 0 2 (gI [1, 0]) rNil (rCons (rV 14) (rCons (rV 10) (rNil)))) (rNil))) (rV 14)))) (sRet (rC (.bl false))) (sNext)))))))))
def T_law_18 : DS := sSeq (sSet 16 (rCB cLst (rCons (rV 15) (rNil))))
    (sSeq (sSet 17 (rCall sp_eased [] (rCons (rV 10) (rCons (rV 15) (rNil)))))
    (sSeq (sSet 18 (rLc (iAny (rV 5)) [21] (gN 21) (qYes) (rOp oAdd (rSl (rV 21) rNoP (rPart (rC (.int 4)))) (rTup (rCons (rOp oMul (rOp oIx (rV 21) (rC (.int 4))) (rCB cInt (rCons (rOp (oInN false) (rTup (rCons (rC (.str "least")) (rCons (rOp oIx (rV 21) (rC (.int 3))) (rNil)))) (rV 14)) (rNil)))) (rCons (rOp oIx (rV 21) (rC (.int 5))) (rNil)))))))
    (sSeq (sSet 8 (rLcM (iAny (rV 6)) [23] (gN 23) (rTst (rOp (oInN false) (rV 23) (rV 14))) (rV 23)))
    (sSeq (sIf (rOr (rNot (rTru (rCall sp__law_stays [] (rCons (rV 17) (rCons (rV 18) (rCons (rSeal (rV 8)) (rCons (rV 7) (rNil)))))))) (rTst (rOp oNe (rV 15) (rV 16)))) (sRet (rC (.bl false))) (sNext))
    (sSeq (sSet 19 (rCall sp__law_draw_v2 [] (rCons (rV 1) (rCons (rOp oAdd (rCB cLen (rCons (rV 14) (rNil))) (rC (.int 1))) (rNil)))))
    (sSeq (sIf (rNot (rTru (rCall sp__law_refused_v6 [] (rCons (rV 10) (rCons (rOp oAdd (rOp oAdd (rSl (rV 14) rNoP (rPart (rV 19))) (rLst (rCons (rCall sp__law_odd_v3 [] (rCons (rV 1) (rCons (rV 5) (rCons (rV 6) (rNil))))) (rNil)))) (rSl (rV 14) (rPart (rV 19)) rNoP)) (rNil)))))) (sRet (rC (.bl false))) (sNext))
    (sIf (rOr (rNot (rTru (rCall sp__law_stays [] (rCons (rV 10) (rCons (rV 5) (rCons (rV 6) (rCons (rV 7) (rNil)))))))) (rTst (rOp oNe (rCall sp_demands [] (rCons (rCallK sp_eased 0 2 (gI [1, 0]) rNil (rCons (rV 14) (rCons (rV 10) (rNil)))) (rNil))) (rV 14)))) (sRet (rC (.bl false))) (sNext))))))))
def T_law_19 : DS := sSeq (sSet 17 (rCall sp_eased [] (rCons (rV 10) (rCons (rV 15) (rNil)))))
    (sSeq (sSet 18 (rLc (iAny (rV 5)) [21] (gN 21) (qYes) (rOp oAdd (rSl (rV 21) rNoP (rPart (rC (.int 4)))) (rTup (rCons (rOp oMul (rOp oIx (rV 21) (rC (.int 4))) (rCB cInt (rCons (rOp (oInN false) (rTup (rCons (rC (.str "least")) (rCons (rOp oIx (rV 21) (rC (.int 3))) (rNil)))) (rV 14)) (rNil)))) (rCons (rOp oIx (rV 21) (rC (.int 5))) (rNil)))))))
    (sSeq (sSet 8 (rLcM (iAny (rV 6)) [23] (gN 23) (rTst (rOp (oInN false) (rV 23) (rV 14))) (rV 23)))
    (sSeq (sIf (rOr (rNot (rTru (rCall sp__law_stays [] (rCons (rV 17) (rCons (rV 18) (rCons (rSeal (rV 8)) (rCons (rV 7) (rNil)))))))) (rTst (rOp oNe (rV 15) (rV 16)))) (sRet (rC (.bl false))) (sNext))
    (sSeq (sSet 19 (rCall sp__law_draw_v2 [] (rCons (rV 1) (rCons (rOp oAdd (rCB cLen (rCons (rV 14) (rNil))) (rC (.int 1))) (rNil)))))
    (sSeq (sIf (rNot (rTru (rCall sp__law_refused_v6 [] (rCons (rV 10) (rCons (rOp oAdd (rOp oAdd (rSl (rV 14) rNoP (rPart (rV 19))) (rLst (rCons (rCall sp__law_odd_v3 [] (rCons (rV 1) (rCons (rV 5) (rCons (rV 6) (rNil))))) (rNil)))) (rSl (rV 14) (rPart (rV 19)) rNoP)) (rNil)))))) (sRet (rC (.bl false))) (sNext))
    (sIf (rOr (rNot (rTru (rCall sp__law_stays [] (rCons (rV 10) (rCons (rV 5) (rCons (rV 6) (rCons (rV 7) (rNil)))))))) (rTst (rOp oNe (rCall sp_demands [] (rCons (rCallK sp_eased 0 2 (gI [1, 0]) rNil (rCons (rV 14) (rCons (rV 10) (rNil)))) (rNil))) (rV 14)))) (sRet (rC (.bl false))) (sNext)))))))
def T_law_20 : DS := sSeq (sSet 18 (rLc (iAny (rV 5)) [21] (gN 21) (qYes) (rOp oAdd (rSl (rV 21) rNoP (rPart (rC (.int 4)))) (rTup (rCons (rOp oMul (rOp oIx (rV 21) (rC (.int 4))) (rCB cInt (rCons (rOp (oInN false) (rTup (rCons (rC (.str "least")) (rCons (rOp oIx (rV 21) (rC (.int 3))) (rNil)))) (rV 14)) (rNil)))) (rCons (rOp oIx (rV 21) (rC (.int 5))) (rNil)))))))
    (sSeq (sSet 8 (rLcM (iAny (rV 6)) [23] (gN 23) (rTst (rOp (oInN false) (rV 23) (rV 14))) (rV 23)))
    (sSeq (sIf (rOr (rNot (rTru (rCall sp__law_stays [] (rCons (rV 17) (rCons (rV 18) (rCons (rSeal (rV 8)) (rCons (rV 7) (rNil)))))))) (rTst (rOp oNe (rV 15) (rV 16)))) (sRet (rC (.bl false))) (sNext))
    (sSeq (sSet 19 (rCall sp__law_draw_v2 [] (rCons (rV 1) (rCons (rOp oAdd (rCB cLen (rCons (rV 14) (rNil))) (rC (.int 1))) (rNil)))))
    (sSeq (sIf (rNot (rTru (rCall sp__law_refused_v6 [] (rCons (rV 10) (rCons (rOp oAdd (rOp oAdd (rSl (rV 14) rNoP (rPart (rV 19))) (rLst (rCons (rCall sp__law_odd_v3 [] (rCons (rV 1) (rCons (rV 5) (rCons (rV 6) (rNil))))) (rNil)))) (rSl (rV 14) (rPart (rV 19)) rNoP)) (rNil)))))) (sRet (rC (.bl false))) (sNext))
    (sIf (rOr (rNot (rTru (rCall sp__law_stays [] (rCons (rV 10) (rCons (rV 5) (rCons (rV 6) (rCons (rV 7) (rNil)))))))) (rTst (rOp oNe (rCall sp_demands [] (rCons (rCallK sp_eased 0 2 (gI [1, 0]) rNil (rCons (rV 14) (rCons (rV 10) (rNil)))) (rNil))) (rV 14)))) (sRet (rC (.bl false))) (sNext))))))
def T_law_21 : DS := sSeq (sSet 8 (rLcM (iAny (rV 6)) [23] (gN 23) (rTst (rOp (oInN false) (rV 23) (rV 14))) (rV 23)))
    (sSeq (sIf (rOr (rNot (rTru (rCall sp__law_stays [] (rCons (rV 17) (rCons (rV 18) (rCons (rSeal (rV 8)) (rCons (rV 7) (rNil)))))))) (rTst (rOp oNe (rV 15) (rV 16)))) (sRet (rC (.bl false))) (sNext))
    (sSeq (sSet 19 (rCall sp__law_draw_v2 [] (rCons (rV 1) (rCons (rOp oAdd (rCB cLen (rCons (rV 14) (rNil))) (rC (.int 1))) (rNil)))))
    (sSeq (sIf (rNot (rTru (rCall sp__law_refused_v6 [] (rCons (rV 10) (rCons (rOp oAdd (rOp oAdd (rSl (rV 14) rNoP (rPart (rV 19))) (rLst (rCons (rCall sp__law_odd_v3 [] (rCons (rV 1) (rCons (rV 5) (rCons (rV 6) (rNil))))) (rNil)))) (rSl (rV 14) (rPart (rV 19)) rNoP)) (rNil)))))) (sRet (rC (.bl false))) (sNext))
    (sIf (rOr (rNot (rTru (rCall sp__law_stays [] (rCons (rV 10) (rCons (rV 5) (rCons (rV 6) (rCons (rV 7) (rNil)))))))) (rTst (rOp oNe (rCall sp_demands [] (rCons (rCallK sp_eased 0 2 (gI [1, 0]) rNil (rCons (rV 14) (rCons (rV 10) (rNil)))) (rNil))) (rV 14)))) (sRet (rC (.bl false))) (sNext)))))
def T_law_22 : DS := sSeq (sIf (rOr (rNot (rTru (rCall sp__law_stays [] (rCons (rV 17) (rCons (rV 18) (rCons (rSeal (rV 8)) (rCons (rV 7) (rNil)))))))) (rTst (rOp oNe (rV 15) (rV 16)))) (sRet (rC (.bl false))) (sNext))
    (sSeq (sSet 19 (rCall sp__law_draw_v2 [] (rCons (rV 1) (rCons (rOp oAdd (rCB cLen (rCons (rV 14) (rNil))) (rC (.int 1))) (rNil)))))
    (sSeq (sIf (rNot (rTru (rCall sp__law_refused_v6 [] (rCons (rV 10) (rCons (rOp oAdd (rOp oAdd (rSl (rV 14) rNoP (rPart (rV 19))) (rLst (rCons (rCall sp__law_odd_v3 [] (rCons (rV 1) (rCons (rV 5) (rCons (rV 6) (rNil))))) (rNil)))) (rSl (rV 14) (rPart (rV 19)) rNoP)) (rNil)))))) (sRet (rC (.bl false))) (sNext))
    (sIf (rOr (rNot (rTru (rCall sp__law_stays [] (rCons (rV 10) (rCons (rV 5) (rCons (rV 6) (rCons (rV 7) (rNil)))))))) (rTst (rOp oNe (rCall sp_demands [] (rCons (rCallK sp_eased 0 2 (gI [1, 0]) rNil (rCons (rV 14) (rCons (rV 10) (rNil)))) (rNil))) (rV 14)))) (sRet (rC (.bl false))) (sNext))))
def T_law_23 : DS := sSeq (sSet 19 (rCall sp__law_draw_v2 [] (rCons (rV 1) (rCons (rOp oAdd (rCB cLen (rCons (rV 14) (rNil))) (rC (.int 1))) (rNil)))))
    (sSeq (sIf (rNot (rTru (rCall sp__law_refused_v6 [] (rCons (rV 10) (rCons (rOp oAdd (rOp oAdd (rSl (rV 14) rNoP (rPart (rV 19))) (rLst (rCons (rCall sp__law_odd_v3 [] (rCons (rV 1) (rCons (rV 5) (rCons (rV 6) (rNil))))) (rNil)))) (rSl (rV 14) (rPart (rV 19)) rNoP)) (rNil)))))) (sRet (rC (.bl false))) (sNext))
    (sIf (rOr (rNot (rTru (rCall sp__law_stays [] (rCons (rV 10) (rCons (rV 5) (rCons (rV 6) (rCons (rV 7) (rNil)))))))) (rTst (rOp oNe (rCall sp_demands [] (rCons (rCallK sp_eased 0 2 (gI [1, 0]) rNil (rCons (rV 14) (rCons (rV 10) (rNil)))) (rNil))) (rV 14)))) (sRet (rC (.bl false))) (sNext)))
def T_law_24 : DS := sSeq (sIf (rNot (rTru (rCall sp__law_refused_v6 [] (rCons (rV 10) (rCons (rOp oAdd (rOp oAdd (rSl (rV 14) rNoP (rPart (rV 19))) (rLst (rCons (rCall sp__law_odd_v3 [] (rCons (rV 1) (rCons (rV 5) (rCons (rV 6) (rNil))))) (rNil)))) (rSl (rV 14) (rPart (rV 19)) rNoP)) (rNil)))))) (sRet (rC (.bl false))) (sNext))
    (sIf (rOr (rNot (rTru (rCall sp__law_stays [] (rCons (rV 10) (rCons (rV 5) (rCons (rV 6) (rCons (rV 7) (rNil)))))))) (rTst (rOp oNe (rCall sp_demands [] (rCons (rCallK sp_eased 0 2 (gI [1, 0]) rNil (rCons (rV 14) (rCons (rV 10) (rNil)))) (rNil))) (rV 14)))) (sRet (rC (.bl false))) (sNext))
def T_law_25 : DS := sIf (rOr (rNot (rTru (rCall sp__law_stays [] (rCons (rV 10) (rCons (rV 5) (rCons (rV 6) (rCons (rV 7) (rNil)))))))) (rTst (rOp oNe (rCall sp_demands [] (rCons (rCallK sp_eased 0 2 (gI [1, 0]) rNil (rCons (rV 14) (rCons (rV 10) (rNil)))) (rNil))) (rV 14)))) (sRet (rC (.bl false))) (sNext)
def T_law_26 : DS := sRet (rC (.bl true))
/-- what the top has left -/
structure Tx (w : World) (K : PySem.W.Frag) (mg : Str → Option Value) : Prop where
  f_is_whole : FunAt K mg "is_whole" "is_whole" s_is_whole
  f_is_name : FunAt K mg "is_name" "is_name" s_is_name
  f_are_unlike : FunAt K mg "are_unlike" "are_unlike" s_are_unlike
  f_is_one : FunAt K mg "is_one" "is_one" s_is_one
  f_is_plain : FunAt K mg "is_plain" "is_plain" s_is_plain
  f_is_look : FunAt K mg "is_look" "is_look" s_is_look
  f_are_looks : FunAt K mg "are_looks" "are_looks" s_are_looks
  f_is_count : FunAt K mg "is_count" "is_count" s_is_count
  f_Wish___init__ : MkAt K mg "Wish" "Wish.__init__" s_Wish___init__ [.non, .non] [("least", .int 1), ("most", .int 1)]
  f_is_order : FunAt K mg "is_order" "is_order" s_is_order
  f_are_orders : FunAt K mg "are_orders" "are_orders" s_are_orders
  f_are_strict : FunAt K mg "are_strict" "are_strict" s_are_strict
  f_Plan___init__ : MkAt K mg "Plan" "Plan.__init__" s_Plan___init__ [] [("orders", .tup []), ("strict", .tup [])]
  f_Plan_wishes : MetAt K "Plan" "wishes" "Plan.wishes" s_Plan_wishes [] []
  f_demands : FunAt K mg "demands" "demands" s_demands
  f_eased_wish : FunAt K mg "eased_wish" "eased_wish" s_eased_wish
  f_eased : FunAt K mg "eased" "eased" s_eased
  f__law_cell_at : FunAt K mg "_law_cell_at" "_law_cell_at" s__law_cell_at
  f__law_spring : FunAt K mg "_law_spring" "_law_spring" s__law_spring
  f__law_draw : FunAt K mg "_law_draw" "_law_draw" s__law_draw
  f__law_one : FunAt K mg "_law_one" "_law_one" s__law_one
  f__law_word : FunAt K mg "_law_word" "_law_word" s__law_word
  f__law_look : FunAt K mg "_law_look" "_law_look" s__law_look
  f__law_wish : FunAt K mg "_law_wish" "_law_wish" s__law_wish
  f__law_orders : FunAt K mg "_law_orders" "_law_orders" s__law_orders
  f__law_due : FunAt K mg "_law_due" "_law_due" s__law_due
  f__law_row : FunAt K mg "_law_row" "_law_row" s__law_row
  f__law_stays : FunAt K mg "_law_stays" "_law_stays" s__law_stays
  f__law_refused : FunAt K mg "_law_refused" "_law_refused" s__law_refused
  f__law_odd : FunAt K mg "_law_odd" "_law_odd" s__law_odd
  f_law : FunAt K mg "law" "law" s_law
  x_BadPlan : XAt K mg "BadPlan" s_TrialError___init__
  x_BadWish : XAt K mg "BadWish" s_TrialError___init__
  vV : PySem.W.findCls K (.type "ValueError") (.type "type") "__init__" = some (.val (.builtin "ValueError.__init__"))
  b_ValueError : mg "ValueError" = none
  b_all : mg "all" = none
  b_bool : mg "bool" = none
  b_enumerate : mg "enumerate" = none
  b_int : mg "int" = none
  b_isinstance : mg "isinstance" = none
  b_len : mg "len" = none
  b_list : mg "list" = none
  b_range : mg "range" = none
  b_sorted : mg "sorted" = none
  b_str : mg "str" = none
  b_tuple : mg "tuple" = none
  c0_LETTERS : ∃ t, mg "LETTERS" = some (.str "abcdefghijklmnopqrstuvwxyz" t)
  c0_MOST_COUNT : ∃ t, mg "MOST_COUNT" = some (.int 4 t)
  c0_MOST_LETTERS : ∃ t, mg "MOST_LETTERS" = some (.int 8 t)
  c0_MOST_ONE : ∃ t, mg "MOST_ONE" = some (.int 4 t)
  c0_MOST_ORDERS : ∃ t, mg "MOST_ORDERS" = some (.int 12 t)
  c0_MOST_STRICT : ∃ t, mg "MOST_STRICT" = some (.int 4 t)
  c0_MOST_THINGS : ∃ t, mg "MOST_THINGS" = some (.int 2 t)
  c0_MOST_WISHES : ∃ t, mg "MOST_WISHES" = some (.int 5 t)
  d_SIZES : KdF K w mg "SIZES" [("any", .int 1), ("is", .int 2), ("from", .int 2), ("to", .int 2), ("in", .int 3), ("one", .int 2)]
  ea_BadPlan : ExAt K mg "BadPlan"
  fl_Plan_orders : FldF K "Plan" "orders"
  fl_Plan_strict : FldF K "Plan" "strict"
  fl_Plan_told : FldF K "Plan" "told"
  fl_Wish_deed : FldF K "Wish" "deed"
  fl_Wish_least : FldF K "Wish" "least"
  fl_Wish_looks : FldF K "Wish" "looks"
  fl_Wish_most : FldF K "Wish" "most"
  fl_Wish_name : FldF K "Wish" "name"
  fl_Wish_part : FldF K "Wish" "part"
  g_BadAsk : GlbF K mg "BadAsk"
  g_BadWish : GlbF K mg "BadWish"
  g_Plan : GlbF K mg "Plan"
  g_Wish : GlbF K mg "Wish"
  iso : IsoF K
  k_ORDERS : ConF K mg "ORDERS" (.tup [.str "all", .str "ready"])
  xc : XcF K
  xi : XiF K
theorem bb_ValueError : bootBuiltins "ValueError" = some (.type "ValueError") := by decide +kernel
theorem bb_all : bootBuiltins "all" = some (.builtin "all") := by decide +kernel
theorem bb_bool : bootBuiltins "bool" = some (.type "bool") := by decide +kernel
theorem bb_enumerate : bootBuiltins "enumerate" = some (.type "enumerate") := by decide +kernel
theorem bb_int : bootBuiltins "int" = some (.type "int") := by decide +kernel
theorem bb_isinstance : bootBuiltins "isinstance" = some (.builtin "isinstance") := by decide +kernel
theorem bb_len : bootBuiltins "len" = some (.builtin "len") := by decide +kernel
theorem bb_list : bootBuiltins "list" = some (.type "list") := by decide +kernel
theorem bb_range : bootBuiltins "range" = some (.type "range") := by decide +kernel
theorem bb_sorted : bootBuiltins "sorted" = some (.builtin "sorted") := by decide +kernel
theorem bb_str : bootBuiltins "str" = some (.type "str") := by decide +kernel
theorem bb_tuple : bootBuiltins "tuple" = some (.type "tuple") := by decide +kernel
theorem sc_is_whole : FnScope N_is_whole ["thing"] (defScope s_is_whole) := ⟨rfl, rfl, rfl, by decide +kernel, rfl, by decide +kernel, by decide +kernel⟩
theorem bi_is_whole : BindAll "is_whole" "is_whole" s_is_whole ["thing"] := fun _ _ _ _ _ _ us hl => match us, hl with | [_], _ => rfl
theorem sc_is_name : FnScope N_is_name ["thing"] (defScope s_is_name) := ⟨rfl, rfl, rfl, by decide +kernel, rfl, by decide +kernel, by decide +kernel⟩
theorem bi_is_name : BindAll "is_name" "is_name" s_is_name ["thing"] := fun _ _ _ _ _ _ us hl => match us, hl with | [_], _ => rfl
theorem sc_are_unlike : FnScope N_are_unlike ["some"] (defScope s_are_unlike) := ⟨rfl, rfl, rfl, by decide +kernel, rfl, by decide +kernel, by decide +kernel⟩
theorem bi_are_unlike : BindAll "are_unlike" "are_unlike" s_are_unlike ["some"] := fun _ _ _ _ _ _ us hl => match us, hl with | [_], _ => rfl
theorem sc_is_one : FnScope N_is_one ["numbers"] (defScope s_is_one) := ⟨rfl, rfl, rfl, by decide +kernel, rfl, by decide +kernel, by decide +kernel⟩
theorem bi_is_one : BindAll "is_one" "is_one" s_is_one ["numbers"] := fun _ _ _ _ _ _ us hl => match us, hl with | [_], _ => rfl
theorem sc_is_plain : FnScope N_is_plain ["look"] (defScope s_is_plain) := ⟨rfl, rfl, rfl, by decide +kernel, rfl, by decide +kernel, by decide +kernel⟩
theorem bi_is_plain : BindAll "is_plain" "is_plain" s_is_plain ["look"] := fun _ _ _ _ _ _ us hl => match us, hl with | [_], _ => rfl
theorem sc_is_look : FnScope N_is_look ["look"] (defScope s_is_look) := ⟨rfl, rfl, rfl, by decide +kernel, rfl, by decide +kernel, by decide +kernel⟩
theorem bi_is_look : BindAll "is_look" "is_look" s_is_look ["look"] := fun _ _ _ _ _ _ us hl => match us, hl with | [_], _ => rfl
theorem sc_are_looks : FnScope N_are_looks ["looks"] (defScope s_are_looks) := ⟨rfl, rfl, rfl, by decide +kernel, rfl, by decide +kernel, by decide +kernel⟩
theorem bi_are_looks : BindAll "are_looks" "are_looks" s_are_looks ["looks"] := fun _ _ _ _ _ _ us hl => match us, hl with | [_], _ => rfl
theorem sc_is_count : FnScope N_is_count ["thing", "least"] (defScope s_is_count) := ⟨rfl, rfl, rfl, by decide +kernel, rfl, by decide +kernel, by decide +kernel⟩
theorem bi_is_count : BindAll "is_count" "is_count" s_is_count ["thing", "least"] := fun _ _ _ _ _ _ us hl => match us, hl with | [_, _], _ => rfl
theorem sc_Wish___init__ : FnScope N_Wish___init__ ["self", "part", "deed", "looks", "name", "least", "most"] (defScope s_Wish___init__) := ⟨rfl, rfl, rfl, by decide +kernel, rfl, by decide +kernel, by decide +kernel⟩
theorem sc_is_order : FnScope N_is_order ["row", "names"] (defScope s_is_order) := ⟨rfl, rfl, rfl, by decide +kernel, rfl, by decide +kernel, by decide +kernel⟩
theorem bi_is_order : BindAll "is_order" "is_order" s_is_order ["row", "names"] := fun _ _ _ _ _ _ us hl => match us, hl with | [_, _], _ => rfl
theorem sc_are_orders : FnScope N_are_orders ["orders", "names"] (defScope s_are_orders) := ⟨rfl, rfl, rfl, by decide +kernel, rfl, by decide +kernel, by decide +kernel⟩
theorem bi_are_orders : BindAll "are_orders" "are_orders" s_are_orders ["orders", "names"] := fun _ _ _ _ _ _ us hl => match us, hl with | [_, _], _ => rfl
theorem sc_are_strict : FnScope N_are_strict ["strict"] (defScope s_are_strict) := ⟨rfl, rfl, rfl, by decide +kernel, rfl, by decide +kernel, by decide +kernel⟩
theorem bi_are_strict : BindAll "are_strict" "are_strict" s_are_strict ["strict"] := fun _ _ _ _ _ _ us hl => match us, hl with | [_], _ => rfl
theorem sc_Plan___init__ : FnScope N_Plan___init__ ["self", "wishes", "orders", "strict"] (defScope s_Plan___init__) := ⟨rfl, rfl, rfl, by decide +kernel, rfl, by decide +kernel, by decide +kernel⟩
theorem sc_Plan_wishes : FnScope N_Plan_wishes ["self"] (defScope s_Plan_wishes) := ⟨rfl, rfl, rfl, by decide +kernel, rfl, by decide +kernel, by decide +kernel⟩
theorem sc_demands : FnScope N_demands ["plan"] (defScope s_demands) := ⟨rfl, rfl, rfl, by decide +kernel, rfl, by decide +kernel, by decide +kernel⟩
theorem bi_demands : BindAll "demands" "demands" s_demands ["plan"] := fun _ _ _ _ _ _ us hl => match us, hl with | [_], _ => rfl
theorem sc_eased_wish : FnScope N_eased_wish ["wish", "kept"] (defScope s_eased_wish) := ⟨rfl, rfl, rfl, by decide +kernel, rfl, by decide +kernel, by decide +kernel⟩
theorem bi_eased_wish : BindAll "eased_wish" "eased_wish" s_eased_wish ["wish", "kept"] := fun _ _ _ _ _ _ us hl => match us, hl with | [_, _], _ => rfl
theorem sc_eased : FnScope N_eased ["plan", "kept"] (defScope s_eased) := ⟨rfl, rfl, rfl, by decide +kernel, rfl, by decide +kernel, by decide +kernel⟩
theorem bi_eased : BindAll "eased" "eased" s_eased ["plan", "kept"] := fun _ _ _ _ _ _ us hl => match us, hl with | [_, _], _ => rfl
theorem sc__law_cell_at : FnScope N__law_cell_at ["_law_script", "_law_k"] (defScope s__law_cell_at) := ⟨rfl, rfl, rfl, by decide +kernel, rfl, by decide +kernel, by decide +kernel⟩
theorem bi__law_cell_at : BindAll "_law_cell_at" "_law_cell_at" s__law_cell_at ["_law_script", "_law_k"] := fun _ _ _ _ _ _ us hl => match us, hl with | [_, _], _ => rfl
theorem sc__law_spring : FnScope N__law_spring ["_law_cell"] (defScope s__law_spring) := ⟨rfl, rfl, rfl, by decide +kernel, rfl, by decide +kernel, by decide +kernel⟩
theorem bi__law_spring : BindAll "_law_spring" "_law_spring" s__law_spring ["_law_cell"] := fun _ _ _ _ _ _ us hl => match us, hl with | [_], _ => rfl
theorem sc__law_draw : FnScope N__law_draw ["_law_well", "_law_many"] (defScope s__law_draw) := ⟨rfl, rfl, rfl, by decide +kernel, rfl, by decide +kernel, by decide +kernel⟩
theorem bi__law_draw : BindAll "_law_draw" "_law_draw" s__law_draw ["_law_well", "_law_many"] := fun _ _ _ _ _ _ us hl => match us, hl with | [_, _], _ => rfl
theorem sc__law_one : FnScope N__law_one ["_law_well", "_law_some"] (defScope s__law_one) := ⟨rfl, rfl, rfl, by decide +kernel, rfl, by decide +kernel, by decide +kernel⟩
theorem bi__law_one : BindAll "_law_one" "_law_one" s__law_one ["_law_well", "_law_some"] := fun _ _ _ _ _ _ us hl => match us, hl with | [_, _], _ => rfl
theorem sc__law_word : FnScope N__law_word ["_law_well", "_law_size"] (defScope s__law_word) := ⟨rfl, rfl, rfl, by decide +kernel, rfl, by decide +kernel, by decide +kernel⟩
theorem bi__law_word : BindAll "_law_word" "_law_word" s__law_word ["_law_well", "_law_size"] := fun _ _ _ _ _ _ us hl => match us, hl with | [_, _], _ => rfl
theorem sc__law_look : FnScope N__law_look ["_law_well", "_law_base"] (defScope s__law_look) := ⟨rfl, rfl, rfl, by decide +kernel, rfl, by decide +kernel, by decide +kernel⟩
theorem bi__law_look : BindAll "_law_look" "_law_look" s__law_look ["_law_well", "_law_base"] := fun _ _ _ _ _ _ us hl => match us, hl with | [_, _], _ => rfl
theorem sc__law_wish : FnScope N__law_wish ["_law_well", "_law_base", "_law_last"] (defScope s__law_wish) := ⟨rfl, rfl, rfl, by decide +kernel, rfl, by decide +kernel, by decide +kernel⟩
theorem bi__law_wish : BindAll "_law_wish" "_law_wish" s__law_wish ["_law_well", "_law_base", "_law_last"] := fun _ _ _ _ _ _ us hl => match us, hl with | [_, _, _], _ => rfl
theorem sc__law_orders : FnScope N__law_orders ["_law_well", "_law_names"] (defScope s__law_orders) := ⟨rfl, rfl, rfl, by decide +kernel, rfl, by decide +kernel, by decide +kernel⟩
theorem bi__law_orders : BindAll "_law_orders" "_law_orders" s__law_orders ["_law_well", "_law_names"] := fun _ _ _ _ _ _ us hl => match us, hl with | [_, _], _ => rfl
theorem sc__law_due : FnScope N__law_due ["_law_wishes", "_law_laid"] (defScope s__law_due) := ⟨rfl, rfl, rfl, by decide +kernel, rfl, by decide +kernel, by decide +kernel⟩
theorem bi__law_due : BindAll "_law_due" "_law_due" s__law_due ["_law_wishes", "_law_laid"] := fun _ _ _ _ _ _ us hl => match us, hl with | [_, _], _ => rfl
theorem sc__law_row : FnScope N__law_row ["_law_wish_here"] (defScope s__law_row) := ⟨rfl, rfl, rfl, by decide +kernel, rfl, by decide +kernel, by decide +kernel⟩
theorem bi__law_row : BindAll "_law_row" "_law_row" s__law_row ["_law_wish_here"] := fun _ _ _ _ _ _ us hl => match us, hl with | [_], _ => rfl
theorem sc__law_stays : FnScope N__law_stays ["_law_trial", "_law_wishes", "_law_laid", "_law_firm"] (defScope s__law_stays) := ⟨rfl, rfl, rfl, by decide +kernel, rfl, by decide +kernel, by decide +kernel⟩
theorem bi__law_stays : BindAll "_law_stays" "_law_stays" s__law_stays ["_law_trial", "_law_wishes", "_law_laid", "_law_firm"] := fun _ _ _ _ _ _ us hl => match us, hl with | [_, _, _, _], _ => rfl
theorem sc__law_refused : FnScope N__law_refused ["_law_trial", "_law_some"] (defScope s__law_refused) := ⟨rfl, rfl, rfl, by decide +kernel, rfl, by decide +kernel, by decide +kernel⟩
theorem bi__law_refused : BindAll "_law_refused" "_law_refused" s__law_refused ["_law_trial", "_law_some"] := fun _ _ _ _ _ _ us hl => match us, hl with | [_, _], _ => rfl
theorem sc__law_odd : FnScope N__law_odd ["_law_well", "_law_wishes", "_law_laid"] (defScope s__law_odd) := ⟨rfl, rfl, rfl, by decide +kernel, rfl, by decide +kernel, by decide +kernel⟩
theorem bi__law_odd : BindAll "_law_odd" "_law_odd" s__law_odd ["_law_well", "_law_wishes", "_law_laid"] := fun _ _ _ _ _ _ us hl => match us, hl with | [_, _, _], _ => rfl
theorem sc_law : FnScope N_law ["_law_script"] (defScope s_law) := ⟨rfl, rfl, rfl, by decide +kernel, rfl, by decide +kernel, by decide +kernel⟩
theorem bi_law : BindAll "law" "law" s_law ["_law_script"] := fun _ _ _ _ _ _ us hl => match us, hl with | [_], _ => rfl
theorem bk_demands_0 : BindKw "demands" "demands" s_demands ["plan"] 0 ["plan"] [0] := fun _ _ _ _ _ _ us ws h1 h2 => match us, ws, h1, h2 with | [], [_], _, _ => rfl
theorem bk_eased_1 : BindKw "eased" "eased" s_eased ["plan", "kept"] 0 ["kept", "plan"] [1, 0] := fun _ _ _ _ _ _ us ws h1 h2 => match us, ws, h1, h2 with | [], [_, _], _, _ => rfl
theorem bkb_Plan_wishes_0 : BindKw "wishes" "Plan.wishes" s_Plan_wishes ["self"] 1 [] [0] := fun _ _ _ _ _ _ us ws h1 h2 => match us, ws, h1, h2 with | [_], [], _, _ => rfl
theorem kb_Plan_wishes_0 {K : PySem.W.Frag} : ∀ f fd, FunG K "wishes" "Plan.wishes" s_Plan_wishes [] [] f fd → KBd K fd ["self"] 1 [] (gI [0]) := fun f fd G => kbd_N0 G bkb_Plan_wishes_0
theorem bkb_Wish___init___1 : BindT0 "__init__" "Wish.__init__" s_Wish___init__ ["self", "part", "deed", "looks", "name", "least", "most"] 4 ["name", "least", "most"] 2 [0, 1, 2, 3, 4, 5, 6] := fun _ _ _ _ _ _ _ us its ws h1 h2 h3 => match us, its, ws, h1, h2, h3 with | [_, _, _, _], [_, _], [_, _, _], _, _, _ => ⟨_, rfl, rfl⟩
theorem kb_Wish___init___1 {K : PySem.W.Frag} : ∀ f fd, FunG K "__init__" "Wish.__init__" s_Wish___init__ [.non, .non] [("least", .int 1), ("most", .int 1)] f fd → KBd K fd ["self", "part", "deed", "looks", "name", "least", "most"] 4 ["name", "least", "most"] (fun ds es => gI [0, 1, 2, 3, 4, 5, 6] (ds ++ es) [.non, .non]) := fun f fd G => kbd_T0 G (by simp) bkb_Wish___init___1
theorem bkb_Plan___init___2 : BindKw "__init__" "Plan.__init__" s_Plan___init__ ["self", "wishes", "orders", "strict"] 2 ["orders", "strict"] [0, 1, 2, 3] := fun _ _ _ _ _ _ us ws h1 h2 => match us, ws, h1, h2 with | [_, _], [_, _], _, _ => rfl
theorem kb_Plan___init___2 {K : PySem.W.Frag} : ∀ f fd, FunG K "__init__" "Plan.__init__" s_Plan___init__ [] [("orders", .tup []), ("strict", .tup [])] f fd → KBd K fd ["self", "wishes", "orders", "strict"] 2 ["orders", "strict"] (gI [0, 1, 2, 3]) := fun f fd G => kbd_N0 G bkb_Plan___init___2
theorem sc_TE : FnScope ["self", "why"] ["self", "why"] (defScope s_TrialError___init__) := ⟨rfl, rfl, rfl, by decide +kernel, rfl, by decide +kernel, by decide +kernel⟩
theorem bt_TE : BindT0 "__init__" "TrialError.__init__" s_TrialError___init__ ["self", "why"] 2 [] 1 [0, 1] := fun _ _ _ _ _ _ _ us its ws h1 h2 h3 => match us, its, ws, h1, h2, h3 with | [_, _], [_], [], _, _, _ => ⟨_, rfl, rfl⟩
theorem hb_TE {K : PySem.W.Frag} : ∀ fd, (∃ fI, FunG K "__init__" "TrialError.__init__" s_TrialError___init__ [.str "refused"] [] fI fd) → Binds K fd ["self", "why"] [] := fun fd ⟨_, G⟩ => te_binds G bt_TE
-- tails
theorem ln_law : ∀ ds m Q PX, spLaw ds m Q PX → ds.length = 1 := by rintro ds m Q PX ⟨d, rfl, _⟩; rfl
def lst1 (x : Str) : Option Nat := x.cps.toList.getLast?
theorem lst1_app (x z : Str) (h : z.length = 1) : lst1 (x ++ z) = lst1 z := by
  unfold lst1
  rw [cps_app]
  have : z.cps.toList.length = 1 := by rw [Array.length_toList]; exact h
  match hz : z.cps.toList, this with
  | [c], _ => rw [List.getLast?_append]; rfl
def lets5 : List Nat := [109, 120, 99, 97, 122]
theorem nd_names {ws : List Ws} {i : Nat} (h : ws.map (fun W => lst1 W.name) = (lets5.take i).map some) : (ws.map Ws.name).Nodup := by
  have h1 : ((lets5.take i).map some).Nodup := List.pairwise_map.mpr ((List.Sublist.nodup (List.take_sublist _ _) (by decide : lets5.Nodup)).imp fun z e => z (by injection e))
  rw [← h] at h1
  have : (ws.map (fun W => lst1 W.name)) = (ws.map Ws.name).map lst1 := by rw [List.map_map]; rfl
  rw [this] at h1
  exact (List.pairwise_map.mp h1).imp fun z e => z (by rw [e])
theorem at5 (i : Nat) (h : i < 5) : ∃ c, lets5[i]? = some c ∧ low c = true ∧ atI (Str.ofString "mxcaz").cps.toList (i : Int) = some c := by
  match i, h with
  | 0, _ => exact ⟨109, rfl, by decide, rfl⟩
  | 1, _ => exact ⟨120, rfl, by decide, rfl⟩
  | 2, _ => exact ⟨99, rfl, by decide, rfl⟩
  | 3, _ => exact ⟨97, rfl, by decide, rfl⟩
  | 4, _ => exact ⟨122, rfl, by decide, rfl⟩
def let5 : List Str := ["m", "x", "c", "a", "z"]
theorem let5_at (i : Nat) (z : Str) (h : let5[i]? = some z) : z.length = 1 ∧ z.cps.toList.all low = true ∧ ∃ c, lets5[i]? = some c ∧ lst1 z = some c := by
  match i, h with
  | 0, h => cases h; exact ⟨rfl, by decide +kernel, 109, rfl, by decide +kernel⟩
  | 1, h => cases h; exact ⟨rfl, by decide +kernel, 120, rfl, by decide +kernel⟩
  | 2, h => cases h; exact ⟨rfl, by decide +kernel, 99, rfl, by decide +kernel⟩
  | 3, h => cases h; exact ⟨rfl, by decide +kernel, 97, rfl, by decide +kernel⟩
  | 4, h => cases h; exact ⟨rfl, by decide +kernel, 122, rfl, by decide +kernel⟩
  | n + 5, h => cases h
theorem uq0 : Uq [] := fun ys zs h1 h2 _ _ => by rw [List.perm_nil.mp h1, List.perm_nil.mp h2]
theorem uq1 (x : Str) : Uq [x] := fun ys zs h1 h2 _ _ => by rw [List.perm_singleton.mp h1, List.perm_singleton.mp h2]
theorem perm2 {a b : Str} {ys : List Str} (h : ys.Perm [a, b]) : ys = [a, b] ∨ ys = [b, a] := by
  match ys, h.length_eq, h with
  | [x, y], _, h =>
    have hx := h.mem_iff.mp (List.mem_cons_self (a := x) (l := [y]))
    simp only [List.mem_cons, List.not_mem_nil, or_false] at hx
    rcases hx with rfl | rfl
    · have := (List.perm_cons x).mp h
      rw [List.perm_singleton.mp this]; exact .inl rfl
    · have := (List.perm_cons x).mp (h.trans (List.Perm.swap _ _ _))
      rw [List.perm_singleton.mp this]; exact .inr rfl
theorem perm3 {a b c : Str} {ys : List Str} (h : ys.Perm [a, b, c]) : ys = [a, b, c] ∨ ys = [a, c, b] ∨ ys = [b, a, c] ∨ ys = [b, c, a] ∨ ys = [c, a, b] ∨ ys = [c, b, a] := by
  match ys, h.length_eq, h with
  | x :: r, _, h =>
    have hx := h.mem_iff.mp (List.mem_cons_self (a := x) (l := r))
    simp only [List.mem_cons, List.not_mem_nil, or_false] at hx
    rcases hx with rfl | rfl | rfl
    · rcases perm2 ((List.perm_cons x).mp h) with e | e <;> rw [e] <;> simp
    · rcases perm2 ((List.perm_cons x).mp (h.trans (List.Perm.swap _ _ _))) with e | e <;> rw [e] <;> simp
    · rcases perm2 ((List.perm_cons x).mp (h.trans ((List.Perm.cons _ (List.Perm.swap _ _ _)).trans (List.Perm.swap _ _ _)))) with e | e <;> rw [e] <;> simp
theorem uq2 : Uq ["yard", "till"] := fun ys zs h1 h2 s1 s2 => by
  rcases perm2 h1 with rfl | rfl <;> rcases perm2 h2 with rfl | rfl
  all_goals first | rfl | (exfalso; revert s1 s2; decide +kernel)
theorem uq3 : Uq ["till", "shop", "yard"] := fun ys zs h1 h2 s1 s2 => by
  rcases perm3 h1 with rfl | rfl | rfl | rfl | rfl | rfl <;> rcases perm3 h2 with rfl | rfl | rfl | rfl | rfl | rfl
  all_goals first | rfl | (exfalso; revert s1 s2; decide +kernel)
theorem pu_law : ∀ ds m Q PX, spLaw ds m Q PX → rd_law (dEnds Q PX) (dstart N_law ds) m := by
  rintro ds m Q PX ⟨ns, rfl, hn, h⟩
  have big : (10 : Int) ^ Int.toNat 40 = 10000000000000000000000000000000000000000 := by decide
  have pw : (2 : Nat) ^ 139 > 100000000000000000000000000000000000000000 := by decide
  walk_at "go"
  refine ⟨ns, 0, rfl, fun c0 => ?_⟩
  walk_at "go"
  refine ⟨c0, rfl, fun w m1 hw kp1 w1 => ?_⟩
  walk_at "go"
  refine ⟨w, 6, rfl, by decide, by decide, _, w1, by decide, fun d m2 hd kp2 w2 => ?_⟩
  obtain ⟨size, n0, n1, rfl⟩ := hd
  walk_at "go"
  refine ⟨w, 2, rfl, by decide, by decide, _, w2, by decide, fun d m3 hd kp3 w3 => ?_⟩
  obtain ⟨far, f0, f1, rfl⟩ := hd
  show T_law_4 (dEnds Q PX) [some (.lst (ns.map .int)), some (.adr w), some (.int size), some (.int far), none, none, none, none, none, none, none, none, none, none, none, none, none, none, none, none, none, none, none, none] m3
  walk_at "go"
  refine ⟨w, 9, rfl, by decide, by decide, _, w3, by decide, fun d m4 hd kp4 w4 => ?_⟩
  obtain ⟨r1, r10, r11, rfl⟩ := hd
  walk_at "go"
  refine ⟨w, 2 * 10 ^ Int.toNat 40, rfl, by decide, by decide, _, w4, by omega, fun d m5 hd kp5 w5 => ?_⟩
  obtain ⟨r2, r20, r21, rfl⟩ := hd
  rw [big] at r21
  have fin : ∀ base : Int, Bd 140 base → T_law_5 (dEnds Q PX) [some (.lst (ns.map .int)), some (.adr w), some (.int size), some (.int far), some (.int base), none, none, none, none, none, none, none, none, none, none, none, none, none, none, none, none, none, none, none] m5 := by
    intro base hb
    clear kp1 kp2 kp3 kp4 kp5 r1 r10 r11 r2 r20 r21 w1 w2 w3 w4 hw
    obtain ⟨sz, hsz⟩ : ∃ sz : Nat, size = sz := ⟨size.toNat, by omega⟩
    have ec : cutD [D.str "m", .str "x", .str "c", .str "a", .str "z"] none (some size) = (let5.map D.str).take sz := by rw [hsz]; exact cut_take _ _
    walk_at "go"
    rw [ec]
    refine comp_inv (fun i acc m' => Wl m' w (4 + 36 * i) ∧ i ≤ sz ∧ ∃ ws : List Ws, acc = ws.map Ws.row ∧ ws.length = i ∧ (∀ W ∈ ws, W.Ok) ∧ ws.map (fun W => lst1 W.name) = (lets5.take i).map some) (fun i acc m' hh => ?_) (by rw [List.length_take]; omega) (fun i d acc m' e hh => ?_) (fun acc m9 hh => ?_) ⟨w5, Nat.zero_le _, [], rfl, rfl, (fun _ z => by cases z), rfl⟩
    · obtain ⟨_, _, ws, rfl, hl, _⟩ := hh
      rw [List.length_map, hl]; exact Nat.le_refl _
    · obtain ⟨wi, hi0, ws, rfl, hl, hW, hnd⟩ := hh
      have hi : i < sz := by
        have := (List.getElem?_eq_some_iff.mp e).1
        rw [List.length_take] at this; omega
      rw [List.getElem?_take_of_lt hi, List.getElem?_map] at e
      cases ez : let5[i]? with
      | none => rw [ez] at e; cases e
      | some z =>
      rw [ez] at e
      cases e
      obtain ⟨z1, z2, c, e1, e2⟩ := let5_at i z ez
      refine ⟨trivial, fun Kt Kf k1 _ => ?_⟩
      walk_at "go"
      refine ⟨w, base, z, rfl, hb, ⟨z1, z2⟩, _, wi, by omega, fun d m9 hd kp9 w9 => ?_⟩
      obtain ⟨W, x, rfl, hWo, hWn⟩ := hd
      refine k1 _ _ ⟨w9.mono (by omega), by omega, ws ++ [W], by simp, by simp [hl], fun z hz => ?_, ?_⟩
      · rcases List.mem_append.mp hz with hz | hz
        · exact hW z hz
        · rw [List.mem_singleton.mp hz]; exact hWo
      · rw [List.map_append, hnd, List.take_add_one, e1, List.map_append]
        show _ ++ [lst1 W.name] = _ ++ [some c]
        rw [hWn, lst1_app _ _ z1, e2]
    obtain ⟨_, _, ws, rfl, hl, hW, hnd⟩ := hh
    have hnd := nd_names hnd
    have hl5 : ws.length ≤ 5 := by rw [hl, List.length_take]; exact Nat.le_trans (Nat.min_le_right _ _) (by decide)
    have hnm : ∀ x ∈ ws.map Ws.name, nmB x = true := fun x hx => by
      obtain ⟨W, hm, rfl⟩ := List.mem_map.mp hx
      exact (hW W hm).name
    clear hl ec w5
    refine ⟨trivial, ?_⟩
    show T_law_6 (dEnds Q PX) [some (.lst (ns.map .int)), some (.adr w), some (.int size), some (.int far), some (.int base), some (.lst (ws.map Ws.row)), none, none, none, none, none, none, none, none, none, none, none, none, none, none, none, none, none, none] m9
    walk_at "go"
    refine ⟨ns, 1, rfl, fun c1 => ?_⟩
    walk_at "go"
    refine ⟨c1, rfl, fun v m10 hv kp10 v1 => ?_⟩
    walk_at "go"
    refine comp_on ws Ws.row (fun W => .str W.name) (by omega) trivial (fun W hm Q q => ?_) ?_
    · walk_at "go"
      exact q
    rw [show (ws.map fun W => D.str W.name) = (ws.map Ws.name).map D.str from by rw [List.map_map]; rfl]
    walk_at "go"
    refine ⟨v, ws.map Ws.name, rfl, by rw [List.length_map]; exact hl5, hnd, hnm, _, v1, by decide, fun d m11 hd kp11 v2 => ?_⟩
    obtain ⟨os, rfl, ho8, hoo, hon⟩ := hd
    walk_at "go"
    refine ⟨v, _, _, rfl, .inl rfl, by simp, by simp, _, v2, by decide, fun d m12 hd kp12 v3 => ?_⟩
    obtain ⟨ss, rfl, hs4, hsn, hsm, huq⟩ : ∃ ss : List Str, d = .tup (ss.map .str) ∧ ss.length ≤ 4 ∧ ss.Nodup ∧ (∀ x ∈ ss, nmB x = true) ∧ Uq ss := by
      have ny : nmB (Str.ofString "yard") = true := by decide +kernel
      have ns' : nmB (Str.ofString "shop") = true := by decide +kernel
      have nt : nmB (Str.ofString "till") = true := by decide +kernel
      simp only [List.mem_cons, List.not_mem_nil, or_false] at hd
      rcases hd with rfl | rfl | rfl | rfl
      · exact ⟨[], rfl, by decide, List.nodup_nil, (fun _ z => by cases z), uq0⟩
      · exact ⟨["shop"], rfl, by simp, by simp, (fun x z => by rw [List.mem_singleton.mp z]; exact ns'), uq1 _⟩
      · refine ⟨["yard", "till"], rfl, by simp, by decide +kernel, (fun x z => ?_), uq2⟩
        simp only [List.mem_cons, List.not_mem_nil, or_false] at z
        rcases z with rfl | rfl
        · exact ny
        · exact nt
      · refine ⟨["till", "shop", "yard"], rfl, by simp, by decide +kernel, (fun x z => ?_), uq3⟩
        simp only [List.mem_cons, List.not_mem_nil, or_false] at z
        rcases z with rfl | rfl | rfl
        · exact nt
        · exact ns'
        · exact ny
    clear hd kp10 kp11 kp12 v1 v2 v3 hv
    have hp : PnOk ws os ss := ⟨hl5, hW, hnd, by omega, hoo, hon, hs4, hsn, hsm⟩
    show T_law_9 (dEnds Q PX) [some (.lst (ns.map .int)), some (.adr v), some (.int size), some (.int far), some (.int base), some (.lst (ws.map Ws.row)), some (.lst (os.map odD)), some (.tup (ss.map .str)), none, none, none, none, none, none, none, none, none, none, none, none, none, none, none, none] m12
    walk_at "go"
    intro q hq
    show T_law_10 (dEnds Q PX) [some (.lst (ns.map .int)), some (.adr v), some (.int size), some (.int far), some (.int base), some (.lst (ws.map Ws.row)), some (.lst (os.map odD)), some (.tup (ss.map .str)), some (.adr q), none, none, none, none, none, none, none, none, none, none, none, none, none, none, none] (mset m12 q (.lst []))
    walk_at "go"
    refine loop_inv (fun i δ m' => i ≤ ws.length ∧ m' = mset m12 q (.lst ((ws.take i).map Ws.d)) ∧ ∃ a9, δ = [some (.lst (ns.map .int)), some (.adr v), some (.int size), some (.int far), some (.int base), some (.lst (ws.map Ws.row)), some (.lst (os.map odD)), some (.tup (ss.map .str)), some (.adr q), a9, none, none, none, none, none, none, none, none, none, none, none, none, none, none]) (fun i d δ m' e hh => ?_) (fun δ m' hh => ?_) ⟨Nat.zero_le _, rfl, _, rfl⟩
    · obtain ⟨hi0, rfl, a9, rfl⟩ := hh
      rw [List.getElem?_map] at e
      cases ei : ws[i]? with
      | none => rw [ei] at e; cases e
      | some W =>
      rw [ei] at e
      cases e
      have hi := (List.getElem?_eq_some_iff.mp ei).1
      refine ⟨trivial, fun Nx k1 => ?_⟩
      walk_at "go"
      refine ⟨⟨_, mset_same⟩, ?_⟩
      walk_at "go"
      intro p hpn
      refine wish_ok W (hW W (List.mem_of_getElem? ei)) ⟨rfl, _, mset_same, ?_⟩
      rw [mdel_mset hpn]
      walk_at "dl"
      rw [mset_same]
      walk_at "dl"
      refine ⟨len_line (by rw [List.length_map, List.length_take]; omega), ?_⟩
      rw [mset_mset]
      refine k1 _ _ ⟨by omega, ?_, _, rfl⟩
      rw [List.take_add_one, ei, List.map_append]; rfl
    obtain ⟨_, rfl, a9, rfl⟩ := hh
    rw [List.length_map, List.take_length]
    refine ⟨trivial, ?_⟩
    have lo : (os.map odD).length = os.length := List.length_map _
    walk_at "dl"
    rw [mset_same]
    walk_at "dl"
    refine ⟨rfl, rfl, ?_⟩
    intro p hpn
    rw [mdel_mset hq] at hpn
    rw [mdel_mset hq]
    refine plan_okK hp ⟨rfl, _, mset_same, ?_⟩
    rw [mdel_mset hpn]
    walk_at "go"
    refine ⟨ws, os, rfl, by omega, by omega, ?_⟩
    have dln := dems_len ws os
    have tdm : thD 6 (.lst (dems ws os)) := ⟨by omega, fun d hd => (hp.pt d hd).t⟩
    have pdm : pur (.lst (dems ws os)) = true := by rw [pur]; exact purL_all fun d hd => (hp.pt d hd).p
    have ddm : ∀ m, deq (dat m (.lst (dems ws os))) (dat m (.lst (dems ws os))) = true := fun m => deqP pdm pdm (by simp)
    walk_at "go"
    refine ⟨ws, os, _, rfl, by omega, by omega, ?_⟩
    walk_at "go"
    refine ⟨shpT tdm, shpT tdm, ?_⟩
    rw [if_pos rfl, ddm]
    walk_at "go"
    refine ⟨ws, os, _, rfl, by omega, by omega, ?_⟩
    walk_at "go"
    refine ⟨shpT tdm, shpT tdm, ?_⟩
    rw [if_pos rfl, ddm]
    show T_law_14 (dEnds Q PX) [some (.lst (ns.map .int)), some (.adr v), some (.int size), some (.int far), some (.int base), some (.lst (ws.map Ws.row)), some (.lst (os.map odD)), some (.tup (ss.map .str)), some (.adr q), a9, some (plD2 ws os ss), some (.lst (dems ws os)), none, none, none, none, none, none, none, none, none, none, none, none] m12
    clear hpn hq
    have hcut := cut_le ns (some 3) (some 6)
    walk_at "go"
    refine ⟨ns, 2, rfl, fun c2 => ?_⟩
    walk_at "go"
    refine loop_inv (fun i δ m' => ∃ a1 a8 a9 a12 a13 a14 a15 a16 a17 a18 a19 a20 a21 a22 a23, δ = [some (.lst (ns.map .int)), a1, some (.int size), some (.int far), some (.int base), some (.lst (ws.map Ws.row)), some (.lst (os.map odD)), some (.tup (ss.map .str)), a8, a9, some (plD2 ws os ss), some (.lst (dems ws os)), a12, a13, a14, a15, a16, a17, a18, a19, a20, a21, a22, a23]) (fun i d δ m' e hh => ?_) (fun δ m' hh => ⟨trivial, h _⟩) ⟨_, _, _, _, _, _, _, _, _, _, _, _, _, _, _, rfl⟩
    obtain ⟨a1, a8, a9, a12, a13, a14, a15, a16, a17, a18, a19, a20, a21, a22, a23, rfl⟩ := hh
    obtain ⟨c, rfl⟩ := cells d (List.mem_of_getElem? e)
    refine ⟨trivial, fun Nx k1 => ?_⟩
    walk_at "go"
    refine ⟨c, rfl, fun u m14 hu kp14 u1 => ?_⟩
    walk_at "go"
    refine ⟨u, 3, rfl, by decide, by decide, _, u1, by decide, fun d m15 hd kp15 u2 => ?_⟩
    obtain ⟨way, y0, y1, rfl⟩ := hd
    walk_at "go"
    refine comp_inv (fun i acc m' => Wl m' u (1 + i) ∧ acc.Sublist ((dems ws os).take i)) (fun i acc m' hh => ?_) (by omega) (fun i d acc m' e hh => ?_) (fun hs m16 hh => ?_) ⟨u2, List.Sublist.refl _⟩
    · have := hh.2.length_le
      rw [List.length_take] at this; omega
    · obtain ⟨wi, hsub⟩ := hh
      have hi := (List.getElem?_eq_some_iff.mp e).1
      have et : (dems ws os).take (i + 1) = (dems ws os).take i ++ [d] := by rw [List.take_add_one, e]; rfl
      refine ⟨trivial, fun Kt Kf kt kf => ?_⟩
      walk_at "go"
      refine ⟨u, 2, rfl, by decide, by decide, _, wi, by omega, fun d2 m17 hd2 kp17 u3 => ?_⟩
      obtain ⟨r, _, _, rfl⟩ := hd2
      walk_at "go"
      rw [if_neg (by decide)]
      by_cases hr : r = 1
      · rw [decide_eq_true hr]
        exact kt _ _ ⟨u3, by rw [et]; exact hsub.append (List.Sublist.refl _)⟩
      · rw [decide_eq_false hr]
        exact kf _ ⟨u3, by rw [et]; exact hsub.trans (List.sublist_append_left _ _)⟩
    obtain ⟨u4, hsub⟩ := hh
    rw [List.take_length] at hsub
    have hhl : hs.length ≤ (dems ws os).length := hsub.length_le
    have hpt : ∀ k ∈ hs, PT k := fun k hk => hp.pt k (hsub.subset hk)
    refine ⟨trivial, ?_⟩
    show T_law_17 { nx := Nx, rt := Q, bk := sRet (rC (.bl true)) (dEnds Q PX), ct := Nx, xx := fun c fs _ m => PX c fs m } [some (.lst (ns.map .int)), some (.adr u), some (.int size), some (.int far), some (.int base), some (.lst (ws.map Ws.row)), some (.lst (os.map odD)), some (.tup (ss.map .str)), a8, a9, some (plD2 ws os ss), some (.lst (dems ws os)), some (.int c), some (.int way), some (.lst hs), a15, a16, a17, a18, a19, a20, a21, a22, a23] m16
    have thh : thD 6 (.lst hs) := ⟨by omega, fun d hd => (hpt d hd).t⟩
    have phh : pur (.lst hs) = true := by rw [pur]; exact purL_all fun d hd => (hpt d hd).p
    have dhh : ∀ m, deq (dat m (.lst hs)) (dat m (.lst hs)) = true := fun m => deqP phh phh (by simp)
    obtain ⟨ws2, hws2⟩ : ∃ ws2, ws2 = ws.map (easeW hs) := ⟨_, rfl⟩
    obtain ⟨os2, hos2⟩ : ∃ os2, os2 = easeO hs os := ⟨_, rfl⟩
    have hp2 : PnOk ws2 os2 ss := by rw [hws2, hos2]; exact hp.eased hs
    have edm : dems ws2 os2 = hs := by
      rw [hws2, hos2, dems_eased hs fun W hm => (hW W hm).least.1]
      exact filter_sub hsub hp.dnd fun d hd => (hp.pt d hd).p
    have alls : ∀ ks : List D, (∀ k ∈ ks, k ∈ hs) → (ks.all fun k => memB k (dems ws os)) = true := fun ks hks => by
      rw [List.all_eq_true]
      intro k hk
      exact (memB_iff (hpt k (hks k hk)).p fun d hd => (hp.pt d hd).p).mpr (hsub.subset (hks k hk))
    have lr2 : ws2.length = ws.length := by rw [hws2, List.length_map]
    -- behind what is handed in
    have fin2 : ∀ ks : List D, ks.length ≤ 1000 → (∀ x, x ∈ ks ↔ x ∈ hs) → T_law_18 { nx := Nx, rt := Q, bk := sRet (rC (.bl true)) (dEnds Q PX), ct := Nx, xx := fun c fs _ m => PX c fs m } [some (.lst (ns.map .int)), some (.adr u), some (.int size), some (.int far), some (.int base), some (.lst (ws.map Ws.row)), some (.lst (os.map odD)), some (.tup (ss.map .str)), a8, a9, some (plD2 ws os ss), some (.lst (dems ws os)), some (.int c), some (.int way), some (.lst hs), some (.lst ks), a16, a17, a18, a19, a20, a21, a22, a23] m16 := by
      intro ks hkl hks
      have kpt : ∀ k ∈ ks, PT k := fun k hk => hpt k ((hks k).mp hk)
      have tk : thD 6 (.lst ks) := ⟨by omega, fun d hd => (kpt d hd).t⟩
      have pk : pur (.lst ks) = true := by rw [pur]; exact purL_all fun d hd => (kpt d hd).p
      have dk : ∀ m, deq (dat m (.lst ks)) (dat m (.lst ks)) = true := fun m => deqP pk pk (by simp)
      obtain ⟨ce1, ce2⟩ := ease_congr (mem_congr kpt hpt hks) hp
      walk_at "go"
      refine ⟨ws, os, ss, ks, rfl, hp, hkl, kpt, ?_⟩
      rw [alls ks fun k hk => (hks k).mp hk, ce1, ce2, ← hws2, ← hos2]
      show T_law_20 { nx := Nx, rt := Q, bk := sRet (rC (.bl true)) (dEnds Q PX), ct := Nx, xx := fun c fs _ m => PX c fs m } [some (.lst (ns.map .int)), some (.adr u), some (.int size), some (.int far), some (.int base), some (.lst (ws.map Ws.row)), some (.lst (os.map odD)), some (.tup (ss.map .str)), a8, a9, some (plD2 ws os ss), some (.lst (dems ws os)), some (.int c), some (.int way), some (.lst hs), some (.lst ks), some (.lst ks), some (plD2 ws2 os2 ss), a18, a19, a20, a21, a22, a23] m16
      walk_at "go"
      refine comp_on ws Ws.row (fun W => (easeW hs W).row) (by omega) trivial (fun W hm Q q => ?_) ?_
      · walk_at "go"
        rw [show cutD [D.str W.part, oS W.deed, oL W.looks, D.str W.name, D.int W.least, oN W.most] none (some 4) = [D.str W.part, oS W.deed, oL W.looks, D.str W.name] from rfl]
        walk_at "go"
        have pl := pt_ls (hW W hm).name
        refine ⟨shIn pl hpt (by omega), ?_⟩
        rw [if_neg (by decide)]
        unfold easeW at q
        have am : (hs.any fun z => deq z (dat m16 (D.tup [D.str (Str.ofString "least"), D.str W.name]))) = memB (lsD W.name) hs := any_mem pl
        rw [am]
        cases eb : memB (lsD W.name) hs with
        | true =>
          rw [eb, if_pos rfl] at q
          have hle := (hW W hm).least
          walk_at "go"
          rw [if_pos rfl, Int.mul_one]
          exact q
        | false =>
          rw [eb, if_neg (by decide)] at q
          have hle := (hW W hm).least
          walk_at "go"
          rw [if_neg (by decide), Int.mul_zero]
          exact q
      rw [show (ws.map fun W => (easeW hs W).row) = ws2.map Ws.row from by rw [hws2, List.map_map]; rfl]
      show T_law_21 { nx := Nx, rt := Q, bk := sRet (rC (.bl true)) (dEnds Q PX), ct := Nx, xx := fun c fs _ m => PX c fs m } [some (.lst (ns.map .int)), some (.adr u), some (.int size), some (.int far), some (.int base), some (.lst (ws.map Ws.row)), some (.lst (os.map odD)), some (.tup (ss.map .str)), a8, a9, some (plD2 ws os ss), some (.lst (dems ws os)), some (.int c), some (.int way), some (.lst hs), some (.lst ks), some (.lst ks), some (plD2 ws2 os2 ss), some (.lst (ws2.map Ws.row)), a19, a20, a21, a22, a23] m16
      walk_at "go"
      refine comp_onf os odD odD (fun o => memB (odD o) hs) (by omega) trivial (fun o hm Kt Kf ht hf => ?_) ?_
      · have ho := hp.ods o hm
        have po := pt_od ho.w (hp.nm ho.a) (hp.nm ho.b)
        walk_at "go"
        refine ⟨shIn po hpt (by omega), ?_⟩
        rw [if_neg (by decide), any_mem po]
        cases em : memB (odD o) hs with
        | true => exact ht em
        | false => exact hf em
      rw [show (os.filter fun o => memB (odD o) hs) = os2 from hos2.symm]
      intro p hpn
      show T_law_22 { nx := Nx, rt := Q, bk := sRet (rC (.bl true)) (dEnds Q PX), ct := Nx, xx := fun c fs _ m => PX c fs m } [some (.lst (ns.map .int)), some (.adr u), some (.int size), some (.int far), some (.int base), some (.lst (ws.map Ws.row)), some (.lst (os.map odD)), some (.tup (ss.map .str)), some (.adr p), a9, some (plD2 ws os ss), some (.lst (dems ws os)), some (.int c), some (.int way), some (.lst hs), some (.lst ks), some (.lst ks), some (plD2 ws2 os2 ss), some (.lst (ws2.map Ws.row)), a19, a20, a21, a22, a23] (mset m16 p (.lst (os2.map odD)))
      walk_at "dl"
      rw [mset_same]
      walk_at "dl"
      rw [mdel_mset hpn]
      refine ⟨ws2, os2, ss, rfl, hp2, huq, ?_⟩
      walk_at "go"
      refine ⟨shpT tk, shpT tk, ?_⟩
      rw [if_pos rfl, dk]
      obtain ⟨N, hN⟩ : ∃ N : Int, N = (hs.length : Int) := ⟨_, rfl⟩
      have big2 : (2 : Nat) ^ 200 > 1000 := by decide
      show T_law_23 { nx := Nx, rt := Q, bk := sRet (rC (.bl true)) (dEnds Q PX), ct := Nx, xx := fun c fs _ m => PX c fs m } [some (.lst (ns.map .int)), some (.adr u), some (.int size), some (.int far), some (.int base), some (.lst (ws.map Ws.row)), some (.lst (os.map odD)), some (.tup (ss.map .str)), some (.adr p), a9, some (plD2 ws os ss), some (.lst (dems ws os)), some (.int c), some (.int way), some (.lst hs), some (.lst ks), some (.lst ks), some (plD2 ws2 os2 ss), some (.lst (ws2.map Ws.row)), a19, a20, a21, a22, a23] m16
      walk_at "go"
      refine ⟨u, _, rfl, by omega, by omega, _, u4, by omega, fun d m20 hd kp20 u5 => ?_⟩
      obtain ⟨at0, t0, t1, rfl⟩ := hd
      show T_law_24 { nx := Nx, rt := Q, bk := sRet (rC (.bl true)) (dEnds Q PX), ct := Nx, xx := fun c fs _ m => PX c fs m } [some (.lst (ns.map .int)), some (.adr u), some (.int size), some (.int far), some (.int base), some (.lst (ws.map Ws.row)), some (.lst (os.map odD)), some (.tup (ss.map .str)), some (.adr p), a9, some (plD2 ws os ss), some (.lst (dems ws os)), some (.int c), some (.int way), some (.lst hs), some (.lst ks), some (.lst ks), some (plD2 ws2 os2 ss), some (.lst (ws2.map Ws.row)), some (.int at0), a20, a21, a22, a23] m20
      have c1l := cut_len hs none (some at0)
      have c2l := cut_len hs (some at0) none
      walk_at "go"
      refine ⟨u, ws, os, ss, rfl, hp, _, u5, by omega, fun odd m21 hd kp21 u6 => ?_⟩
      obtain ⟨hop, hon2⟩ := hd
      walk_at "go"
      refine ⟨ws, os, ss, _, rfl, hp, by simp only [List.length_append, List.length_cons, List.length_nil]; omega, fun k hk => ?_, ⟨odd, by simp, hon2⟩, ?_⟩
      · rcases List.mem_append.mp hk with hk | hk
        · rcases List.mem_append.mp hk with hk | hk
          · exact hpt k (cut_mem hk)
          · rw [List.mem_singleton.mp hk]; exact hop
        · exact hpt k (cut_mem hk)
      show T_law_25 { nx := Nx, rt := Q, bk := sRet (rC (.bl true)) (dEnds Q PX), ct := Nx, xx := fun c fs _ m => PX c fs m } [some (.lst (ns.map .int)), some (.adr u), some (.int size), some (.int far), some (.int base), some (.lst (ws.map Ws.row)), some (.lst (os.map odD)), some (.tup (ss.map .str)), some (.adr p), a9, some (plD2 ws os ss), some (.lst (dems ws os)), some (.int c), some (.int way), some (.lst hs), some (.lst ks), some (.lst ks), some (plD2 ws2 os2 ss), some (.lst (ws2.map Ws.row)), some (.int at0), a20, a21, a22, a23] m21
      walk_at "go"
      refine ⟨ws, os, ss, rfl, hp, huq, ?_⟩
      walk_at "go"
      refine ⟨ws, os, ss, hs, rfl, hp, by omega, hpt, ?_⟩
      rw [alls hs fun k hk => hk, ← hws2, ← hos2]
      walk_at "go"
      refine ⟨ws2, os2, _, rfl, by omega, by have := hp2.many; omega, ?_⟩
      rw [edm]
      walk_at "go"
      refine ⟨shpT thh, shpT thh, ?_⟩
      rw [if_pos rfl, dhh]
      exact k1 _ _ ⟨_, _, _, _, _, _, _, _, _, _, _, _, _, _, _, rfl⟩
    have c1 := cut_len hs none (some 1)
    walk_at "dl"
    refine ⟨len_line (by omega), ?_⟩
    walk_at "dl"
    refine ⟨len_line (by simp), ?_⟩
    walk_at "dl"
    have hy : way = 0 ∨ way = 1 ∨ way = 2 := by omega
    rcases hy with rfl | rfl | rfl
    · exact fin2 hs (by omega) fun x => Iff.rfl
    · exact fin2 hs.reverse (by rw [List.length_reverse]; omega) fun x => List.mem_reverse
    · refine fin2 (hs ++ cutD hs none (some 1)) (by rw [List.length_append]; omega) fun x => ?_
      rw [List.mem_append]
      exact ⟨fun z => z.elim id cut_mem, .inl⟩
  walk_at "go"
  have hf : far = 0 ∨ far = 1 := by omega
  rcases hf with rfl | rfl
  · exact fin _ (by unfold Bd; omega)
  · refine fin _ ?_
    rw [big]
    unfold Bd; omega
section
variable {P : Program} {w : World} {K : PySem.W.Frag} {mg : Str → Option Value} {base : Heap}
theorem ok_is_whole (T : Tx w K mg) : DefOk P w K mg base 1 "is_whole" "is_whole" s_is_whole ["thing"] sp_is_whole := by
  refine def_ok (r := rd_is_whole) T.f_is_whole sc_is_whole ln_is_whole (fun f cdv A outer s H E hr => ?_) pu_is_whole
  have tk : Takes (cxOf (L2.CX P w) P w K mg base N_is_whole "is_whole" (defScope s_is_whole) f cdv A outer s H E) (fun c d _ H => E c d H) := takes_of rfl rfl rfl rfl
  exact dss_one (ds_ret (pd_and (pd_isi T.b_isinstance bb_isinstance (da_cons (pd_v 0) (da_cons (pd_ty T.b_int bb_int) (da_nil)))) (pd_one (pd_not (pd_isi T.b_isinstance bb_isinstance (da_cons (pd_v 0) (da_cons (pd_ty T.b_bool bb_bool) (da_nil))))))))
theorem ok_is_name (T : Tx w K mg) : DefOk P w K mg base 1 "is_name" "is_name" s_is_name ["thing"] sp_is_name := by
  obtain ⟨t_LETTERS, c_LETTERS⟩ := T.c0_LETTERS
  obtain ⟨t_MOST_LETTERS, c_MOST_LETTERS⟩ := T.c0_MOST_LETTERS
  refine def_ok (r := rd_is_name) T.f_is_name sc_is_name ln_is_name (fun f cdv A outer s H E hr => ?_) pu_is_name
  have tk : Takes (cxOf (L2.CX P w) P w K mg base N_is_name "is_name" (defScope s_is_name) f cdv A outer s H E) (fun c d _ H => E c d H) := takes_of rfl rfl rfl rfl
  exact dss_cons (ds_if (PW.pt (dw_or (dt_not (dt_tru (pd_isi T.b_isinstance bb_isinstance (da_cons (pd_v 0) (da_cons (pd_ty T.b_str bb_str) (da_nil)))))) (dw_or1 (dt_not (dt_chain op_le op_le le_ok le_ok (pd_int) (pd_len T.b_len bb_len (da_cons (pd_v 0) (da_nil))) (pd_gint c_MOST_LETTERS)))))) (dss_one (ds_ret (pd_bl))) (dss_nil))
    (dss_one (ds_ret (pd_all rfl T.b_all bb_all (da_cons (pd_lc rfl sc_is_name.nd (di_any (pd_v 0)) (blkOk_by (own := [("sign", 1)]) (N := N_is_name) (sc := defScope s_is_name) (by decide +kernel)) (gN_ok) rfl (fun _ _ _ _ _ => pg_name (i := 1) sc_is_name.nd rfl (by first | exact Or.inl rfl | exact Or.inr rfl)) (fun _ _ _ _ _ => dts_nil) (fun _ _ _ _ _ => pd_in (units65 hr) (pd_v 1) (pd_gstr c_LETTERS))) (da_nil)))))
theorem ok_are_unlike (T : Tx w K mg) : DefOk P w K mg base 1 "are_unlike" "are_unlike" s_are_unlike ["some"] sp_are_unlike := by
  refine def_ok (r := rd_are_unlike) T.f_are_unlike sc_are_unlike ln_are_unlike (fun f cdv A outer s H E hr => ?_) pu_are_unlike
  have tk : Takes (cxOf (L2.CX P w) P w K mg base N_are_unlike "are_unlike" (defScope s_are_unlike) f cdv A outer s H E) (fun c d _ H => E c d H) := takes_of rfl rfl rfl rfl
  exact dss_one (ds_ret (pd_all rfl T.b_all bb_all (da_cons (pd_lc rfl sc_are_unlike.nd (di_enum T.b_enumerate (da_cons (pd_v 0) (da_nil))) (blkOk_by (own := [("at", 1), ("one", 2)]) (N := N_are_unlike) (sc := defScope s_are_unlike) (by decide +kernel)) (gT_ok (js := [1, 2])) rfl (fun _ _ _ _ _ => pg_tup rfl (dgs_cons (pg_name (i := 1) sc_are_unlike.nd rfl (by first | exact Or.inl rfl | exact Or.inr rfl)) (dgs_cons (pg_name (i := 2) sc_are_unlike.nd rfl (by first | exact Or.inl rfl | exact Or.inr rfl)) (dgs_nil)))) (fun _ _ _ _ _ => dts_nil) (fun _ _ _ _ _ => pd_notIn (units65 hr) (pd_v 2) (pd_sl (pd_v 0) dp_none (dp_some (pd_v 1))))) (da_nil))))
theorem ok_is_one (T : Tx w K mg) (G_is_whole : DefOk P w K mg base 1 "is_whole" "is_whole" s_is_whole ["thing"] sp_is_whole) (G_are_unlike : DefOk P w K mg base 1 "are_unlike" "are_unlike" s_are_unlike ["some"] sp_are_unlike) : DefOk P w K mg base 2 "is_one" "is_one" s_is_one ["numbers"] sp_is_one := by
  obtain ⟨t_MOST_ONE, c_MOST_ONE⟩ := T.c0_MOST_ONE
  refine def_ok (r := rd_is_one) T.f_is_one sc_is_one ln_is_one (fun f cdv A outer s H E hr => ?_) pu_is_one
  have tk : Takes (cxOf (L2.CX P w) P w K mg base N_is_one "is_one" (defScope s_is_one) f cdv A outer s H E) (fun c d _ H => E c d H) := takes_of rfl rfl rfl rfl
  exact dss_cons (ds_if (PW.pt (dw_or (dt_not (dt_tru (pd_isi T.b_isinstance bb_isinstance (da_cons (pd_v 0) (da_cons (pd_ty T.b_tuple bb_tuple) (da_nil)))))) (dw_or1 (dt_gt (pd_len T.b_len bb_len (da_cons (pd_v 0) (da_nil))) (pd_gint c_MOST_ONE))))) (dss_one (ds_ret (pd_bl))) (dss_nil))
    (dss_one (ds_ret (pd_and (pd_all rfl T.b_all bb_all (da_cons (pd_lc rfl sc_is_one.nd (di_any (pd_v 0)) (blkOk_by (own := [("number", 1)]) (N := N_is_one) (sc := defScope s_is_one) (by decide +kernel)) (gN_ok) rfl (fun _ _ _ _ _ => pg_name (i := 1) sc_is_one.nd rfl (by first | exact Or.inl rfl | exact Or.inr rfl)) (fun _ _ _ _ _ => dts_nil) (fun _ _ _ _ _ => pd_callD G_is_whole bi_is_whole (hr.mono (by decide)) takes0 (da_cons (pd_v 1) (da_nil)))) (da_nil))) (pd_one (pd_callD G_are_unlike bi_are_unlike (hr.mono (by decide)) tk (da_cons (pd_listOf T.b_list bb_list (da_cons (pd_v 0) (da_nil))) (da_nil)))))))
theorem ok_is_plain (T : Tx w K mg) (G_is_whole : DefOk P w K mg base 1 "is_whole" "is_whole" s_is_whole ["thing"] sp_is_whole) (G_is_one : DefOk P w K mg base 2 "is_one" "is_one" s_is_one ["numbers"] sp_is_one) : DefOk P w K mg base 3 "is_plain" "is_plain" s_is_plain ["look"] sp_is_plain := by
  refine def_ok (r := rd_is_plain) T.f_is_plain sc_is_plain ln_is_plain (fun f cdv A outer s H E hr => ?_) pu_is_plain
  have tk : Takes (cxOf (L2.CX P w) P w K mg base N_is_plain "is_plain" (defScope s_is_plain) f cdv A outer s H E) (fun c d _ H => E c d H) := takes_of rfl rfl rfl rfl
  exact dss_cons (ds_if (PW.pt (dw_or (dt_not (dt_tru (pd_isi T.b_isinstance bb_isinstance (da_cons (pd_v 0) (da_cons (pd_ty T.b_tuple bb_tuple) (da_nil)))))) (dw_or (dt_eq hr.units (pd_v 0) (pd_tup (da_nil))) (dw_or1 (dt_not (dt_tru (pd_isi T.b_isinstance bb_isinstance (da_cons (pd_ix (pd_v 0) (pd_int)) (da_cons (pd_ty T.b_str bb_str) (da_nil)))))))))) (dss_one (ds_ret (pd_bl))) (dss_nil))
    (dss_cons (ds_star rfl (pd_v 0) (pg_name (i := 1) sc_is_plain.nd rfl (by first | exact Or.inl rfl | exact Or.inr rfl)) (pg_name (i := 2) sc_is_plain.nd rfl (by first | exact Or.inl rfl | exact Or.inr rfl)))
    (dss_cons (ds_if (PW.pt (dw_or (dt_notInK T.d_SIZES (pd_v 1)) (dw_or1 (dt_ne hr.units (pd_len T.b_len bb_len (da_cons (pd_v 0) (da_nil))) (pd_ixK T.d_SIZES (pd_v 1)))))) (dss_one (ds_ret (pd_bl))) (dss_nil))
    (dss_cons (ds_if (dt_eq hr.units (pd_v 1) (pd_str)) (dss_one (ds_ret (pd_callD G_is_one bi_is_one (hr.mono (by decide)) tk (da_cons (pd_ix (pd_v 0) (pd_int)) (da_nil))))) (dss_nil))
    (dss_one (ds_ret (pd_all rfl T.b_all bb_all (da_cons (pd_lc rfl sc_is_plain.nd (di_any (pd_v 2)) (blkOk_by (own := [("number", 3)]) (N := N_is_plain) (sc := defScope s_is_plain) (by decide +kernel)) (gN_ok) rfl (fun _ _ _ _ _ => pg_name (i := 3) sc_is_plain.nd rfl (by first | exact Or.inl rfl | exact Or.inr rfl)) (fun _ _ _ _ _ => dts_nil) (fun _ _ _ _ _ => pd_callD G_is_whole bi_is_whole (hr.mono (by decide)) takes0 (da_cons (pd_v 3) (da_nil)))) (da_nil))))))))
theorem ok_is_look (T : Tx w K mg) (G_is_plain : DefOk P w K mg base 3 "is_plain" "is_plain" s_is_plain ["look"] sp_is_plain) : DefOk P w K mg base 4 "is_look" "is_look" s_is_look ["look"] sp_is_look := by
  refine def_ok (r := rd_is_look) T.f_is_look sc_is_look ln_is_look (fun f cdv A outer s H E hr => ?_) pu_is_look
  have tk : Takes (cxOf (L2.CX P w) P w K mg base N_is_look "is_look" (defScope s_is_look) f cdv A outer s H E) (fun c d _ H => E c d H) := takes_of rfl rfl rfl rfl
  exact dss_cons (ds_if (PW.pt (dw_and (dt_tru (pd_isi T.b_isinstance bb_isinstance (da_cons (pd_v 0) (da_cons (pd_ty T.b_tuple bb_tuple) (da_nil))))) (dw_and (dt_eq hr.units (pd_len T.b_len bb_len (da_cons (pd_v 0) (da_nil))) (pd_int)) (dw_and (dt_tru (pd_isi T.b_isinstance bb_isinstance (da_cons (pd_ix (pd_v 0) (pd_int)) (da_cons (pd_ty T.b_str bb_str) (da_nil))))) (dw_and1 (dt_eq hr.units (pd_ix (pd_v 0) (pd_int)) (pd_str))))))) (dss_one (ds_ret (pd_callD G_is_plain bi_is_plain (hr.mono (by decide)) tk (da_cons (pd_ix (pd_v 0) (pd_int)) (da_nil))))) (dss_nil))
    (dss_one (ds_ret (pd_callD G_is_plain bi_is_plain (hr.mono (by decide)) tk (da_cons (pd_v 0) (da_nil)))))
theorem ok_are_looks (T : Tx w K mg) (G_is_look : DefOk P w K mg base 4 "is_look" "is_look" s_is_look ["look"] sp_is_look) : DefOk P w K mg base 5 "are_looks" "are_looks" s_are_looks ["looks"] sp_are_looks := by
  obtain ⟨t_MOST_THINGS, c_MOST_THINGS⟩ := T.c0_MOST_THINGS
  refine def_ok (r := rd_are_looks) T.f_are_looks sc_are_looks ln_are_looks (fun f cdv A outer s H E hr => ?_) pu_are_looks
  have tk : Takes (cxOf (L2.CX P w) P w K mg base N_are_looks "are_looks" (defScope s_are_looks) f cdv A outer s H E) (fun c d _ H => E c d H) := takes_of rfl rfl rfl rfl
  exact dss_cons (ds_if (dt_isN (pd_v 0) (pd_non)) (dss_one (ds_ret (pd_bl))) (dss_nil))
    (dss_one (ds_ret (pd_and (pd_isi T.b_isinstance bb_isinstance (da_cons (pd_v 0) (da_cons (pd_ty T.b_tuple bb_tuple) (da_nil)))) (pd_and (pd_le (pd_len T.b_len bb_len (da_cons (pd_v 0) (da_nil))) (pd_gint c_MOST_THINGS)) (pd_one (pd_all rfl T.b_all bb_all (da_cons (pd_lc rfl sc_are_looks.nd (di_any (pd_v 0)) (blkOk_by (own := [("look", 1)]) (N := N_are_looks) (sc := defScope s_are_looks) (by decide +kernel)) (gN_ok) rfl (fun _ _ _ _ _ => pg_name (i := 1) sc_are_looks.nd rfl (by first | exact Or.inl rfl | exact Or.inr rfl)) (fun _ _ _ _ _ => dts_nil) (fun _ _ _ _ _ => pd_callD G_is_look bi_is_look (hr.mono (by decide)) takes0 (da_cons (pd_v 1) (da_nil)))) (da_nil))))))))
theorem ok_is_count (T : Tx w K mg) (G_is_whole : DefOk P w K mg base 1 "is_whole" "is_whole" s_is_whole ["thing"] sp_is_whole) : DefOk P w K mg base 2 "is_count" "is_count" s_is_count ["thing", "least"] sp_is_count := by
  obtain ⟨t_MOST_COUNT, c_MOST_COUNT⟩ := T.c0_MOST_COUNT
  refine def_ok (r := rd_is_count) T.f_is_count sc_is_count ln_is_count (fun f cdv A outer s H E hr => ?_) pu_is_count
  have tk : Takes (cxOf (L2.CX P w) P w K mg base N_is_count "is_count" (defScope s_is_count) f cdv A outer s H E) (fun c d _ H => E c d H) := takes_of rfl rfl rfl rfl
  exact dss_one (ds_ret (pd_and (pd_callD G_is_whole bi_is_whole (hr.mono (by decide)) tk (da_cons (pd_v 0) (da_nil))) (pd_one (pd_chain op_le op_le le_ok le_ok (pd_v 1) (pd_v 0) (pd_gint c_MOST_COUNT)))))
theorem ok_Wish___init__ (T : Tx w K mg) (G_is_name : DefOk P w K mg base 1 "is_name" "is_name" s_is_name ["thing"] sp_is_name) (G_are_looks : DefOk P w K mg base 5 "are_looks" "are_looks" s_are_looks ["looks"] sp_are_looks) (G_is_count : DefOk P w K mg base 2 "is_count" "is_count" s_is_count ["thing", "least"] sp_is_count) (X_BadWish : XMk P w K mg base 1 "BadWish" ["self", "why"] spTE (fun fd => ∃ fI, FunG K "__init__" "TrialError.__init__" s_TrialError___init__ [.str "refused"] [] fI fd)) : MkG P w K mg base 6 "Wish" "Wish.__init__" s_Wish___init__ ["self", "part", "deed", "looks", "name", "least", "most"] [.non, .non] [("least", .int 1), ("most", .int 1)] sp_Wish___init__ := by
  refine mk_ok (r := rd_Wish___init__) T.f_Wish___init__ sc_Wish___init__ ln_Wish___init__ (fun f cdv A outer s H E hr => ?_) pu_Wish___init__
  have tk : Takes (cxOf (L2.CX P w) P w K mg base N_Wish___init__ "Wish.__init__" (defScope s_Wish___init__) f cdv A outer s H E) (fun c d _ H => E c d H) := takes_of rfl rfl rfl rfl
  exact dss_cons (ds_if (PW.pt (dw_or (dt_not (dt_tru (pd_callD G_is_name bi_is_name (hr.mono (by decide)) tk (da_cons (pd_v 1) (da_nil))))) (dw_or (PW.pt (dw_and (dt_notN (pd_v 2) (pd_non)) (dw_and1 (dt_not (dt_tru (pd_callD G_is_name bi_is_name (hr.mono (by decide)) tk (da_cons (pd_v 2) (da_nil)))))))) (dw_or1 (dt_not (dt_tru (pd_callD G_is_name bi_is_name (hr.mono (by decide)) tk (da_cons (pd_v 4) (da_nil))))))))) (dss_one (ds_raise rfl X_BadWish hb_TE (hr.mono (by decide)) tk (da_cons (pd_str) (da_nil)))) (dss_nil))
    (dss_cons (ds_if (dt_not (dt_tru (pd_callD G_are_looks bi_are_looks (hr.mono (by decide)) tk (da_cons (pd_v 3) (da_nil))))) (dss_one (ds_raise rfl X_BadWish hb_TE (hr.mono (by decide)) tk (da_cons (pd_str) (da_nil)))) (dss_nil))
    (dss_cons (ds_if (PW.pt (dw_or (dt_not (dt_tru (pd_callD G_is_count bi_is_count (hr.mono (by decide)) tk (da_cons (pd_v 5) (da_cons (pd_int) (da_nil)))))) (dw_or1 (PW.pt (dw_and (dt_notN (pd_v 6) (pd_non)) (dw_and1 (dt_not (dt_tru (pd_callD G_is_count bi_is_count (hr.mono (by decide)) tk (da_cons (pd_v 6) (da_cons (pd_v 5) (da_nil)))))))))))) (dss_one (ds_raise rfl X_BadWish hb_TE (hr.mono (by decide)) tk (da_cons (pd_str) (da_nil)))) (dss_nil))
    (dss_cons (ds_asgM (pd_tup (da_cons (pd_v 1) (da_cons (pd_v 2) (da_cons (pd_v 3) (da_nil))))) (pg_tup rfl (pgs_cons (pg_fld (pd_v 0)) (pgs_cons (pg_fld (pd_v 0)) (pgs_cons (pg_fld (pd_v 0)) (pgs_nil))))) (gkm_tup (gkms_cons (gkm_fld (W := noW) T.fl_Wish_part) (gkms_cons (gkm_fld (W := noW) T.fl_Wish_deed) (gkms_cons (gkm_fld (W := noW) T.fl_Wish_looks) (gkms_nil))))))
    (dss_one (ds_asgM (pd_tup (da_cons (pd_v 4) (da_cons (pd_v 5) (da_cons (pd_v 6) (da_nil))))) (pg_tup rfl (pgs_cons (pg_fld (pd_v 0)) (pgs_cons (pg_fld (pd_v 0)) (pgs_cons (pg_fld (pd_v 0)) (pgs_nil))))) (gkm_tup (gkms_cons (gkm_fld (W := noW) T.fl_Wish_name) (gkms_cons (gkm_fld (W := noW) T.fl_Wish_least) (gkms_cons (gkm_fld (W := noW) T.fl_Wish_most) (gkms_nil))))))))))
theorem ok_is_order (T : Tx w K mg) : DefOk P w K mg base 1 "is_order" "is_order" s_is_order ["row", "names"] sp_is_order := by
  refine def_ok (r := rd_is_order) T.f_is_order sc_is_order ln_is_order (fun f cdv A outer s H E hr => ?_) pu_is_order
  have tk : Takes (cxOf (L2.CX P w) P w K mg base N_is_order "is_order" (defScope s_is_order) f cdv A outer s H E) (fun c d _ H => E c d H) := takes_of rfl rfl rfl rfl
  exact dss_cons (ds_if (PW.pt (dw_or (dt_not (dt_tru (pd_isi T.b_isinstance bb_isinstance (da_cons (pd_v 0) (da_cons (pd_ty T.b_tuple bb_tuple) (da_nil)))))) (dw_or (dt_ne hr.units (pd_len T.b_len bb_len (da_cons (pd_v 0) (da_nil))) (pd_int)) (dw_or1 (dt_not (dt_tru (pd_all rfl T.b_all bb_all (da_cons (pd_lc rfl sc_is_order.nd (di_any (pd_v 0)) (blkOk_by (own := [("one", 3)]) (N := N_is_order) (sc := defScope s_is_order) (by decide +kernel)) (gN_ok) rfl (fun _ _ _ _ _ => pg_name (i := 3) sc_is_order.nd rfl (by first | exact Or.inl rfl | exact Or.inr rfl)) (fun _ _ _ _ _ => dts_nil) (fun _ _ _ _ _ => pd_isi T.b_isinstance bb_isinstance (da_cons (pd_v 3) (da_cons (pd_ty T.b_str bb_str) (da_nil))))) (da_nil))))))))) (dss_one (ds_ret (pd_bl))) (dss_nil))
    (dss_cons (ds_tup (pd_v 0) (pg_tup rfl (dgs_cons (pg_name (i := 2) sc_is_order.nd rfl (by first | exact Or.inl rfl | exact Or.inr rfl)) (dgs_cons (pg_name (i := 3) sc_is_order.nd rfl (by first | exact Or.inl rfl | exact Or.inr rfl)) (dgs_cons (pg_name (i := 4) sc_is_order.nd rfl (by first | exact Or.inl rfl | exact Or.inr rfl)) (dgs_nil))))) (gT_ok (js := [2, 3, 4])))
    (dss_one (ds_ret (pd_and (pd_in (units65 hr) (pd_v 2) (pd_con T.k_ORDERS)) (pd_and (pd_in (units65 hr) (pd_v 3) (pd_v 1)) (pd_and (pd_in (units65 hr) (pd_v 4) (pd_v 1)) (pd_one (pd_ne hr.units (pd_v 3) (pd_v 4)))))))))
theorem ok_are_orders (T : Tx w K mg) (G_are_unlike : DefOk P w K mg base 1 "are_unlike" "are_unlike" s_are_unlike ["some"] sp_are_unlike) (G_is_order : DefOk P w K mg base 1 "is_order" "is_order" s_is_order ["row", "names"] sp_is_order) : DefOk P w K mg base 2 "are_orders" "are_orders" s_are_orders ["orders", "names"] sp_are_orders := by
  obtain ⟨t_MOST_ORDERS, c_MOST_ORDERS⟩ := T.c0_MOST_ORDERS
  refine def_ok (r := rd_are_orders) T.f_are_orders sc_are_orders ln_are_orders (fun f cdv A outer s H E hr => ?_) pu_are_orders
  have tk : Takes (cxOf (L2.CX P w) P w K mg base N_are_orders "are_orders" (defScope s_are_orders) f cdv A outer s H E) (fun c d _ H => E c d H) := takes_of rfl rfl rfl rfl
  exact dss_cons (ds_if (PW.pt (dw_or (dt_not (dt_tru (pd_isi T.b_isinstance bb_isinstance (da_cons (pd_v 0) (da_cons (pd_ty T.b_tuple bb_tuple) (da_nil)))))) (dw_or1 (dt_gt (pd_len T.b_len bb_len (da_cons (pd_v 0) (da_nil))) (pd_gint c_MOST_ORDERS))))) (dss_one (ds_ret (pd_bl))) (dss_nil))
    (dss_one (ds_ret (pd_and (pd_all rfl T.b_all bb_all (da_cons (pd_lc rfl sc_are_orders.nd (di_any (pd_v 0)) (blkOk_by (own := [("row", 2)]) (N := N_are_orders) (sc := defScope s_are_orders) (by decide +kernel)) (gN_ok) rfl (fun _ _ _ _ _ => pg_name (i := 2) sc_are_orders.nd rfl (by first | exact Or.inl rfl | exact Or.inr rfl)) (fun _ _ _ _ _ => dts_nil) (fun _ _ _ _ _ => pd_callD G_is_order bi_is_order (hr.mono (by decide)) takes0 (da_cons (pd_v 2) (da_cons (pd_v 1) (da_nil))))) (da_nil))) (pd_one (pd_callD G_are_unlike bi_are_unlike (hr.mono (by decide)) tk (da_cons (pd_listOf T.b_list bb_list (da_cons (pd_v 0) (da_nil))) (da_nil)))))))
theorem ok_are_strict (T : Tx w K mg) (G_is_name : DefOk P w K mg base 1 "is_name" "is_name" s_is_name ["thing"] sp_is_name) (G_are_unlike : DefOk P w K mg base 1 "are_unlike" "are_unlike" s_are_unlike ["some"] sp_are_unlike) : DefOk P w K mg base 2 "are_strict" "are_strict" s_are_strict ["strict"] sp_are_strict := by
  obtain ⟨t_MOST_STRICT, c_MOST_STRICT⟩ := T.c0_MOST_STRICT
  refine def_ok (r := rd_are_strict) T.f_are_strict sc_are_strict ln_are_strict (fun f cdv A outer s H E hr => ?_) pu_are_strict
  have tk : Takes (cxOf (L2.CX P w) P w K mg base N_are_strict "are_strict" (defScope s_are_strict) f cdv A outer s H E) (fun c d _ H => E c d H) := takes_of rfl rfl rfl rfl
  exact dss_cons (ds_if (PW.pt (dw_or (dt_not (dt_tru (pd_isi T.b_isinstance bb_isinstance (da_cons (pd_v 0) (da_cons (pd_ty T.b_tuple bb_tuple) (da_nil)))))) (dw_or1 (dt_gt (pd_len T.b_len bb_len (da_cons (pd_v 0) (da_nil))) (pd_gint c_MOST_STRICT))))) (dss_one (ds_ret (pd_bl))) (dss_nil))
    (dss_one (ds_ret (pd_and (pd_all rfl T.b_all bb_all (da_cons (pd_lc rfl sc_are_strict.nd (di_any (pd_v 0)) (blkOk_by (own := [("part", 1)]) (N := N_are_strict) (sc := defScope s_are_strict) (by decide +kernel)) (gN_ok) rfl (fun _ _ _ _ _ => pg_name (i := 1) sc_are_strict.nd rfl (by first | exact Or.inl rfl | exact Or.inr rfl)) (fun _ _ _ _ _ => dts_nil) (fun _ _ _ _ _ => pd_callD G_is_name bi_is_name (hr.mono (by decide)) takes0 (da_cons (pd_v 1) (da_nil)))) (da_nil))) (pd_one (pd_callD G_are_unlike bi_are_unlike (hr.mono (by decide)) tk (da_cons (pd_listOf T.b_list bb_list (da_cons (pd_v 0) (da_nil))) (da_nil)))))))
theorem ok_Plan___init__ (T : Tx w K mg) (G_are_unlike : DefOk P w K mg base 1 "are_unlike" "are_unlike" s_are_unlike ["some"] sp_are_unlike) (G_are_orders : DefOk P w K mg base 2 "are_orders" "are_orders" s_are_orders ["orders", "names"] sp_are_orders) (G_are_strict : DefOk P w K mg base 2 "are_strict" "are_strict" s_are_strict ["strict"] sp_are_strict) (X_BadPlan : XMk P w K mg base 1 "BadPlan" ["self", "why"] spTE (fun fd => ∃ fI, FunG K "__init__" "TrialError.__init__" s_TrialError___init__ [.str "refused"] [] fI fd)) : MkG P w K mg base 3 "Plan" "Plan.__init__" s_Plan___init__ ["self", "wishes", "orders", "strict"] [] [("orders", .tup []), ("strict", .tup [])] sp_Plan___init__ := by
  obtain ⟨t_MOST_WISHES, c_MOST_WISHES⟩ := T.c0_MOST_WISHES
  refine mk_ok (r := rd_Plan___init__) T.f_Plan___init__ sc_Plan___init__ ln_Plan___init__ (fun f cdv A outer s H E hr => ?_) pu_Plan___init__
  have tk : Takes (cxOf (L2.CX P w) P w K mg base N_Plan___init__ "Plan.__init__" (defScope s_Plan___init__) f cdv A outer s H E) (fun c d _ H => E c d H) := takes_of rfl rfl rfl rfl
  exact dss_cons (ds_if (PW.pt (dw_or (dt_not (dt_tru (pd_isi T.b_isinstance bb_isinstance (da_cons (pd_v 1) (da_cons (pd_ty T.b_list bb_list) (da_nil)))))) (dw_or1 (dt_gt (pd_len T.b_len bb_len (da_cons (pd_v 1) (da_nil))) (pd_gint c_MOST_WISHES))))) (dss_one (ds_raise rfl X_BadPlan hb_TE (hr.mono (by decide)) tk (da_cons (pd_str) (da_nil)))) (dss_nil))
    (dss_cons (ds_if (dt_not (dt_tru (pd_all rfl T.b_all bb_all (da_cons (pd_lc rfl sc_Plan___init__.nd (di_any (pd_v 1)) (blkOk_by (own := [("wish", 5)]) (N := N_Plan___init__) (sc := defScope s_Plan___init__) (by decide +kernel)) (gN_ok) rfl (fun _ _ _ _ _ => pg_name (i := 5) sc_Plan___init__.nd rfl (by first | exact Or.inl rfl | exact Or.inr rfl)) (fun _ _ _ _ _ => dts_nil) (fun _ _ _ _ _ => pd_isG T.iso T.b_isinstance bb_isinstance (da_cons (pd_v 5) (da_cons (pd_gl T.g_Wish) (da_nil))))) (da_nil))))) (dss_one (ds_raise rfl X_BadPlan hb_TE (hr.mono (by decide)) tk (da_cons (pd_str) (da_nil)))) (dss_nil))
    (dss_cons (ds_setLc (i := 4) rfl sc_Plan___init__.nd (sw_true rfl rfl rfl (by decide +kernel)) (di_any (pd_v 1)) (blkOk_by (own := [("wish", 5)]) (N := N_Plan___init__) (sc := defScope s_Plan___init__) (by decide +kernel)) (gN_ok) rfl (fun _ _ _ _ _ => pg_name (i := 5) sc_Plan___init__.nd rfl (by first | exact Or.inl rfl | exact Or.inr rfl)) (fun _ _ _ _ _ => dts_nil) (fun _ _ _ _ _ => pd_fld T.fl_Wish_name (pd_v 5)))
    (dss_cons (ds_if (PW.pt (dw_or (dt_not (dt_tru (pd_callD G_are_unlike bi_are_unlike (hr.mono (by decide)) tk (da_cons (pd_v 4) (da_nil))))) (dw_or (dt_not (dt_tru (pd_callD G_are_orders bi_are_orders (hr.mono (by decide)) tk (da_cons (pd_v 2) (da_cons (pd_v 4) (da_nil)))))) (dw_or1 (dt_not (dt_tru (pd_callD G_are_strict bi_are_strict (hr.mono (by decide)) tk (da_cons (pd_v 3) (da_nil))))))))) (dss_one (ds_raise rfl X_BadPlan hb_TE (hr.mono (by decide)) tk (da_cons (pd_str) (da_nil)))) (dss_nil))
    (dss_cons (ds_setF T.fl_Plan_told (pd_v 0) (pd_tupleOf T.b_tuple bb_tuple (da_cons (pd_v 1) (da_nil))))
    (dss_cons (ds_setF T.fl_Plan_orders (pd_v 0) (pd_v 2))
    (dss_one (ds_setF T.fl_Plan_strict (pd_v 0) (pd_v 3))))))))
theorem ok_Plan_wishes (T : Tx w K mg) : MetG P w K mg base 1 "Plan" "wishes" "Plan.wishes" s_Plan_wishes ["self"] [] [] sp_Plan_wishes := by
  refine met_ok (r := rd_Plan_wishes) T.f_Plan_wishes sc_Plan_wishes ln_Plan_wishes (fun f cdv A outer s H E hr => ?_) pu_Plan_wishes
  have tk : Takes (cxOf (L2.CX P w) P w K mg base N_Plan_wishes "Plan.wishes" (defScope s_Plan_wishes) f cdv A outer s H E) (fun c d _ H => E c d H) := takes_of rfl rfl rfl rfl
  exact dss_one (ds_ret (pd_listOf T.b_list bb_list (da_cons (pd_fld T.fl_Plan_told (pd_v 0)) (da_nil))))
theorem ok_demands (T : Tx w K mg) (G_Plan_wishes : MetG P w K mg base 1 "Plan" "wishes" "Plan.wishes" s_Plan_wishes ["self"] [] [] sp_Plan_wishes) : DefOk P w K mg base 2 "demands" "demands" s_demands ["plan"] sp_demands := by
  refine def_ok (r := rd_demands) T.f_demands sc_demands ln_demands (fun f cdv A outer s H E hr => ?_) pu_demands
  have tk : Takes (cxOf (L2.CX P w) P w K mg base N_demands "demands" (defScope s_demands) f cdv A outer s H E) (fun c d _ H => E c d H) := takes_of rfl rfl rfl rfl
  exact dss_one (ds_ret (pd_add (pd_lc rfl sc_demands.nd (di_any (pd_met G_Plan_wishes kb_Plan_wishes_0 (hr.mono (by decide)) tk (pd_v 0) (cal_nil (dk_nil)))) (blkOk_by (own := [("wish", 1)]) (N := N_demands) (sc := defScope s_demands) (by decide +kernel)) (gN_ok) rfl (fun _ _ _ _ _ => pg_name (i := 1) sc_demands.nd rfl (by first | exact Or.inl rfl | exact Or.inr rfl)) (fun _ _ _ _ _ => dts_one (dt_gt (pd_fld T.fl_Wish_least (pd_v 1)) (pd_int))) (fun _ _ _ _ _ => pd_tup (da_cons (pd_str) (da_cons (pd_fld T.fl_Wish_name (pd_v 1)) (da_nil))))) (pd_listOf T.b_list bb_list (da_cons (pd_fld T.fl_Plan_orders (pd_v 0)) (da_nil)))))
theorem ok_eased_wish (T : Tx w K mg) (G_Wish___init__ : MkG P w K mg base 6 "Wish" "Wish.__init__" s_Wish___init__ ["self", "part", "deed", "looks", "name", "least", "most"] [.non, .non] [("least", .int 1), ("most", .int 1)] sp_Wish___init__) : DefOk P w K mg base 8 "eased_wish" "eased_wish" s_eased_wish ["wish", "kept"] sp_eased_wish := by
  refine def_ok (r := rd_eased_wish) T.f_eased_wish sc_eased_wish ln_eased_wish (fun f cdv A outer s H E hr => ?_) pu_eased_wish
  have tk : Takes (cxOf (L2.CX P w) P w K mg base N_eased_wish "eased_wish" (defScope s_eased_wish) f cdv A outer s H E) (fun c d _ H => E c d H) := takes_of rfl rfl rfl rfl
  exact dss_cons (ds_set (i := 2) sc_eased_wish.nd (pd_if (dt_in (units65 hr) (pd_tup (da_cons (pd_str) (da_cons (pd_fld T.fl_Wish_name (pd_v 0)) (da_nil)))) (pd_v 1)) (pd_fld T.fl_Wish_least (pd_v 0)) (pd_int)))
    (dss_one (ds_ret (pd_mk G_Wish___init__ kb_Wish___init___1 (hr.mono (by decide)) tk (cal_cons (da_cons (pd_fld T.fl_Wish_part (pd_v 0)) (da_cons (pd_fld T.fl_Wish_deed (pd_v 0)) (da_cons (pd_fld T.fl_Wish_looks (pd_v 0)) (da_nil)))) (dk_cons (pd_fld T.fl_Wish_name (pd_v 0)) (dk_cons (pd_v 2) (dk_cons (pd_fld T.fl_Wish_most (pd_v 0)) (dk_nil))))))))
theorem ok_eased (T : Tx w K mg) (G_Plan___init__ : MkG P w K mg base 3 "Plan" "Plan.__init__" s_Plan___init__ ["self", "wishes", "orders", "strict"] [] [("orders", .tup []), ("strict", .tup [])] sp_Plan___init__) (G_Plan_wishes : MetG P w K mg base 1 "Plan" "wishes" "Plan.wishes" s_Plan_wishes ["self"] [] [] sp_Plan_wishes) (G_demands : DefOk P w K mg base 2 "demands" "demands" s_demands ["plan"] sp_demands) (G_eased_wish : DefOk P w K mg base 8 "eased_wish" "eased_wish" s_eased_wish ["wish", "kept"] sp_eased_wish) (X_BadPlan : XMk P w K mg base 1 "BadPlan" ["self", "why"] spTE (fun fd => ∃ fI, FunG K "__init__" "TrialError.__init__" s_TrialError___init__ [.str "refused"] [] fI fd)) : DefOk P w K mg base 9 "eased" "eased" s_eased ["plan", "kept"] sp_eased := by
  refine def_ok (r := rd_eased) T.f_eased sc_eased ln_eased (fun f cdv A outer s H E hr => ?_) pu_eased
  have tk : Takes (cxOf (L2.CX P w) P w K mg base N_eased "eased" (defScope s_eased) f cdv A outer s H E) (fun c d _ H => E c d H) := takes_of rfl rfl rfl rfl
  exact dss_cons (ds_set (i := 2) sc_eased.nd (pd_callD G_demands bi_demands (hr.mono (by decide)) tk (da_cons (pd_v 0) (da_nil))))
    (dss_cons (ds_if (dt_not (dt_tru (pd_all rfl T.b_all bb_all (da_cons (pd_lc rfl sc_eased.nd (di_any (pd_v 1)) (blkOk_by (own := [("demand", 6)]) (N := N_eased) (sc := defScope s_eased) (by decide +kernel)) (gN_ok) rfl (fun _ _ _ _ _ => pg_name (i := 6) sc_eased.nd rfl (by first | exact Or.inl rfl | exact Or.inr rfl)) (fun _ _ _ _ _ => dts_nil) (fun _ _ _ _ _ => pd_in (units65 hr) (pd_v 6) (pd_v 2))) (da_nil))))) (dss_one (ds_raise rfl X_BadPlan hb_TE (hr.mono (by decide)) tk (da_cons (pd_str) (da_nil)))) (dss_nil))
    (dss_cons (ds_set (i := 3) sc_eased.nd (pd_tupleOf T.b_tuple bb_tuple (da_cons (pd_lc rfl sc_eased.nd (di_any (pd_fld T.fl_Plan_orders (pd_v 0))) (blkOk_by (own := [("order", 4)]) (N := N_eased) (sc := defScope s_eased) (by decide +kernel)) (gN_ok) rfl (fun _ _ _ _ _ => pg_name (i := 4) sc_eased.nd rfl (by first | exact Or.inl rfl | exact Or.inr rfl)) (fun _ _ _ _ _ => dts_one (dt_in (units65 hr) (pd_v 4) (pd_v 1))) (fun _ _ _ _ _ => pd_v 4)) (da_nil))))
    (dss_one (ds_ret (pd_mk G_Plan___init__ kb_Plan___init___2 (hr.mono (by decide)) tk (cal_cons (da_cons (pd_lc rfl sc_eased.nd (di_any (pd_met G_Plan_wishes kb_Plan_wishes_0 (hr.mono (by decide)) tk (pd_v 0) (cal_nil (dk_nil)))) (blkOk_by (own := [("wish", 5)]) (N := N_eased) (sc := defScope s_eased) (by decide +kernel)) (gN_ok) rfl (fun _ _ _ _ _ => pg_name (i := 5) sc_eased.nd rfl (by first | exact Or.inl rfl | exact Or.inr rfl)) (fun _ _ _ _ _ => dts_nil) (fun _ _ _ _ _ => pd_callD G_eased_wish bi_eased_wish (hr.mono (by decide)) takes0 (da_cons (pd_v 5) (da_cons (pd_v 1) (da_nil))))) (da_nil)) (dk_cons (pd_v 3) (dk_cons (pd_fld T.fl_Plan_strict (pd_v 0)) (dk_nil)))))))))
theorem ok__law_cell_at (T : Tx w K mg) : DefOk P w K mg base 1 "_law_cell_at" "_law_cell_at" s__law_cell_at ["_law_script", "_law_k"] sp__law_cell_at := by
  refine def_ok (r := rd__law_cell_at) T.f__law_cell_at sc__law_cell_at ln__law_cell_at (fun f cdv A outer s H E hr => ?_) pu__law_cell_at
  have tk : Takes (cxOf (L2.CX P w) P w K mg base N__law_cell_at "_law_cell_at" (defScope s__law_cell_at) f cdv A outer s H E) (fun c d _ H => E c d H) := takes_of rfl rfl rfl rfl
  exact dss_cons (ds_if (dt_lt (pd_v 1) (pd_len T.b_len bb_len (da_cons (pd_v 0) (da_nil)))) (dss_one (ds_ret (pd_ix (pd_v 0) (pd_v 1)))) (dss_nil))
    (dss_one (ds_ret (pd_int)))
theorem ok__law_spring (T : Tx w K mg) : DefOk P w K mg base 1 "_law_spring" "_law_spring" s__law_spring ["_law_cell"] sp__law_spring := by
  refine def_ok (r := rd__law_spring) T.f__law_spring sc__law_spring ln__law_spring (fun f cdv A outer s H E hr => ?_) pu__law_spring
  have tk : Takes (cxOf (L2.CX P w) P w K mg base N__law_spring "_law_spring" (defScope s__law_spring) f cdv A outer s H E) (fun c d _ H => E c d H) := takes_of rfl rfl rfl rfl
  exact dss_cons (ds_if (dt_ge (pd_v 0) (pd_pow (pd_int) (pd_int))) (dss_one (ds_ret (pd_lstM (da_cons (pd_v 0) (da_cons (pd_mod (pd_intOf T.b_int bb_int (da_cons (pd_v 0) (da_nil))) (pd_int)) (da_cons (pd_int) (da_nil))))))) (dss_nil))
    (dss_one (ds_ret (pd_lstM (da_cons (pd_int) (da_cons (pd_mod (pd_intOf T.b_int bb_int (da_cons (pd_v 0) (da_nil))) (pd_int)) (da_cons (pd_int) (da_nil)))))))
theorem ok__law_draw (T : Tx w K mg) : DefOk P w K mg base 1 "_law_draw" "_law_draw" s__law_draw ["_law_well", "_law_many"] sp__law_draw_v2 := by
  refine def_ok (r := rd__law_draw_v2) T.f__law_draw sc__law_draw ln__law_draw_v2 (fun f cdv A outer s H E hr => ?_) pu__law_draw_v2
  have tk : Takes (cxOf (L2.CX P w) P w K mg base N__law_draw "_law_draw" (defScope s__law_draw) f cdv A outer s H E) (fun c d _ H => E c d H) := takes_of rfl rfl rfl rfl
  exact dss_cons (ds_if (dt_gt (pd_ix (pd_v 0) (pd_int)) (pd_int)) (dss_cons (ds_set (i := 3) sc__law_draw.nd (pd_mod (pd_intOf T.b_int bb_int (da_cons (pd_ix (pd_v 0) (pd_int)) (da_nil))) (pd_v 1)))
    (dss_cons (ds_setIx (pd_div (pd_ix (pd_v 0) (pd_int)) (pd_v 1)) (pd_v 0) (pd_int))
    (dss_one (ds_ret (pd_v 3))))) (dss_nil))
    (dss_cons (ds_setIx (pd_add (pd_ix (pd_v 0) (pd_int)) (pd_int)) (pd_v 0) (pd_int))
    (dss_cons (ds_set (i := 2) sc__law_draw.nd (pd_mod (pd_intOf T.b_int bb_int (da_cons (pd_pow (pd_add (pd_add (pd_ix (pd_v 0) (pd_int)) (pd_mul (pd_int) (pd_ix (pd_v 0) (pd_int)))) (pd_int)) (pd_int)) (da_nil))) (pd_int)))
    (dss_cons (ds_set (i := 2) sc__law_draw.nd (pd_mod (pd_intOf T.b_int bb_int (da_cons (pd_mul (pd_v 2) (pd_add (pd_add (pd_div (pd_v 2) (pd_int)) (pd_int)) (pd_ix (pd_v 0) (pd_int)))) (da_nil))) (pd_int)))
    (dss_one (ds_ret (pd_mod (pd_intOf T.b_int bb_int (da_cons (pd_mod (pd_intOf T.b_int bb_int (da_cons (pd_mul (pd_v 2) (pd_add (pd_div (pd_v 2) (pd_int)) (pd_int))) (da_nil))) (pd_int)) (da_nil))) (pd_v 1)))))))
theorem ok__law_one (T : Tx w K mg) (G__law_draw : DefOk P w K mg base 1 "_law_draw" "_law_draw" s__law_draw ["_law_well", "_law_many"] sp__law_draw_v2) : DefOk P w K mg base 2 "_law_one" "_law_one" s__law_one ["_law_well", "_law_some"] sp__law_one_v2 := by
  refine def_ok (r := rd__law_one_v2) T.f__law_one sc__law_one ln__law_one_v2 (fun f cdv A outer s H E hr => ?_) pu__law_one_v2
  have tk : Takes (cxOf (L2.CX P w) P w K mg base N__law_one "_law_one" (defScope s__law_one) f cdv A outer s H E) (fun c d _ H => E c d H) := takes_of rfl rfl rfl rfl
  exact dss_one (ds_ret (pd_ix (pd_v 1) (pd_callD G__law_draw bi__law_draw (hr.mono (by decide)) tk (da_cons (pd_v 0) (da_cons (pd_len T.b_len bb_len (da_cons (pd_v 1) (da_nil))) (da_nil))))))
theorem ok__law_word (T : Tx w K mg) (G__law_draw : DefOk P w K mg base 1 "_law_draw" "_law_draw" s__law_draw ["_law_well", "_law_many"] sp__law_draw_v2) : DefOk P w K mg base 2 "_law_word" "_law_word" s__law_word ["_law_well", "_law_size"] sp__law_word := by
  refine def_ok (r := rd__law_word) T.f__law_word sc__law_word ln__law_word (fun f cdv A outer s H E hr => ?_) pu__law_word
  have tk : Takes (cxOf (L2.CX P w) P w K mg base N__law_word "_law_word" (defScope s__law_word) f cdv A outer s H E) (fun c d _ H => E c d H) := takes_of rfl rfl rfl rfl
  exact dss_cons (ds_set (i := 2) sc__law_word.nd (pd_str))
    (dss_one (ds_ret (pd_join (pd_str) (pd_lc rfl sc__law_word.nd (di_range T.b_range (da_cons (pd_callD G__law_draw bi__law_draw (hr.mono (by decide)) tk (da_cons (pd_v 0) (da_cons (pd_add (pd_v 1) (pd_int)) (da_nil)))) (da_nil))) (blkOk_by (own := [("_law_k", 3)]) (N := N__law_word) (sc := defScope s__law_word) (by decide +kernel)) (gN_ok) rfl (fun _ _ _ _ _ => pg_name (i := 3) sc__law_word.nd rfl (by first | exact Or.inl rfl | exact Or.inr rfl)) (fun _ _ _ _ _ => dts_nil) (fun _ _ _ _ _ => pd_ix (pd_v 2) (pd_callD G__law_draw bi__law_draw (hr.mono (by decide)) takes0 (da_cons (pd_v 0) (da_cons (pd_int) (da_nil)))))))))
theorem ok__law_look (T : Tx w K mg) (G__law_draw : DefOk P w K mg base 1 "_law_draw" "_law_draw" s__law_draw ["_law_well", "_law_many"] sp__law_draw_v2) : DefOk P w K mg base 2 "_law_look" "_law_look" s__law_look ["_law_well", "_law_base"] sp__law_look_v3 := by
  refine def_ok (r := rd__law_look_v3) T.f__law_look sc__law_look ln__law_look_v3 (fun f cdv A outer s H E hr => ?_) pu__law_look_v3
  have tk : Takes (cxOf (L2.CX P w) P w K mg base N__law_look "_law_look" (defScope s__law_look) f cdv A outer s H E) (fun c d _ H => E c d H) := takes_of rfl rfl rfl rfl
  exact dss_cons (ds_set (i := 2) sc__law_look.nd (pd_callD G__law_draw bi__law_draw (hr.mono (by decide)) tk (da_cons (pd_v 0) (da_cons (pd_int) (da_nil)))))
    (dss_cons (ds_set (i := 3) sc__law_look.nd (pd_add (pd_v 1) (pd_callD G__law_draw bi__law_draw (hr.mono (by decide)) tk (da_cons (pd_v 0) (da_cons (pd_int) (da_nil))))))
    (dss_cons (ds_set (i := 4) sc__law_look.nd (pd_lstM (da_cons (pd_tup (da_cons (pd_str) (da_nil))) (da_cons (pd_tup (da_cons (pd_str) (da_cons (pd_v 3) (da_nil)))) (da_cons (pd_tup (da_cons (pd_str) (da_cons (pd_v 3) (da_nil)))) (da_cons (pd_tup (da_cons (pd_str) (da_cons (pd_v 3) (da_nil)))) (da_cons (pd_tup (da_cons (pd_str) (da_cons (pd_v 3) (da_cons (pd_sub (pd_add (pd_v 3) (pd_callD G__law_draw bi__law_draw (hr.mono (by decide)) tk (da_cons (pd_v 0) (da_cons (pd_int) (da_nil))))) (pd_int)) (da_nil))))) (da_nil))))))))
    (dss_cons (ds_expr (pd_app (pd_v 4) (pd_tup (da_cons (pd_str) (da_cons (pd_ix (pd_tup (da_cons (pd_tup (da_nil)) (da_cons (pd_tup (da_cons (pd_v 3) (da_nil))) (da_cons (pd_tup (da_cons (pd_add (pd_v 3) (pd_int)) (da_cons (pd_v 3) (da_nil)))) (da_nil))))) (pd_callD G__law_draw bi__law_draw (hr.mono (by decide)) tk (da_cons (pd_v 0) (da_cons (pd_int) (da_nil))))) (da_nil))))))
    (dss_cons (ds_if (dt_lt (pd_v 2) (pd_int)) (dss_one (ds_ret (pd_ix (pd_v 4) (pd_v 2)))) (dss_nil))
    (dss_one (ds_ret (pd_tup (da_cons (pd_str) (da_cons (pd_ix (pd_v 4) (pd_callD G__law_draw bi__law_draw (hr.mono (by decide)) tk (da_cons (pd_v 0) (da_cons (pd_int) (da_nil))))) (da_nil))))))))))
theorem ok__law_wish (T : Tx w K mg) (G__law_draw : DefOk P w K mg base 1 "_law_draw" "_law_draw" s__law_draw ["_law_well", "_law_many"] sp__law_draw_v2) (G__law_one : DefOk P w K mg base 2 "_law_one" "_law_one" s__law_one ["_law_well", "_law_some"] sp__law_one_v2) (G__law_word : DefOk P w K mg base 2 "_law_word" "_law_word" s__law_word ["_law_well", "_law_size"] sp__law_word) (G__law_look : DefOk P w K mg base 2 "_law_look" "_law_look" s__law_look ["_law_well", "_law_base"] sp__law_look_v3) : DefOk P w K mg base 3 "_law_wish" "_law_wish" s__law_wish ["_law_well", "_law_base", "_law_last"] sp__law_wish_v2 := by
  refine def_ok (r := rd__law_wish_v2) T.f__law_wish sc__law_wish ln__law_wish_v2 (fun f cdv A outer s H E hr => ?_) pu__law_wish_v2
  have tk : Takes (cxOf (L2.CX P w) P w K mg base N__law_wish "_law_wish" (defScope s__law_wish) f cdv A outer s H E) (fun c d _ H => E c d H) := takes_of rfl rfl rfl rfl
  exact dss_cons (ds_set (i := 3) sc__law_wish.nd (pd_callD G__law_one bi__law_one (hr.mono (by decide)) tk (da_cons (pd_v 0) (da_cons (pd_lst (da_cons (pd_str) (da_cons (pd_str) (da_nil)))) (da_nil)))))
    (dss_cons (ds_set (i := 4) sc__law_wish.nd (pd_callD G__law_one bi__law_one (hr.mono (by decide)) tk (da_cons (pd_v 0) (da_cons (pd_lst (da_cons (pd_non) (da_cons (pd_add (pd_callD G__law_word bi__law_word (hr.mono (by decide)) tk (da_cons (pd_v 0) (da_cons (pd_int) (da_nil)))) (pd_str)) (da_cons (pd_str) (da_nil))))) (da_nil)))))
    (dss_cons (ds_set (i := 5) sc__law_wish.nd (pd_callD G__law_draw bi__law_draw (hr.mono (by decide)) tk (da_cons (pd_v 0) (da_cons (pd_int) (da_nil)))))
    (dss_cons (ds_set (i := 6) sc__law_wish.nd (pd_callD G__law_one bi__law_one (hr.mono (by decide)) tk (da_cons (pd_v 0) (da_cons (pd_lst (da_cons (pd_v 5) (da_cons (pd_non) (da_cons (pd_int) (da_nil))))) (da_nil)))))
    (dss_cons (ds_set (i := 7) sc__law_wish.nd (pd_callD G__law_one bi__law_one (hr.mono (by decide)) tk (da_cons (pd_v 0) (da_cons (pd_lst (da_cons (pd_non) (da_cons (pd_tup (da_nil)) (da_cons (pd_tup (da_cons (pd_callD G__law_look bi__law_look (hr.mono (by decide)) tk (da_cons (pd_v 0) (da_cons (pd_v 1) (da_nil)))) (da_nil))) (da_cons (pd_tup (da_cons (pd_callD G__law_look bi__law_look (hr.mono (by decide)) tk (da_cons (pd_v 0) (da_cons (pd_v 1) (da_nil)))) (da_cons (pd_callD G__law_look bi__law_look (hr.mono (by decide)) tk (da_cons (pd_v 0) (da_cons (pd_v 1) (da_nil)))) (da_nil)))) (da_nil)))))) (da_nil)))))
    (dss_one (ds_ret (pd_tup (da_cons (pd_v 3) (da_cons (pd_v 4) (da_cons (pd_v 7) (da_cons (pd_add (pd_callD G__law_word bi__law_word (hr.mono (by decide)) tk (da_cons (pd_v 0) (da_cons (pd_int) (da_nil)))) (pd_v 2)) (da_cons (pd_v 5) (da_cons (pd_v 6) (da_nil))))))))))))))
theorem ok__law_orders (T : Tx w K mg) (G__law_draw : DefOk P w K mg base 1 "_law_draw" "_law_draw" s__law_draw ["_law_well", "_law_many"] sp__law_draw_v2) (G__law_one : DefOk P w K mg base 2 "_law_one" "_law_one" s__law_one ["_law_well", "_law_some"] sp__law_one_v2) : DefOk P w K mg base 3 "_law_orders" "_law_orders" s__law_orders ["_law_well", "_law_names"] sp__law_orders := by
  refine def_ok (r := rd__law_orders) T.f__law_orders sc__law_orders ln__law_orders (fun f cdv A outer s H E hr => ?_) pu__law_orders
  have tk : Takes (cxOf (L2.CX P w) P w K mg base N__law_orders "_law_orders" (defScope s__law_orders) f cdv A outer s H E) (fun c d _ H => E c d H) := takes_of rfl rfl rfl rfl
  exact dss_cons (ds_set (i := 2) sc__law_orders.nd (pd_lstM (da_nil)))
    (dss_cons (ds_for (passes_of rfl) rfl (di_range T.b_range (da_cons (pd_mul (pd_callD G__law_draw bi__law_draw (hr.mono (by decide)) tk (da_cons (pd_v 0) (da_cons (pd_int) (da_nil)))) (pd_intOf T.b_int bb_int (da_cons (pd_gt (pd_len T.b_len bb_len (da_cons (pd_v 1) (da_nil))) (pd_int)) (da_nil)))) (da_nil))) (pg_name (i := 3) sc__law_orders.nd rfl (by first | exact Or.inl rfl | exact Or.inr rfl)) (gN_ok) (dss_cons (ds_set (i := 4) sc__law_orders.nd (pd_callD G__law_draw bi__law_draw (hr.mono (by decide)) tk (da_cons (pd_v 0) (da_cons (pd_len T.b_len bb_len (da_cons (pd_v 1) (da_nil))) (da_nil)))))
    (dss_cons (ds_set (i := 5) sc__law_orders.nd (pd_mod (pd_intOf T.b_int bb_int (da_cons (pd_add (pd_add (pd_v 4) (pd_int)) (pd_callD G__law_draw bi__law_draw (hr.mono (by decide)) tk (da_cons (pd_v 0) (da_cons (pd_sub (pd_len T.b_len bb_len (da_cons (pd_v 1) (da_nil))) (pd_int)) (da_nil))))) (da_nil))) (pd_len T.b_len bb_len (da_cons (pd_v 1) (da_nil)))))
    (dss_cons (ds_set (i := 6) sc__law_orders.nd (pd_tup (da_cons (pd_callD G__law_one bi__law_one (hr.mono (by decide)) tk (da_cons (pd_v 0) (da_cons (pd_lst (da_cons (pd_str) (da_cons (pd_str) (da_nil)))) (da_nil)))) (da_cons (pd_ix (pd_v 1) (pd_v 4)) (da_cons (pd_ix (pd_v 1) (pd_v 5)) (da_nil))))))
    (dss_one (ds_if (dt_notIn (units65 hr) (pd_v 6) (pd_v 2)) (dss_one (ds_expr (pd_app (pd_v 2) (pd_v 6)))) (dss_nil)))))))
    (dss_one (ds_ret (pd_seal (pd_v 2)))))
theorem ok__law_due (T : Tx w K mg) : DefOk P w K mg base 1 "_law_due" "_law_due" s__law_due ["_law_wishes", "_law_laid"] sp__law_due_v3 := by
  refine def_ok (r := rd__law_due_v3) T.f__law_due sc__law_due ln__law_due_v3 (fun f cdv A outer s H E hr => ?_) pu__law_due_v3
  have tk : Takes (cxOf (L2.CX P w) P w K mg base N__law_due "_law_due" (defScope s__law_due) f cdv A outer s H E) (fun c d _ H => E c d H) := takes_of rfl rfl rfl rfl
  exact dss_one (ds_ret (pd_add (pd_lc rfl sc__law_due.nd (di_any (pd_v 0)) (blkOk_by (own := [("_law_wish_here", 2)]) (N := N__law_due) (sc := defScope s__law_due) (by decide +kernel)) (gN_ok) rfl (fun _ _ _ _ _ => pg_name (i := 2) sc__law_due.nd rfl (by first | exact Or.inl rfl | exact Or.inr rfl)) (fun _ _ _ _ _ => dts_one (dt_gt (pd_ix (pd_v 2) (pd_int)) (pd_int))) (fun _ _ _ _ _ => pd_tup (da_cons (pd_str) (da_cons (pd_ix (pd_v 2) (pd_int)) (da_nil))))) (pd_v 1)))
theorem ok__law_row (T : Tx w K mg) : DefOk P w K mg base 1 "_law_row" "_law_row" s__law_row ["_law_wish_here"] sp__law_row := by
  refine def_ok (r := rd__law_row) T.f__law_row sc__law_row ln__law_row (fun f cdv A outer s H E hr => ?_) pu__law_row
  have tk : Takes (cxOf (L2.CX P w) P w K mg base N__law_row "_law_row" (defScope s__law_row) f cdv A outer s H E) (fun c d _ H => E c d H) := takes_of rfl rfl rfl rfl
  exact dss_one (ds_ret (pd_tup (da_cons (pd_fld T.fl_Wish_part (pd_v 0)) (da_cons (pd_fld T.fl_Wish_deed (pd_v 0)) (da_cons (pd_fld T.fl_Wish_looks (pd_v 0)) (da_cons (pd_fld T.fl_Wish_name (pd_v 0)) (da_cons (pd_fld T.fl_Wish_least (pd_v 0)) (da_cons (pd_fld T.fl_Wish_most (pd_v 0)) (da_nil)))))))))
theorem ok__law_stays (T : Tx w K mg) (G_Plan_wishes : MetG P w K mg base 1 "Plan" "wishes" "Plan.wishes" s_Plan_wishes ["self"] [] [] sp_Plan_wishes) (G__law_row : DefOk P w K mg base 1 "_law_row" "_law_row" s__law_row ["_law_wish_here"] sp__law_row) : DefOk P w K mg base 2 "_law_stays" "_law_stays" s__law_stays ["_law_trial", "_law_wishes", "_law_laid", "_law_firm"] sp__law_stays := by
  refine def_ok (r := rd__law_stays) T.f__law_stays sc__law_stays ln__law_stays (fun f cdv A outer s H E hr => ?_) pu__law_stays
  have tk : Takes (cxOf (L2.CX P w) P w K mg base N__law_stays "_law_stays" (defScope s__law_stays) f cdv A outer s H E) (fun c d _ H => E c d H) := takes_of rfl rfl rfl rfl
  exact dss_cons (ds_if (PW.pt (dw_or (dt_not (dt_tru (pd_isG T.iso T.b_isinstance bb_isinstance (da_cons (pd_v 0) (da_cons (pd_gl T.g_Plan) (da_nil)))))) (dw_or1 (dt_ne hr.units (pd_lc rfl sc__law_stays.nd (di_any (pd_met G_Plan_wishes kb_Plan_wishes_0 (hr.mono (by decide)) tk (pd_v 0) (cal_nil (dk_nil)))) (blkOk_by (own := [("_law_wish_here", 4)]) (N := N__law_stays) (sc := defScope s__law_stays) (by decide +kernel)) (gN_ok) rfl (fun _ _ _ _ _ => pg_name (i := 4) sc__law_stays.nd rfl (by first | exact Or.inl rfl | exact Or.inr rfl)) (fun _ _ _ _ _ => dts_nil) (fun _ _ _ _ _ => pd_callD G__law_row bi__law_row (hr.mono (by decide)) takes0 (da_cons (pd_v 4) (da_nil)))) (pd_v 1))))) (dss_one (ds_ret (pd_bl))) (dss_nil))
    (dss_one (ds_ret (pd_and (pd_eq hr.units (pd_listOf T.b_list bb_list (da_cons (pd_fld T.fl_Plan_orders (pd_v 0)) (da_nil))) (pd_v 2)) (pd_one (pd_eq hr.units (pd_srtT T.b_sorted bb_sorted (da_cons (pd_fld T.fl_Plan_strict (pd_v 0)) (da_nil))) (pd_srtT T.b_sorted bb_sorted (da_cons (pd_v 3) (da_nil))))))))
theorem ok__law_refused (T : Tx w K mg) (G_eased : DefOk P w K mg base 9 "eased" "eased" s_eased ["plan", "kept"] sp_eased) : DefOk P w K mg base 10 "_law_refused" "_law_refused" s__law_refused ["_law_trial", "_law_some"] sp__law_refused_v6 := by
  refine def_ok (r := rd__law_refused_v6) T.f__law_refused sc__law_refused ln__law_refused_v6 (fun f cdv A outer s H E hr => ?_) pu__law_refused_v6
  have tk : Takes (cxOf (L2.CX P w) P w K mg base N__law_refused "_law_refused" (defScope s__law_refused) f cdv A outer s H E) (fun c d _ H => E c d H) := takes_of rfl rfl rfl rfl
  exact dss_cons (ds_tryA (i := 2) rfl rfl sc__law_refused.nd T.ea_BadPlan tk (fun _ _ _ tk _ => dss_one (ds_expr (pd_callD G_eased bi_eased (hr.mono (by decide)) tk (da_cons (pd_v 0) (da_cons (pd_v 1) (da_nil)))))) (fun xa oe xc xd pn hz hf => dss_one (ds_ret (pd_and (pd_isX T.xc T.xi hz hf T.b_isinstance bb_isinstance (da_cons (pd_v 2) (da_cons (pd_ty T.b_ValueError bb_ValueError) (da_nil)))) (pd_one (pd_not (pd_isX T.xc T.xi hz hf T.b_isinstance bb_isinstance (da_cons (pd_v 2) (da_cons (pd_tup (da_cons (pd_gl T.g_BadAsk) (da_cons (pd_gl T.g_BadWish) (da_nil)))) (da_nil))))))))))
    (dss_one (ds_ret (pd_bl)))
theorem ok__law_odd (T : Tx w K mg) (G__law_one : DefOk P w K mg base 2 "_law_one" "_law_one" s__law_one ["_law_well", "_law_some"] sp__law_one_v2) : DefOk P w K mg base 3 "_law_odd" "_law_odd" s__law_odd ["_law_well", "_law_wishes", "_law_laid"] sp__law_odd_v3 := by
  refine def_ok (r := rd__law_odd_v3) T.f__law_odd sc__law_odd ln__law_odd_v3 (fun f cdv A outer s H E hr => ?_) pu__law_odd_v3
  have tk : Takes (cxOf (L2.CX P w) P w K mg base N__law_odd "_law_odd" (defScope s__law_odd) f cdv A outer s H E) (fun c d _ H => E c d H) := takes_of rfl rfl rfl rfl
  exact dss_cons (ds_set (i := 3) sc__law_odd.nd (pd_lst (da_cons (pd_tup (da_cons (pd_str) (da_cons (pd_str) (da_nil)))) (da_cons (pd_tup (da_cons (pd_str) (da_cons (pd_str) (da_nil)))) (da_cons (pd_tup (da_cons (pd_str) (da_cons (pd_str) (da_cons (pd_str) (da_nil))))) (da_nil))))))
    (dss_cons (ds_set (i := 3) sc__law_odd.nd (pd_add (pd_v 3) (pd_lc rfl sc__law_odd.nd (di_any (pd_v 1)) (blkOk_by (own := [("_law_wish_here", 5)]) (N := N__law_odd) (sc := defScope s__law_odd) (by decide +kernel)) (gN_ok) rfl (fun _ _ _ _ _ => pg_name (i := 5) sc__law_odd.nd rfl (by first | exact Or.inl rfl | exact Or.inr rfl)) (fun _ _ _ _ _ => dts_one (dt_eq hr.units (pd_ix (pd_v 5) (pd_int)) (pd_int))) (fun _ _ _ _ _ => pd_tup (da_cons (pd_str) (da_cons (pd_ix (pd_v 5) (pd_int)) (da_nil)))))))
    (dss_cons (ds_set (i := 3) sc__law_odd.nd (pd_add (pd_v 3) (pd_lc rfl sc__law_odd.nd (di_any (pd_v 1)) (blkOk_by (own := [("_law_wish_here", 5)]) (N := N__law_odd) (sc := defScope s__law_odd) (by decide +kernel)) (gN_ok) rfl (fun _ _ _ _ _ => pg_name (i := 5) sc__law_odd.nd rfl (by first | exact Or.inl rfl | exact Or.inr rfl)) (fun _ _ _ _ _ => dts_nil) (fun _ _ _ _ _ => pd_tup (da_cons (pd_str) (da_cons (pd_ix (pd_v 5) (pd_int)) (da_nil)))))))
    (dss_cons (ds_set (i := 3) sc__law_odd.nd (pd_add (pd_v 3) (pd_lc rfl sc__law_odd.nd (di_any (pd_v 2)) (blkOk_by (own := [("_law_word_here", 6), ("_law_one_here", 7), ("_law_two", 8)]) (N := N__law_odd) (sc := defScope s__law_odd) (by decide +kernel)) (gT_ok (js := [6, 7, 8])) rfl (fun _ _ _ _ _ => pg_tup rfl (dgs_cons (pg_name (i := 6) sc__law_odd.nd rfl (by first | exact Or.inl rfl | exact Or.inr rfl)) (dgs_cons (pg_name (i := 7) sc__law_odd.nd rfl (by first | exact Or.inl rfl | exact Or.inr rfl)) (dgs_cons (pg_name (i := 8) sc__law_odd.nd rfl (by first | exact Or.inl rfl | exact Or.inr rfl)) (dgs_nil))))) (fun _ _ _ _ _ => dts_one (dt_notIn (units65 hr) (pd_tup (da_cons (pd_v 6) (da_cons (pd_v 8) (da_cons (pd_v 7) (da_nil))))) (pd_v 2))) (fun _ _ _ _ _ => pd_tup (da_cons (pd_v 6) (da_cons (pd_v 8) (da_cons (pd_v 7) (da_nil))))))))
    (dss_cons (ds_set (i := 4) sc__law_odd.nd (pd_dctN (dps_cons (pd_str) (pd_str) (dps_cons (pd_str) (pd_str) (dps_nil)))))
    (dss_cons (ds_set (i := 3) sc__law_odd.nd (pd_add (pd_v 3) (pd_lc rfl sc__law_odd.nd (di_any (pd_v 2)) (blkOk_by (own := [("_law_word_here", 6), ("_law_one_here", 7), ("_law_two", 8)]) (N := N__law_odd) (sc := defScope s__law_odd) (by decide +kernel)) (gT_ok (js := [6, 7, 8])) rfl (fun _ _ _ _ _ => pg_tup rfl (dgs_cons (pg_name (i := 6) sc__law_odd.nd rfl (by first | exact Or.inl rfl | exact Or.inr rfl)) (dgs_cons (pg_name (i := 7) sc__law_odd.nd rfl (by first | exact Or.inl rfl | exact Or.inr rfl)) (dgs_cons (pg_name (i := 8) sc__law_odd.nd rfl (by first | exact Or.inl rfl | exact Or.inr rfl)) (dgs_nil))))) (fun _ _ _ _ _ => dts_one (dt_notIn (units65 hr) (pd_tup (da_cons (pd_dget (units1 hr) (pd_v 4) (pd_v 6)) (da_cons (pd_v 7) (da_cons (pd_v 8) (da_nil))))) (pd_v 2))) (fun _ _ _ _ _ => pd_tup (da_cons (pd_dget (units1 hr) (pd_v 4) (pd_v 6)) (da_cons (pd_v 7) (da_cons (pd_v 8) (da_nil))))))))
    (dss_one (ds_ret (pd_callD G__law_one bi__law_one (hr.mono (by decide)) tk (da_cons (pd_v 0) (da_cons (pd_v 3) (da_nil)))))))))))
theorem ok_law (T : Tx w K mg) (G_Wish___init__ : MkG P w K mg base 6 "Wish" "Wish.__init__" s_Wish___init__ ["self", "part", "deed", "looks", "name", "least", "most"] [.non, .non] [("least", .int 1), ("most", .int 1)] sp_Wish___init__) (G_Plan___init__ : MkG P w K mg base 3 "Plan" "Plan.__init__" s_Plan___init__ ["self", "wishes", "orders", "strict"] [] [("orders", .tup []), ("strict", .tup [])] sp_Plan___init__) (G_demands : DefOk P w K mg base 2 "demands" "demands" s_demands ["plan"] sp_demands) (G_eased : DefOk P w K mg base 9 "eased" "eased" s_eased ["plan", "kept"] sp_eased) (G__law_cell_at : DefOk P w K mg base 1 "_law_cell_at" "_law_cell_at" s__law_cell_at ["_law_script", "_law_k"] sp__law_cell_at) (G__law_spring : DefOk P w K mg base 1 "_law_spring" "_law_spring" s__law_spring ["_law_cell"] sp__law_spring) (G__law_draw : DefOk P w K mg base 1 "_law_draw" "_law_draw" s__law_draw ["_law_well", "_law_many"] sp__law_draw_v2) (G__law_one : DefOk P w K mg base 2 "_law_one" "_law_one" s__law_one ["_law_well", "_law_some"] sp__law_one_v2) (G__law_wish : DefOk P w K mg base 3 "_law_wish" "_law_wish" s__law_wish ["_law_well", "_law_base", "_law_last"] sp__law_wish_v2) (G__law_orders : DefOk P w K mg base 3 "_law_orders" "_law_orders" s__law_orders ["_law_well", "_law_names"] sp__law_orders) (G__law_due : DefOk P w K mg base 1 "_law_due" "_law_due" s__law_due ["_law_wishes", "_law_laid"] sp__law_due_v3) (G__law_stays : DefOk P w K mg base 2 "_law_stays" "_law_stays" s__law_stays ["_law_trial", "_law_wishes", "_law_laid", "_law_firm"] sp__law_stays) (G__law_refused : DefOk P w K mg base 10 "_law_refused" "_law_refused" s__law_refused ["_law_trial", "_law_some"] sp__law_refused_v6) (G__law_odd : DefOk P w K mg base 3 "_law_odd" "_law_odd" s__law_odd ["_law_well", "_law_wishes", "_law_laid"] sp__law_odd_v3) : DefOk P w K mg base 11 "law" "law" s_law ["_law_script"] spLaw := by
  refine def_ok (r := rd_law) T.f_law sc_law ln_law (fun f cdv A outer s H E hr => ?_) pu_law
  have tk : Takes (cxOf (L2.CX P w) P w K mg base N_law "law" (defScope s_law) f cdv A outer s H E) (fun c d _ H => E c d H) := takes_of rfl rfl rfl rfl
  exact dss_cons (ds_set (i := 1) sc_law.nd (pd_callD G__law_spring bi__law_spring (hr.mono (by decide)) tk (da_cons (pd_callD G__law_cell_at bi__law_cell_at (hr.mono (by decide)) tk (da_cons (pd_v 0) (da_cons (pd_int) (da_nil)))) (da_nil))))
    (dss_cons (ds_set (i := 2) sc_law.nd (pd_callD G__law_draw bi__law_draw (hr.mono (by decide)) tk (da_cons (pd_v 1) (da_cons (pd_int) (da_nil)))))
    (dss_cons (ds_set (i := 3) sc_law.nd (pd_callD G__law_draw bi__law_draw (hr.mono (by decide)) tk (da_cons (pd_v 1) (da_cons (pd_int) (da_nil)))))
    (dss_cons (ds_set (i := 4) sc_law.nd (pd_ix (pd_lst (da_cons (pd_sub (pd_callD G__law_draw bi__law_draw (hr.mono (by decide)) tk (da_cons (pd_v 1) (da_cons (pd_int) (da_nil)))) (pd_int)) (da_cons (pd_sub (pd_callD G__law_draw bi__law_draw (hr.mono (by decide)) tk (da_cons (pd_v 1) (da_cons (pd_mul (pd_int) (pd_pow (pd_int) (pd_int))) (da_nil)))) (pd_pow (pd_int) (pd_int))) (da_nil)))) (pd_v 3)))
    (dss_cons (ds_setLc (i := 5) rfl sc_law.nd (sw_true rfl rfl rfl (by decide +kernel)) (di_any (pd_sl (pd_lst (da_cons (pd_str) (da_cons (pd_str) (da_cons (pd_str) (da_cons (pd_str) (da_cons (pd_str) (da_nil))))))) dp_none (dp_some (pd_v 2)))) (blkOk_by (own := [("_law_last", 20)]) (N := N_law) (sc := defScope s_law) (by decide +kernel)) (gN_ok) rfl (fun _ _ _ _ _ => pg_name (i := 20) sc_law.nd rfl (by first | exact Or.inl rfl | exact Or.inr rfl)) (fun _ _ _ _ _ => dts_nil) (fun _ _ _ _ _ => pd_callD G__law_wish bi__law_wish (hr.mono (by decide)) takes0 (da_cons (pd_v 1) (da_cons (pd_v 4) (da_cons (pd_v 20) (da_nil))))))
    (dss_cons (ds_set (i := 1) sc_law.nd (pd_callD G__law_spring bi__law_spring (hr.mono (by decide)) tk (da_cons (pd_callD G__law_cell_at bi__law_cell_at (hr.mono (by decide)) tk (da_cons (pd_v 0) (da_cons (pd_int) (da_nil)))) (da_nil))))
    (dss_cons (ds_set (i := 6) sc_law.nd (pd_callD G__law_orders bi__law_orders (hr.mono (by decide)) tk (da_cons (pd_v 1) (da_cons (pd_lc rfl sc_law.nd (di_any (pd_v 5)) (blkOk_by (own := [("_law_wish_here", 21)]) (N := N_law) (sc := defScope s_law) (by decide +kernel)) (gN_ok) rfl (fun _ _ _ _ _ => pg_name (i := 21) sc_law.nd rfl (by first | exact Or.inl rfl | exact Or.inr rfl)) (fun _ _ _ _ _ => dts_nil) (fun _ _ _ _ _ => pd_ix (pd_v 21) (pd_int))) (da_nil)))))
    (dss_cons (ds_set (i := 7) sc_law.nd (pd_callD G__law_one bi__law_one (hr.mono (by decide)) tk (da_cons (pd_v 1) (da_cons (pd_lst (da_cons (pd_tup (da_nil)) (da_cons (pd_tup (da_cons (pd_str) (da_nil))) (da_cons (pd_tup (da_cons (pd_str) (da_cons (pd_str) (da_nil)))) (da_cons (pd_tup (da_cons (pd_str) (da_cons (pd_str) (da_cons (pd_str) (da_nil))))) (da_nil)))))) (da_nil)))))
    (dss_cons (ds_set (i := 8) sc_law.nd (pd_lstM (da_nil)))
    (dss_cons (ds_for (passes_of rfl) rfl (di_any (pd_v 5)) (pg_name (i := 9) sc_law.nd rfl (by first | exact Or.inl rfl | exact Or.inr rfl)) (gN_ok) (dss_one (ds_expr (pd_app (pd_v 8) (pd_mk G_Wish___init__ kb_Wish___init___1 (hr.mono (by decide)) tk (cal_cons (da_cons (pd_ix (pd_v 9) (pd_int)) (da_cons (pd_ix (pd_v 9) (pd_int)) (da_cons (pd_ix (pd_v 9) (pd_int)) (da_nil)))) (dk_cons (pd_ix (pd_v 9) (pd_int)) (dk_cons (pd_ix (pd_v 9) (pd_int)) (dk_cons (pd_ix (pd_v 9) (pd_int)) (dk_nil))))))))))
    (dss_cons (ds_set (i := 10) sc_law.nd (pd_mk G_Plan___init__ kb_Plan___init___2 (hr.mono (by decide)) tk (cal_cons (da_cons (pd_seal (pd_v 8)) (da_nil)) (dk_cons (pd_tupleOf T.b_tuple bb_tuple (da_cons (pd_v 6) (da_nil))) (dk_cons (pd_v 7) (dk_nil))))))
    (dss_cons (ds_set (i := 11) sc_law.nd (pd_callD G__law_due bi__law_due (hr.mono (by decide)) tk (da_cons (pd_v 5) (da_cons (pd_v 6) (da_nil)))))
    (dss_cons (ds_if (PW.pt (dw_or (dt_ne hr.units (pd_callD G_demands bi_demands (hr.mono (by decide)) tk (da_cons (pd_v 10) (da_nil))) (pd_v 11)) (dw_or1 (dt_ne hr.units (pd_callDK0 G_demands bk_demands_0 (hr.mono (by decide)) tk (dk_cons (pd_v 10) (dk_nil))) (pd_v 11))))) (dss_one (ds_ret (pd_bl))) (dss_nil))
    (dss_cons (ds_for (passes_of rfl) rfl (di_any (pd_add (pd_lst (da_cons (pd_callD G__law_cell_at bi__law_cell_at (hr.mono (by decide)) tk (da_cons (pd_v 0) (da_cons (pd_int) (da_nil)))) (da_nil))) (pd_sl (pd_v 0) (dp_some (pd_int)) (dp_some (pd_int))))) (pg_name (i := 12) sc_law.nd rfl (by first | exact Or.inl rfl | exact Or.inr rfl)) (gN_ok) (dss_cons (ds_set (i := 1) sc_law.nd (pd_callD G__law_spring bi__law_spring (hr.mono (by decide)) tk (da_cons (pd_v 12) (da_nil))))
    (dss_cons (ds_set (i := 13) sc_law.nd (pd_callD G__law_draw bi__law_draw (hr.mono (by decide)) tk (da_cons (pd_v 1) (da_cons (pd_int) (da_nil)))))
    (dss_cons (ds_set (i := 14) sc_law.nd (pd_lc rfl sc_law.nd (di_any (pd_v 11)) (blkOk_by (own := [("_law_demand", 22)]) (N := N_law) (sc := defScope s_law) (by decide +kernel)) (gN_ok) rfl (fun _ _ _ _ _ => pg_name (i := 22) sc_law.nd rfl (by first | exact Or.inl rfl | exact Or.inr rfl)) (fun _ _ _ _ _ => dts_one (dt_eq hr.units (pd_callD G__law_draw bi__law_draw (hr.mono (by decide)) takes0 (da_cons (pd_v 1) (da_cons (pd_int) (da_nil)))) (pd_int))) (fun _ _ _ _ _ => pd_v 22)))
    (dss_cons (ds_set (i := 15) sc_law.nd (pd_ix (pd_lst (da_cons (pd_v 14) (da_cons (pd_rev (pd_v 14)) (da_cons (pd_add (pd_v 14) (pd_sl (pd_v 14) dp_none (dp_some (pd_int)))) (da_nil))))) (pd_v 13)))
    (dss_cons (ds_set (i := 16) sc_law.nd (pd_listOf T.b_list bb_list (da_cons (pd_v 15) (da_nil))))
    (dss_cons (ds_set (i := 17) sc_law.nd (pd_callD G_eased bi_eased (hr.mono (by decide)) tk (da_cons (pd_v 10) (da_cons (pd_v 15) (da_nil)))))
    (dss_cons (ds_setLc (i := 18) rfl sc_law.nd (sw_true rfl rfl rfl (by decide +kernel)) (di_any (pd_v 5)) (blkOk_by (own := [("_law_wish_here", 21)]) (N := N_law) (sc := defScope s_law) (by decide +kernel)) (gN_ok) rfl (fun _ _ _ _ _ => pg_name (i := 21) sc_law.nd rfl (by first | exact Or.inl rfl | exact Or.inr rfl)) (fun _ _ _ _ _ => dts_nil) (fun _ _ _ _ _ => pd_add (pd_sl (pd_v 21) dp_none (dp_some (pd_int))) (pd_tup (da_cons (pd_mul (pd_ix (pd_v 21) (pd_int)) (pd_intOf T.b_int bb_int (da_cons (pd_in (units65 hr) (pd_tup (da_cons (pd_str) (da_cons (pd_ix (pd_v 21) (pd_int)) (da_nil)))) (pd_v 14)) (da_nil)))) (da_cons (pd_ix (pd_v 21) (pd_int)) (da_nil))))))
    (dss_cons (ds_setLcM (i := 8) rfl sc_law.nd (sw_true rfl rfl rfl (by decide +kernel)) (di_any (pd_v 6)) (blkOk_by (own := [("_law_order", 23)]) (N := N_law) (sc := defScope s_law) (by decide +kernel)) (gN_ok) rfl (fun _ _ _ _ _ => pg_name (i := 23) sc_law.nd rfl (by first | exact Or.inl rfl | exact Or.inr rfl)) (fun _ _ _ _ _ => dts_one (dt_in (units65 hr) (pd_v 23) (pd_v 14))) (fun _ _ _ _ _ => pd_v 23))
    (dss_cons (ds_if (PW.pt (dw_or (dt_not (dt_tru (pd_callD G__law_stays bi__law_stays (hr.mono (by decide)) tk (da_cons (pd_v 17) (da_cons (pd_v 18) (da_cons (pd_seal (pd_v 8)) (da_cons (pd_v 7) (da_nil)))))))) (dw_or1 (dt_ne hr.units (pd_v 15) (pd_v 16))))) (dss_one (ds_ret (pd_bl))) (dss_nil))
    (dss_cons (ds_set (i := 19) sc_law.nd (pd_callD G__law_draw bi__law_draw (hr.mono (by decide)) tk (da_cons (pd_v 1) (da_cons (pd_add (pd_len T.b_len bb_len (da_cons (pd_v 14) (da_nil))) (pd_int)) (da_nil)))))
    (dss_cons (ds_if (dt_not (dt_tru (pd_callD G__law_refused bi__law_refused (hr.mono (by decide)) tk (da_cons (pd_v 10) (da_cons (pd_add (pd_add (pd_sl (pd_v 14) dp_none (dp_some (pd_v 19))) (pd_lst (da_cons (pd_callD G__law_odd bi__law_odd (hr.mono (by decide)) tk (da_cons (pd_v 1) (da_cons (pd_v 5) (da_cons (pd_v 6) (da_nil))))) (da_nil)))) (pd_sl (pd_v 14) (dp_some (pd_v 19)) dp_none)) (da_nil)))))) (dss_one (ds_ret (pd_bl))) (dss_nil))
    (dss_one (ds_if (PW.pt (dw_or (dt_not (dt_tru (pd_callD G__law_stays bi__law_stays (hr.mono (by decide)) tk (da_cons (pd_v 10) (da_cons (pd_v 5) (da_cons (pd_v 6) (da_cons (pd_v 7) (da_nil)))))))) (dw_or1 (dt_ne hr.units (pd_callD G_demands bi_demands (hr.mono (by decide)) tk (da_cons (pd_callDK0 G_eased bk_eased_1 (hr.mono (by decide)) tk (dk_cons (pd_v 14) (dk_cons (pd_v 10) (dk_nil)))) (da_nil))) (pd_v 14))))) (dss_one (ds_ret (pd_bl))) (dss_nil)))))))))))))))
    (dss_one (ds_ret (pd_bl))))))))))))))))
end
theorem all_ok {l : PySem.W.OpenLaw} {w : World} {K : PySem.W.Frag} {mg : Str → Option Value} {fa : Addr} (hfa : mg "law" = some (.ref fa)) (T : Tx w K mg) : ∃ fd : FuncData, (∀ (s : Shared) (u : Value), BindsTo s fd ⟨[u], []⟩ [("_law_script", u)]) ∧ ∀ base : Heap, K.In base → base.Ns mainGlobals mg → FnOk l.prog w K mg base (L2.CX l.prog w) 11 fa fd ["_law_script"] (lP K spLaw) := by
  refine law_mk bi_law T.f_law hfa fun base _ _ => ?_
  have X_BadPlan : XMk l.prog w K mg base 1 "BadPlan" ["self", "why"] spTE _ := xmk_of T.x_BadPlan sc_TE fun f cdv A outer s H E => te_walk T.b_ValueError rfl T.vV (pv 0) (pv 1) (pv 0) (pv 1) rfl rfl rfl rfl rfl rfl
  have X_BadWish : XMk l.prog w K mg base 1 "BadWish" ["self", "why"] spTE _ := xmk_of T.x_BadWish sc_TE fun f cdv A outer s H E => te_walk T.b_ValueError rfl T.vV (pv 0) (pv 1) (pv 0) (pv 1) rfl rfl rfl rfl rfl rfl
  have G_is_whole := ok_is_whole (P := l.prog) (w := w) (base := base) T
  have G_is_name := ok_is_name (P := l.prog) (w := w) (base := base) T
  have G_are_unlike := ok_are_unlike (P := l.prog) (w := w) (base := base) T
  have G_is_order := ok_is_order (P := l.prog) (w := w) (base := base) T
  have G_Plan_wishes := ok_Plan_wishes (P := l.prog) (w := w) (base := base) T
  have G__law_cell_at := ok__law_cell_at (P := l.prog) (w := w) (base := base) T
  have G__law_spring := ok__law_spring (P := l.prog) (w := w) (base := base) T
  have G__law_draw := ok__law_draw (P := l.prog) (w := w) (base := base) T
  have G__law_due := ok__law_due (P := l.prog) (w := w) (base := base) T
  have G__law_row := ok__law_row (P := l.prog) (w := w) (base := base) T
  have G_is_one := ok_is_one (P := l.prog) (w := w) (base := base) T G_is_whole G_are_unlike
  have G_is_count := ok_is_count (P := l.prog) (w := w) (base := base) T G_is_whole
  have G_are_orders := ok_are_orders (P := l.prog) (w := w) (base := base) T G_are_unlike G_is_order
  have G_are_strict := ok_are_strict (P := l.prog) (w := w) (base := base) T G_is_name G_are_unlike
  have G_demands := ok_demands (P := l.prog) (w := w) (base := base) T G_Plan_wishes
  have G__law_one := ok__law_one (P := l.prog) (w := w) (base := base) T G__law_draw
  have G__law_word := ok__law_word (P := l.prog) (w := w) (base := base) T G__law_draw
  have G__law_look := ok__law_look (P := l.prog) (w := w) (base := base) T G__law_draw
  have G__law_stays := ok__law_stays (P := l.prog) (w := w) (base := base) T G_Plan_wishes G__law_row
  have G_is_plain := ok_is_plain (P := l.prog) (w := w) (base := base) T G_is_whole G_is_one
  have G_Plan___init__ := ok_Plan___init__ (P := l.prog) (w := w) (base := base) T G_are_unlike G_are_orders G_are_strict X_BadPlan
  have G__law_wish := ok__law_wish (P := l.prog) (w := w) (base := base) T G__law_draw G__law_one G__law_word G__law_look
  have G__law_orders := ok__law_orders (P := l.prog) (w := w) (base := base) T G__law_draw G__law_one
  have G__law_odd := ok__law_odd (P := l.prog) (w := w) (base := base) T G__law_one
  have G_is_look := ok_is_look (P := l.prog) (w := w) (base := base) T G_is_plain
  have G_are_looks := ok_are_looks (P := l.prog) (w := w) (base := base) T G_is_look
  have G_Wish___init__ := ok_Wish___init__ (P := l.prog) (w := w) (base := base) T G_is_name G_are_looks G_is_count X_BadWish
  have G_eased_wish := ok_eased_wish (P := l.prog) (w := w) (base := base) T G_Wish___init__
  have G_eased := ok_eased (P := l.prog) (w := w) (base := base) T G_Plan___init__ G_Plan_wishes G_demands G_eased_wish X_BadPlan
  have G__law_refused := ok__law_refused (P := l.prog) (w := w) (base := base) T G_eased
  exact ok_law T G_Wish___init__ G_Plan___init__ G_demands G_eased G__law_cell_at G__law_spring G__law_draw G__law_one G__law_wish G__law_orders G__law_due G__law_stays G__law_refused G__law_odd
theorem walk {l : PySem.W.OpenLaw} {q : Program} {loose : List Str} {XP : (Str → Option Value) → Heap → Prop} {YP : World → Heap → Prop} {d : DefRec} {K : Params → PySem.W.Frag} (hn : l.most = some 63) (hdf : d.params.defaults = []) (hY : ∀ (w : World) (h : Heap), YP w h → (K w.params).In h)
    (FF : ∀ (w : World) (mg : Str → Option Value) (fa : Addr) (h : Heap), (K w.params).In h → h.Ns mainGlobals mg → mg d.name = some (.ref fa) →
      ∃ fd : FuncData, (∀ (s : Shared) (u : Value), BindsTo s fd ⟨[u], []⟩ [("_law_script", u)]) ∧ ∀ base : Heap, (K w.params).In base → base.Ns mainGlobals mg → FnOk l.prog w (K w.params) mg base (L2.CX l.prog w) 11 fa fd ["_law_script"] (lP (K w.params) spLaw)) :
    PySem.W.WalkO q loose XP YP l.row.toRowW d [] (fun f vs => PySem.call f vs) :=
  L2.walk_of (n := 63) (k := 11) (x := "_law_script") (CX := fun w => L2.CX l.prog w) (sp := fun w => lP (K w.params) spLaw) hn (by decide) hdf ⟨rfl, by decide, by decide⟩ hY FF (fun w H a ns hl _ hS => law_sp (K w.params) H a ns hl hS) fun w H s e s' z => cx_false z
end Lw
open PySem PySem.W PyProof.Rows in
set_option maxRecDepth 100000 in
set_option maxHeartbeats 0 in
theorem PySem.Challenge.cw_stoodin_k38_plans_eased_holds : PySem.Challenge.rw_stoodin_k38_plans_eased.Holds := by
  w_on; o_law; k_head; (case hw => w_witness2)
  k_fill
  refine Lw.walk (l := PySem.Challenge.rw_stoodin_k38_plans_eased) rfl rfl (fun w h Y => PySem.W.kIn_of Y) ?F
  case F =>
    intro w mg fa h KX G hmg
    refine' Lw.all_ok hmg (Lw.Tx.mk (DL.funAt_mk KX G ?u0 ?u1 ?u2 ?u3) (DL.funAt_mk KX G ?u4 ?u5 ?u6 ?u7) (DL.funAt_mk KX G ?u8 ?u9 ?u10 ?u11) (DL.funAt_mk KX G ?u12 ?u13 ?u14 ?u15) (DL.funAt_mk KX G ?u16 ?u17 ?u18 ?u19) (DL.funAt_mk KX G ?u20 ?u21 ?u22 ?u23) (DL.funAt_mk KX G ?u24 ?u25 ?u26 ?u27) (DL.funAt_mk KX G ?u28 ?u29 ?u30 ?u31) (DL.mkAt_mk KX G ?u32 ?u33 ?u34 ?u35 ?u36 ?u37 ?u38 ?u39 ?u40 ?u41) (DL.funAt_mk KX G ?u42 ?u43 ?u44 ?u45) (DL.funAt_mk KX G ?u46 ?u47 ?u48 ?u49) (DL.funAt_mk KX G ?u50 ?u51 ?u52 ?u53) (DL.mkAt_mk KX G ?u54 ?u55 ?u56 ?u57 ?u58 ?u59 ?u60 ?u61 ?u62 ?u63) (DL.metAt_mk ?u64 ?u65 ?u66 ?u67 ?u68 ?u69 ?u70 ?u71 ?u72) (DL.funAt_mk KX G ?u73 ?u74 ?u75 ?u76) (DL.funAt_mk KX G ?u77 ?u78 ?u79 ?u80) (DL.funAt_mk KX G ?u81 ?u82 ?u83 ?u84) (DL.funAt_mk KX G ?u85 ?u86 ?u87 ?u88) (DL.funAt_mk KX G ?u89 ?u90 ?u91 ?u92) (DL.funAt_mk KX G ?u93 ?u94 ?u95 ?u96) (DL.funAt_mk KX G ?u97 ?u98 ?u99 ?u100) (DL.funAt_mk KX G ?u101 ?u102 ?u103 ?u104) (DL.funAt_mk KX G ?u105 ?u106 ?u107 ?u108) (DL.funAt_mk KX G ?u109 ?u110 ?u111 ?u112) (DL.funAt_mk KX G ?u113 ?u114 ?u115 ?u116) (DL.funAt_mk KX G ?u117 ?u118 ?u119 ?u120) (DL.funAt_mk KX G ?u121 ?u122 ?u123 ?u124) (DL.funAt_mk KX G ?u125 ?u126 ?u127 ?u128) (DL.funAt_mk KX G ?u129 ?u130 ?u131 ?u132) (DL.funAt_mk KX G ?u133 ?u134 ?u135 ?u136) (DL.funAt_mk KX G ?u137 ?u138 ?u139 ?u140) (DL.xAt_mk KX G ?u141 ?u142 ?u143 ?u144 ?u145 ?u146 ?u147 ?u148 ?u149) (DL.xAt_mk KX G ?u150 ?u151 ?u152 ?u153 ?u154 ?u155 ?u156 ?u157 ?u158) (?u159) (PySem.W.mg_none_of KX G ?u160) (PySem.W.mg_none_of KX G ?u161) (PySem.W.mg_none_of KX G ?u162) (PySem.W.mg_none_of KX G ?u163) (PySem.W.mg_none_of KX G ?u164) (PySem.W.mg_none_of KX G ?u165) (PySem.W.mg_none_of KX G ?u166) (PySem.W.mg_none_of KX G ?u167) (PySem.W.mg_none_of KX G ?u168) (PySem.W.mg_none_of KX G ?u169) (PySem.W.mg_none_of KX G ?u170) (PySem.W.mg_none_of KX G ?u171) (DL.constS_mk KX G ?u172 ?u173) (DL.constI_mk KX G ?u174 ?u175) (DL.constI_mk KX G ?u176 ?u177) (DL.constI_mk KX G ?u178 ?u179) (DL.constI_mk KX G ?u180 ?u181) (DL.constI_mk KX G ?u182 ?u183) (DL.constI_mk KX G ?u184 ?u185) (DL.constI_mk KX G ?u186 ?u187) (DL.kd_mk KX G ?u188 ?u189 ?u190 ?u191 ?u192) (DL.exAt_own KX G ?u193 ?u194) (DL.fldB_ok ?u195) (DL.fldB_ok ?u196) (DL.fldB_ok ?u197) (DL.fldB_ok ?u198) (DL.fldB_ok ?u199) (DL.fldB_ok ?u200) (DL.fldB_ok ?u201) (DL.fldB_ok ?u202) (DL.fldB_ok ?u203) (DL.glb_mk KX G ?u204) (DL.glb_mk KX G ?u205) (DL.glb_mk KX G ?u206) (DL.glb_mk KX G ?u207) (DL.isoB_ok ?u208) (DL.con_mk KX G ?u209 ?u210) (DL.xcB_ok ?u211) (DL.xiB_ok ?u212))
    (case u0 => k_is)
    (case u1 => k_is)
    (case u2 => k_is)
    (case u3 => k_is)
    (case u4 => k_is)
    (case u5 => k_is)
    (case u6 => k_is)
    (case u7 => k_is)
    (case u8 => k_is)
    (case u9 => k_is)
    (case u10 => k_is)
    (case u11 => k_is)
    (case u12 => k_is)
    (case u13 => k_is)
    (case u14 => k_is)
    (case u15 => k_is)
    (case u16 => k_is)
    (case u17 => k_is)
    (case u18 => k_is)
    (case u19 => k_is)
    (case u20 => k_is)
    (case u21 => k_is)
    (case u22 => k_is)
    (case u23 => k_is)
    (case u24 => k_is)
    (case u25 => k_is)
    (case u26 => k_is)
    (case u27 => k_is)
    (case u28 => k_is)
    (case u29 => k_is)
    (case u30 => k_is)
    (case u31 => k_is)
    (case u32 => k_is)
    (case u33 => k_is)
    (case u34 => k_is)
    (case u35 => k_is)
    (case u36 => k_is)
    (case u37 => k_is)
    (case u38 => k_is)
    (case u39 => k_is)
    (case u40 => kernel_rfl)
    (case u41 => kernel_rfl)
    (case u42 => k_is)
    (case u43 => k_is)
    (case u44 => k_is)
    (case u45 => k_is)
    (case u46 => k_is)
    (case u47 => k_is)
    (case u48 => k_is)
    (case u49 => k_is)
    (case u50 => k_is)
    (case u51 => k_is)
    (case u52 => k_is)
    (case u53 => k_is)
    (case u54 => k_is)
    (case u55 => k_is)
    (case u56 => k_is)
    (case u57 => k_is)
    (case u58 => k_is)
    (case u59 => k_is)
    (case u60 => k_is)
    (case u61 => k_is)
    (case u62 => kernel_rfl)
    (case u63 => kernel_rfl)
    (case u64 => k_is)
    (case u65 => k_is)
    (case u66 => k_is)
    (case u67 => k_is)
    (case u68 => k_is)
    (case u69 => k_is)
    (case u70 => kernel_rfl)
    (case u71 => kernel_rfl)
    (case u72 => kernel_rfl)
    (case u73 => k_is)
    (case u74 => k_is)
    (case u75 => k_is)
    (case u76 => k_is)
    (case u77 => k_is)
    (case u78 => k_is)
    (case u79 => k_is)
    (case u80 => k_is)
    (case u81 => k_is)
    (case u82 => k_is)
    (case u83 => k_is)
    (case u84 => k_is)
    (case u85 => k_is)
    (case u86 => k_is)
    (case u87 => k_is)
    (case u88 => k_is)
    (case u89 => k_is)
    (case u90 => k_is)
    (case u91 => k_is)
    (case u92 => k_is)
    (case u93 => k_is)
    (case u94 => k_is)
    (case u95 => k_is)
    (case u96 => k_is)
    (case u97 => k_is)
    (case u98 => k_is)
    (case u99 => k_is)
    (case u100 => k_is)
    (case u101 => k_is)
    (case u102 => k_is)
    (case u103 => k_is)
    (case u104 => k_is)
    (case u105 => k_is)
    (case u106 => k_is)
    (case u107 => k_is)
    (case u108 => k_is)
    (case u109 => k_is)
    (case u110 => k_is)
    (case u111 => k_is)
    (case u112 => k_is)
    (case u113 => k_is)
    (case u114 => k_is)
    (case u115 => k_is)
    (case u116 => k_is)
    (case u117 => k_is)
    (case u118 => k_is)
    (case u119 => k_is)
    (case u120 => k_is)
    (case u121 => k_is)
    (case u122 => k_is)
    (case u123 => k_is)
    (case u124 => k_is)
    (case u125 => k_is)
    (case u126 => k_is)
    (case u127 => k_is)
    (case u128 => k_is)
    (case u129 => k_is)
    (case u130 => k_is)
    (case u131 => k_is)
    (case u132 => k_is)
    (case u133 => k_is)
    (case u134 => k_is)
    (case u135 => k_is)
    (case u136 => k_is)
    (case u137 => k_is)
    (case u138 => k_is)
    (case u139 => k_is)
    (case u140 => k_is)
    (case u141 => k_is)
    (case u142 => k_is)
    (case u143 => k_is)
    (case u144 => k_is)
    (case u145 => k_is)
    (case u146 => k_is)
    (case u147 => k_is)
    (case u148 => kernel_rfl)
    (case u149 => kernel_rfl)
    (case u150 => k_is)
    (case u151 => k_is)
    (case u152 => k_is)
    (case u153 => k_is)
    (case u154 => k_is)
    (case u155 => k_is)
    (case u156 => k_is)
    (case u157 => kernel_rfl)
    (case u158 => kernel_rfl)
    (case u159 => k_is)
    (case u160 => k_is)
    (case u161 => k_is)
    (case u162 => k_is)
    (case u163 => k_is)
    (case u164 => k_is)
    (case u165 => k_is)
    (case u166 => k_is)
    (case u167 => k_is)
    (case u168 => k_is)
    (case u169 => k_is)
    (case u170 => k_is)
    (case u171 => k_is)
    (case u172 => k_is)
    (case u173 => exact ⟨_, rfl⟩)
    (case u174 => k_is)
    (case u175 => exact ⟨_, rfl⟩)
    (case u176 => k_is)
    (case u177 => exact ⟨_, rfl⟩)
    (case u178 => k_is)
    (case u179 => exact ⟨_, rfl⟩)
    (case u180 => k_is)
    (case u181 => exact ⟨_, rfl⟩)
    (case u182 => k_is)
    (case u183 => exact ⟨_, rfl⟩)
    (case u184 => k_is)
    (case u185 => exact ⟨_, rfl⟩)
    (case u186 => k_is)
    (case u187 => exact ⟨_, rfl⟩)
    (case u188 => k_is)
    (case u189 => k_is)
    (case u190 => k_keys)
    (case u191 => decide)
    (case u192 => kernel_rfl)
    (case u193 => k_is)
    (case u194 => kernel_rfl)
    (case u195 => kernel_rfl)
    (case u196 => kernel_rfl)
    (case u197 => kernel_rfl)
    (case u198 => kernel_rfl)
    (case u199 => kernel_rfl)
    (case u200 => kernel_rfl)
    (case u201 => kernel_rfl)
    (case u202 => kernel_rfl)
    (case u203 => kernel_rfl)
    (case u204 => k_is)
    (case u205 => k_is)
    (case u206 => k_is)
    (case u207 => k_is)
    (case u208 => kernel_rfl)
    (case u209 => k_is)
    (case u210 => kernel_rfl)
    (case u211 => kernel_rfl)
    (case u212 => kernel_rfl)
#print axioms PySem.Challenge.cw_stoodin_k38_plans_eased_holds
